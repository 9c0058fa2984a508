import PyProof.Rows.All
import Wide.All
import OpenK.AllK
import Wide.FinOn
import HandS.ForMost
import HandS.Exc
import HandS.HeadNt
import HandS.Property
import HandS.HeadHook3
import HandS.Head2
import HandS.ExcInit
import HandS.ExcField
import HandS.ExcIs
import HandS.ExcOwn
import HandS.HeadEnd
import PySem.Challenge.RW_passwidth_k11_what_is_a_ring
import HandS.Lambda
import HandS.WordsExc
import HandS.IsInst
import HandS.Deep
import HandS.Style
import HandS.Text
import HandS.TupAny
import HandS.RaiseMore
import HandS.WordsDict
import HandS.TupLen
import HandS.More
import HandS.SetFor
import HandS.Strs
import HandS.Zip
import HandS.Star
import HandS.Ends
import HandS.Comp
import HandS.Defaults
import HandS.HeadHook1
import HandS.HeadHook2
import HandS.Head0
import HandS.Head1
import PyProof.FitsInt
import PyProof.StrLawsRepr
import HandS.ClsMeth
import HandS.DictComp
import HandS.FStr
import KE.GoesMore
import KE.GoesEnum
import PyProof.DictUpdate
import PyProof.DictDisplay
import KE.KDictOf
import HandS.StrMore
import KE.KEqDict
import KE.KTryMore
import HandS.TryOnly
import HandS.TryMany
import KE.KIsAll
import KE.KIntText
import PyProof.Rows.ReprOcc
import PyProof.InstNe
set_option Elab.async false
set_option linter.all false
set_option autoImplicit false
set_option maxRecDepth 100000
set_option maxHeartbeats 4000000
/-! MPK: what a head says of classes. -/
namespace M
open PySem PySem.W PySem.Calls PyProof.Rows L2
/-- a property's getter -/
def pf (K : PySem.W.Frag) (C : Addr) (m : Str) : Addr := match recIn K (He.ma K C m) "property" with
  | some (.ref f :: _) => f
  | _ => 0
def propB (K : PySem.W.Frag) (C : Addr) (m : Str) : Bool := He.eqO (findIn K (.ref C) m) (some (some (.ref (He.ma K C m)))) && (He.eqO (specialIn K (.ref (He.ma K C m)) "__get__") (some (some (.builtin "property.__get__"))) &&
  (decide (takesIn K (.ref (He.ma K C m)) = some true) && (match recIn K (He.ma K C m) "property" with
    | some (.ref _ :: _) => true
    | _ => false)))
theorem propB_ok {K : PySem.W.Frag} {C : Addr} {m : Str} (h : propB K C m = true) : PropOf K C m (He.ma K C m) (pf K C m) := by
  obtain ⟨h1, h⟩ := He.ba h
  obtain ⟨h2, h⟩ := He.ba h
  obtain ⟨h3, h4⟩ := He.ba h
  refine ⟨He.eqO_ok h1, He.eqO_ok h2, of_decide_eq_true h3, ?_⟩
  unfold pf
  split at h4
  · rename_i f r e
    exact ⟨r, by rw [e]⟩
  · cases h4
def creadB (K : PySem.W.Frag) (C : Addr) : Bool := readsIn K C (.type "type") && He.eqO (specialIn K (.ref C) "__getattribute__") (some (some (.builtin "type.__getattribute__")))
theorem creadB_ok {K : PySem.W.Frag} {C : Addr} (h : creadB K C = true) : ClX.CRead K C (.type "type") := let ⟨h1, h2⟩ := He.ba h; ⟨h1, He.eqO_ok h2⟩
def cmetB (K : PySem.W.Frag) (C : Addr) (m : Str) : Bool := He5.wrapB K C "classmethod" "classmethod.__get__" m && fnIn K (He5.wf K C "classmethod" m)
theorem cmetB_ok {K : PySem.W.Frag} {C : Addr} {m : Str} (h : cmetB K C m = true) : ClX.CMet K C (.type "type") m (He.ma K C m) (He5.wf K C "classmethod" m) := let ⟨h1, h2⟩ := He.ba h; He5.cmet_of h1 h2
/-- an own exception class over ValueError -/
def oexB (K : PySem.W.Frag) (C : Addr) : Bool := (match K.lookup C with
  | some ⟨.type T, _, .cls cd, sl⟩ => match cd.mro, sl.toList with
    | .ref D :: bm, [_, _, _, _, k4, _] => decide (T = "type") && (decide (D = C) && (cd.hasDict && (!cd.hasDel && (decide (k4 = some (.builtin "ValueError.__new__")) && PySem.HandSPX.refsVE bm))))
    | _, _ => false
  | _ => false) && (He.eqO (findIn K (.ref C) "__setattr__") (some (some (.builtin "object.__setattr__"))) && (decide (subIn K (.ref C) (.type "BaseException") = some true) && (decide (typeIn K (.ref C) = some (.type "type")) && keepIn K (.ref C))))
theorem oexB_ok {K : PySem.W.Frag} {C : Addr} (h : oexB K C = true) : L2.OexC K C := by
  obtain ⟨h1, h⟩ := He.ba h
  obtain ⟨h2, h⟩ := He.ba h
  obtain ⟨h3, h⟩ := He.ba h
  obtain ⟨h4, h5⟩ := He.ba h
  refine ⟨?_, He.eqO_ok h2, of_decide_eq_true h3, of_decide_eq_true h4, h5⟩
  split at h1
  · rename_i T dd cd sl e
    split at h1
    · rename_i D bm k0 k1 k2 k3 k4 k5 e1 e2
      obtain ⟨g1, h1⟩ := He.ba h1
      obtain ⟨g2, h1⟩ := He.ba h1
      obtain ⟨g3, h1⟩ := He.ba h1
      obtain ⟨g4, h1⟩ := He.ba h1
      obtain ⟨g5, g6⟩ := He.ba h1
      have g1 := of_decide_eq_true g1
      have g2 := of_decide_eq_true g2
      have g5 := of_decide_eq_true g5
      subst g1 g2 g5
      obtain ⟨nm, bs, mro, ns, qn, hd, sn, sb, ab, col, del⟩ := cd
      dsimp only at e1 g3 g4
      subst e1 g3
      have g4 : del = false := by simpa using g4
      subst g4
      have e3 : sl = #[k0, k1, k2, k3, some (.builtin "ValueError.__new__"), k5] := by
        have := congrArg List.toArray e2
        simpa using this
      subst e3
      exact ⟨nm, qn, ns, bs, bm, sn, sb, ab, col, dd, k0, k1, k2, k3, k5, e, g6⟩
    · cases h1
  · cases h1
def ownB (K : PySem.W.Frag) (D : Addr) : Bool := PySem.W.plainGet K D "__class__" && (PySem.W.hasDictIn K D && (He.eqO (PySem.W.findIn K (.ref D) "__class__") (some (some (.builtin "object.__class__"))) && (He.eqO (PySem.W.specialIn K (.builtin "object.__class__") "__get__") (some (some (.builtin "getset_descriptor.__get__"))) &&
  (decide (PySem.W.takesIn K (.builtin "object.__class__") = some true) && decide (PySem.W.mroIn K D (.type "object") = some true)))))
def eicB (K : PySem.W.Frag) (D : Addr) : Bool := He.eqO (findIn K (.ref D) "__getattribute__") (some (some (.builtin "BaseException.__getattribute__"))) && (He.eqO (findIn K (.ref D) "__getattr__") (some none) && (decide (subIn K (.ref D) (.type "BaseException") = some true) && (hasDictIn K D && (He.eqO (findIn K (.ref D) "__class__") (some (some (.builtin "object.__class__"))) &&
  (He.eqO (specialIn K (.builtin "object.__class__") "__get__") (some (some (.builtin "getset_descriptor.__get__"))) && (decide (takesIn K (.builtin "object.__class__") = some true) && decide (mroIn K D (.type "object") = some true)))))))
theorem eicB_ok {K : PySem.W.Frag} {D : Addr} (h : eicB K D = true) : L2.ExcC K D := by
  obtain ⟨h1, h⟩ := He.ba h
  obtain ⟨h2, h⟩ := He.ba h
  obtain ⟨h3, h⟩ := He.ba h
  obtain ⟨h4, h⟩ := He.ba h
  obtain ⟨h5, h⟩ := He.ba h
  obtain ⟨h6, h⟩ := He.ba h
  obtain ⟨h7, h8⟩ := He.ba h
  exact ⟨He.eqO_ok h1, He.eqO_ok h2, of_decide_eq_true h3, h4, He.eqO_ok h5, He.eqO_ok h6, of_decide_eq_true h7, of_decide_eq_true h8⟩
structure ExOk (K : PySem.W.Frag) (C : Addr) : Prop where
  o : L2.OexC K C
  f : L2.XfC K C
  i : L2.ExcC K C
def exkB (K : PySem.W.Frag) (C : Addr) : Bool := oexB K C && (L2.xfB K C && eicB K C)
theorem exkB_ok {K : PySem.W.Frag} {C : Addr} (h : exkB K C = true) : ExOk K C := let ⟨h1, h⟩ := He.ba h; let ⟨h2, h3⟩ := He.ba h; ⟨oexB_ok h1, L2.xfB_ok h2, eicB_ok h3⟩
structure IniOk (K : PySem.W.Frag) (C f : Addr) : Prop where
  iC : findIn K (.ref C) "__init__" = some (some (.ref f))
  tI : typeIn K (.ref f) = some (.type "function")
def iniB (K : PySem.W.Frag) (C : Addr) : Bool := He.eqO (findIn K (.ref C) "__init__") (some (some (.ref (He.ma K C "__init__")))) && decide (typeIn K (.ref (He.ma K C "__init__")) = some (.type "function"))
theorem iniB_ok {K : PySem.W.Frag} {C : Addr} (h : iniB K C = true) : IniOk K C (He.ma K C "__init__") := let ⟨h1, h2⟩ := He.ba h; ⟨He.eqO_ok h1, of_decide_eq_true h2⟩
abbrev bmVE : List Value := [.type "ValueError", .type "Exception", .type "BaseException", .type "object"]
def tyB : Option Value → Bool
  | some (.type t) => decide (t = "type")
  | _ => false
theorem tyB_ok {o : Option Value} (h : tyB o = true) : o = some (.type "type") := by
  cases o with
  | none => cases h
  | some v =>
    cases v with
    | type t => rw [of_decide_eq_true h]
    | _ => cases h
/-- the class at C is an exception class over ValueError, none of its own has an __init__ -/
def exoB (K : PySem.W.Frag) (C : Addr) : Bool := PySem.W.excIn K C bmVE "ValueError.__new__" && (decide (PySem.W.subIn K (.ref C) (.type "BaseException") = some true) && (tyB (PySem.W.typeIn K (.ref C)) && PySem.W.keepIn K (.ref C)))
structure Exo (K : PySem.W.Frag) (C : Addr) : Prop where
  ex : PySem.W.excIn K C bmVE "ValueError.__new__" = true
  sub : PySem.W.subIn K (.ref C) (.type "BaseException") = some true
  ty : PySem.W.typeIn K (.ref C) = some (.type "type")
  kp : PySem.W.keepIn K (.ref C) = true
theorem exoB_ok {K : PySem.W.Frag} {C : Addr} (h : exoB K C = true) : Exo K C := by
  obtain ⟨h1, h⟩ := He.ba h
  obtain ⟨h2, h⟩ := He.ba h
  obtain ⟨h3, h4⟩ := He.ba h
  exact ⟨h1, of_decide_eq_true h2, tyB_ok h3, h4⟩
/-- one fact more -/
inductive Fb where
  | fa (f : He.Fa)
  | prop (x m : Str)
  | cread (x : Str)
  | cmet (x m : Str)
  | con (x f : Str) (v : Value)
  | exk (x : Str)
  | ini (x : Str)
  | exo (x : Str)
  | xno (x f : Str)
  | exm (x D : Str) (b : Bool)
  | kit (x D : Str) (b : Bool)
  | kitT (x : Str) (T : String) (b : Bool)
  | sys
  | fnd (x f : Str) (v : Value)
  | sfi (x : Str)
  | fni (x f : Str)
  | own (x : Str)
def Fb.ok (K : PySem.W.Frag) : Fb → Bool
  | .fa f => f.ok K
  | .prop x m => propB K (He.ga K x) m
  | .cread x => creadB K (He.ga K x)
  | .cmet x m => cmetB K (He.ga K x) m
  | .exk x => exkB K (He.ga K x)
  | .ini x => iniB K (He.ga K x)
  | .exo x => exoB K (He.ga K x)
  | .xno x f => He.eqO (findIn K (.ref (He.ga K x)) f) (some none)
  | .exm x D b => decide (exmOne K (.ref (He.ga K x)) (.ref (He.ga K D)) = some b)
  | .kit x D b => decide (kitOne K (.ref (He.ga K x)) (.ref (He.ga K D)) = some b)
  | .kitT x T b => decide (kitOne K (.ref (He.ga K x)) (.type T) = some b)
  | .sys => (K.lookup sysModules).isSome
  | .fnd x f v => He.eqO (findIn K (.ref (He.ga K x)) f) (some (some v))
  | .sfi x => PySem.W.selfFirst K (He.ga K x)
  | .own x => ownB K (He.ga K x)
  | .fni x f => PySem.W.fnIn K (He.ma K (He.ga K x) f)
  | .con x f v => He.eqO (findIn K (.ref (He.ga K x)) f) (some (some v)) && He.eqO (specialIn K v "__get__") (some none)
def obsM (fa : List Fb) (fn : List He5.DefA) (K : PySem.W.Frag) : He.AlD := ((fa.all fun f => f.ok K) && fn.all fun d => d.ok K, fn.map fun d => He5.fnA K (d.at_ K))
def SaysM (fa : List Fb) (fn : List He5.DefA) (K : PySem.W.Frag) : Prop := obsM fa fn K = He5.valA fn
def obsMG (n : Nat) (fa : List Fb) (fn : List He5.DefA) (g : Addr → Option Obj) : He.AlD := obsM fa fn (He.frG g (He5.asA g n ++ [sysModules]))
def hookM (n : Nat) (fa : List Fb) (fn : List He5.DefA) : PySem.W.Hook where
  α := He.AlD
  obs := fun s => obsMG n fa fn s.heap.get?
  val := fun _ => He5.valA fn
  says := fun _ h => ∃ K : PySem.W.Frag, K.In h ∧ SaysM fa fn K
  of := fun _ _ e => ⟨_, He.frG_in, e⟩
  keeps := fun _ _ _ ⟨K, hK, c⟩ k => ⟨K, Frag.In.keeps hK k, c⟩
theorem obsMG_eq {n : Nat} {fa : List Fb} {fn : List He5.DefA} {g : Addr → Option Obj} {s : Shared} (h : ∀ a, g a = s.heap.get? a) : obsMG n fa fn g = (hookM n fa fn).obs s := by
  have e : g = s.heap.get? := funext h
  rw [e] <;> rfl
section
variable {fa : List Fb} {fn : List He5.DefA} {K : PySem.W.Frag}
theorem SaysM.fact (c : SaysM fa fn K) (i : Nat) {f : Fb} (h : fa[i]? = some f := by rfl) : f.ok K = true := by
  have c1 := (He.ba (show ((fa.all fun f => f.ok K) && fn.all fun d => d.ok K) = true from congrArg (fun z : He.AlD => z.1) c)).1
  exact List.all_eq_true.mp c1 f (List.mem_of_getElem? h)
theorem SaysM.def_ (c : SaysM fa fn K) (i : Nat) {d : He5.DefA} (h : fn[i]? = some d := by rfl) : ∃ fd, L2.FunD K d.name d.qual d.params d.body d.scope (d.dvs K) (d.kws K) (d.at_ K) fd := by
  have c2 := (He.ba (show ((fa.all fun f => f.ok K) && fn.all fun d => d.ok K) = true from congrArg (fun z : He.AlD => z.1) c)).2
  have e : fn.map (fun d => He5.fnA K (d.at_ K)) = fn.map He5.DefA.val := congrArg (fun z : He.AlD => z.2) c
  have e2 : (fn.map fun d => He5.fnA K (d.at_ K))[i]? = (fn.map He5.DefA.val)[i]? := by rw [e]
  rw [List.getElem?_map, List.getElem?_map, h] at e2
  exact He5.DefA.funD (Option.some.inj e2) (List.all_eq_true.mp c2 d (List.mem_of_getElem? h))
end
/-- what two runs say together -/
theorem obs_app {fa1 fa2 : List Fb} {fn1 fn2 : List He5.DefA} {K : PySem.W.Frag} (h1 : obsM fa1 fn1 K = He5.valA fn1) (h2 : obsM fa2 fn2 K = He5.valA fn2) : obsM (fa1 ++ fa2) (fn1 ++ fn2) K = He5.valA (fn1 ++ fn2) := by
  have a1 : ((fa1.all fun f => f.ok K) && fn1.all fun d => d.ok K) = true := congrArg (fun z : He.AlD => z.1) h1
  have a2 : ((fa2.all fun f => f.ok K) && fn2.all fun d => d.ok K) = true := congrArg (fun z : He.AlD => z.1) h2
  have b1 : fn1.map (fun d => He5.fnA K (d.at_ K)) = fn1.map He5.DefA.val := congrArg (fun z : He.AlD => z.2) h1
  have b2 : fn2.map (fun d => He5.fnA K (d.at_ K)) = fn2.map He5.DefA.val := congrArg (fun z : He.AlD => z.2) h2
  obtain ⟨c1, d1⟩ := He.ba a1
  obtain ⟨c2, d2⟩ := He.ba a2
  unfold obsM He5.valA
  rw [List.all_append, List.all_append, c1, c2, d1, d2, List.map_append, List.map_append, b1, b2]
  rfl
theorem run_app {r : PySem.W.OpenRow} {q : Program} {n N : Nat} {loose : List Str} {w : World} {fa1 fa2 : List Fb} {fn1 fn2 : List He5.DefA} (h1 : HandSHeadRun.RunEq r q (hookM n fa1 fn1) (fun s => obsMG n fa1 fn1 (HandSHeadRun.getT s)) N loose w)
    (h2 : HandSHeadRun.RunEq r q (hookM n fa2 fn2) (fun s => obsMG n fa2 fn2 (HandSHeadRun.getT s)) N loose w) : HandSHeadRun.RunEq r q (hookM n (fa1 ++ fa2) (fn1 ++ fn2)) (fun s => obsMG n (fa1 ++ fa2) (fn1 ++ fn2) (HandSHeadRun.getT s)) N loose w := fun os => by
  have e1 := h1 os
  have e2 := h2 os
  revert e1 e2
  generalize HandSHeadRun.endF (HandSHeadRun.stepQ (HandSHeadRun.denQ HandSHeadRun.tabQ) r.prog w) N r.prog w os = x
  intro e1 e2
  cases x with
  | none => cases e1
  | some s =>
    have f1 := Option.some.inj e1
    have f2 := Option.some.inj e2
    have g1 : obsMG n fa1 fn1 (HandSHeadRun.getT s) = He5.valA fn1 := congrArg (fun z => z.2.2) f1
    have g2 : obsMG n fa2 fn2 (HandSHeadRun.getT s) = He5.valA fn2 := congrArg (fun z => z.2.2) f2
    have k1 := congrArg (fun z => z.1) f1
    have k2 := congrArg (fun z => z.2.1) f1
    refine congrArg some (Prod.ext k1 (Prod.ext k2 ?_))
    exact obs_app g1 g2
/-- a def of the module, a method, a property's getter, a classmethod's def -/
def dGlo (x : Str) (st : Stmt) : He5.DefA := ⟨fun K => He.ga K x, x, x, defArgs st, defBody st, defScope st, [], []⟩
def dMth (x m q : Str) (st : Stmt) : He5.DefA := ⟨fun K => He.ma K (He.ga K x) m, m, q, defArgs st, defBody st, defScope st, [], []⟩
def dPrp (x m q : Str) (st : Stmt) : He5.DefA := ⟨fun K => pf K (He.ga K x) m, m, q, defArgs st, defBody st, defScope st, [], []⟩
def dCmt (x m q : Str) (st : Stmt) : He5.DefA := ⟨fun K => He5.wf K (He.ga K x) "classmethod" m, m, q, defArgs st, defBody st, defScope st, [], []⟩
/-- a statement of a class's body -/
def inCls : Stmt → Nat → Stmt
  | .ClassDef (body := b) .., i => b.getD i (.Pass ⟨0, 0, 0, 0⟩)
  | _, _ => .Pass ⟨0, 0, 0, 0⟩
end M
namespace K11
open PySem L2 M 
abbrev top (i : Nat) : Stmt := PySem.Challenge.pw_passwidth_k11_what_is_a_ring.main.body.getD i (.Pass ⟨0, 0, 0, 0⟩)
abbrev s__law_pen : Stmt := top 3
abbrev s__law_draw : Stmt := top 4
abbrev s__law_names : Stmt := top 5
abbrev s__law_shuffled : Stmt := top 6
abbrev s__law_tangle : Stmt := top 7
abbrev s__law_walk : Stmt := top 10
abbrev s__law_things : Stmt := top 11
abbrev s_is_ring : Stmt := top 1
abbrev s__law_is_ring : Stmt := top 9
abbrev s_law : Stmt := top 12
/-! ### the head -/
def d__law_pen : He5.DefA := dGlo "_law_pen" s__law_pen
def d__law_draw : He5.DefA := dGlo "_law_draw" s__law_draw
def d__law_names : He5.DefA := dGlo "_law_names" s__law_names
def d__law_shuffled : He5.DefA := dGlo "_law_shuffled" s__law_shuffled
def d__law_tangle : He5.DefA := dGlo "_law_tangle" s__law_tangle
def d__law_walk : He5.DefA := dGlo "_law_walk" s__law_walk
def d__law_things : He5.DefA := dGlo "_law_things" s__law_things
def d_is_ring : He5.DefA := dGlo "is_ring" s_is_ring
def d__law_is_ring : He5.DefA := dGlo "_law_is_ring" s__law_is_ring
def d_law : He5.DefA := dGlo "law" s_law
def fn : List He5.DefA := ([d__law_pen, d__law_draw, d__law_names, d__law_shuffled, d__law_tangle, d__law_walk, d__law_things, d_is_ring, d__law_is_ring, d_law] : List He5.DefA)
def fa : List Fb := ([.fa (.glo "_law_pen"), .fa (.glo "_law_draw"), .fa (.glo "_law_names"), .fa (.glo "_law_shuffled"), .fa (.glo "_law_tangle"), .fa (.glo "_law_walk"), .fa (.glo "_law_things"), .fa (.glo "is_ring"), .fa (.glo "_law_is_ring"), .fa (.glo "law"), .sys, .fa (.free "abs"), .fa (.free "all"), .fa (.free "int"), .fa (.free "isinstance"), .fa (.free "len"), .fa (.free "list"), .fa (.free "range"), .fa (.free "repr"), .fa (.free "set")] : List Fb) ++ ([.fa (.free "str"), .fa (.free "tuple"), .fa (.free "zip")] : List Fb)
abbrev R : PySem.W.OpenRow := PySem.W.OpenLaw.row PySem.Challenge.rw_passwidth_k11_what_is_a_ring
abbrev hk : PySem.W.Hook := hookM 4 fa fn
def ob (s : PySem.W.SharedT) : He.AlD := obsMG 4 fa fn (HandSHeadRun.getT s)
theorem ob_eq (s : PySem.W.SharedT) : ob s = hk.obs s.abs := obsMG_eq (HandSHeadRun.getT_eq s)
def loose : List Str := (["is_ring", "_law_pen", "_law_draw", "_law_names", "_law_shuffled", "_law_tangle", "_law_has_ring", "_law_is_ring", "_law_walk", "_law_things"] : List Str)
theorem run (w : World) : HandSHeadRun.RunEq R (PySem.W.view R.prog [12]) hk ob 3000 loose w := by
  intro os
  kernel_rfl
end K11
/-! MP1: values without addresses, what stands for them in the abstract heap, the relation between slots. -/
namespace M
open PySem L2

inductive Val where
  | non | bl (b : Bool) | int (i : Int) | str (s : Str)
  | tup (xs : List Val) | lst (xs : List Val) | dct (t : Bool) (kvs : List (Val × Val))
  | obj (c : Str) (fs : List (Str × Val))
  /-- an exception of an own class, its fields -/
  | exc (c : Str) (fs : List (Str × Val))
  | ty (n : String) | cls (c : Str)
  /-- the law's script -/
  | scr (ns : List Int)

/-- the world: the written part, the own classes -/
structure Wd where
  K : PySem.W.Frag
  CM : Str → Option Addr
  /-- the tables of code objects that lambdas write, with the lambdas' names -/
  T : List (Addr × Str) := []

/-- at a: an exception of the class at C, its dict -/
def exV (C : Addr) (d : Option Addr) (a : Addr) : HO := .ext fun h => ∃ (oe : Obj) (vs : Array Value), h.get? a = some oe ∧ oe.cls = .ref C ∧ oe.dict = d ∧ oe.data = .fields vs
def kv : Key → Val
  | .inl i => .int i
  | .inr s => .str s

def kb : Key → Prop
  | .inl _ => True
  | .inr s => s.length ≤ sizeLine

mutual
/-- a frozen value: x stands for v in the heap G, which never changes -/
def Rep (A : Wd) (G : Hp) : Val → V → Prop
  | .non, x => x = .non
  | .bl b, x => x = .bl b
  | .int i, x => x = .int i
  | .str s, x => x = .str s ∧ s.length ≤ sizeLine
  | .tup ds, x => ∃ a xs, x = .ref a ∧ SqT A.K G a xs ∧ Reps A G ds xs
  | .lst ds, x => ∃ a xs, x = .ref a ∧ G a = some (.lst xs) ∧ Reps A G ds xs
  | .dct t ds, x => ∃ a, x = .ref a ∧ ((t = false ∧ ∃ kvs o, G a = some (.frz o (.dK kvs)) ∧ RepK A G ds kvs) ∨ (t = true ∧ ∃ kvs o, G a = some (.frz o (.dT kvs)) ∧ RepT A G ds kvs))
  | .obj c fs, x => ∃ a C dx xs, x = .ref a ∧ G a = some (.ins C dx xs) ∧ A.CM c = some C ∧ RepF A G fs xs
  | .exc c fs, x => ∃ a C d, x = .ref a ∧ G a = some (exV C d a) ∧ A.CM c = some C ∧ ((d = none ∧ fs = []) ∨ ∃ dd xs, d = some dd ∧ G dd = some (.xd xs) ∧ RepF A G fs xs)
  | .ty n, x => x = .ty n
  | .cls c, x => ∃ C, A.CM c = some C ∧ x = .ref C
  | .scr ns, x => ∃ a, x = .ref a ∧ SqL A.K G a (ns.map V.int)
def Reps (A : Wd) (G : Hp) : List Val → List V → Prop
  | [], xs => xs = []
  | d :: ds, xs => ∃ y ys, xs = y :: ys ∧ Rep A G d y ∧ Reps A G ds ys
def RepK (A : Wd) (G : Hp) : List (Val × Val) → List (Key × V) → Prop
  | [], xs => xs = []
  | (k, d) :: ds, xs => ∃ q y ys, xs = (q, y) :: ys ∧ (k = kv q ∧ kb q) ∧ Rep A G d y ∧ RepK A G ds ys
def RepT (A : Wd) (G : Hp) : List (Val × Val) → List (List Key × V) → Prop
  | [], xs => xs = []
  | (k, d) :: ds, xs => ∃ q y ys, xs = (q, y) :: ys ∧ (k = .tup (q.map kv) ∧ ∀ x ∈ q, kb x) ∧ Rep A G d y ∧ RepT A G ds ys
def RepF (A : Wd) (G : Hp) : List (Str × Val) → List (Str × V) → Prop
  | [], xs => xs = []
  | (k, d) :: ds, xs => ∃ y ys, xs = (k, y) :: ys ∧ Rep A G d y ∧ RepF A G ds ys
end

/-- G' knows at least what G knows -/
def Le (G G' : Hp) : Prop := ∀ a o, G a = some o → G' a = some o
theorem Le.refl (G : Hp) : Le G G := fun _ _ h => h
theorem Le.trans {G G1 G2 : Hp} (a : Le G G1) (b : Le G1 G2) : Le G G2 := fun x o h => b x o (a x o h)
theorem Le.back {G G' : Hp} (h : Le G G') {a : Addr} (e : G' a = none) : G a = none := by
  cases q : G a with
  | none => rfl
  | some o => rw [h a o q] at e; cases e
theorem Le.new {G : Hp} {p : Addr} {o : HO} (h : G p = none) : Le G (upd G p o) := fun a u e => by
  rw [upd_ne (ne_of_none e h)]; exact e
theorem Le.upd2 {G H : Hp} {p : Addr} {o : HO} (h : Le G H) : Le (upd G p o) (upd H p o) := fun a u e => by
  by_cases q : a = p
  · subst q; rw [upd_same] at e ⊢; exact e
  · rw [upd_ne q] at e ⊢; exact h a u e
theorem Le.updR {G H : Hp} {p : Addr} {o : HO} (h : Le G H) (n : G p = none) : Le G (upd H p o) := fun a u e => by
  rw [upd_ne (ne_of_none e n)]; exact h a u e
theorem rd_mono {G G' : Hp} (h : Le G G') {a : Addr} {u : HO} (r : Rd G a u) : Rd G' a u := by
  rcases r with r | ⟨o, r⟩
  · exact .inl (h _ _ r)
  · exact .inr ⟨o, h _ _ r⟩
theorem sql_mono {K : PySem.W.Frag} {G G' : Hp} (h : Le G G') {a : Addr} {xs : List V} (r : SqL K G a xs) : SqL K G' a xs := r.elim (fun r => .inl (rd_mono h r)) .inr
theorem sqt_mono {K : PySem.W.Frag} {G G' : Hp} (h : Le G G') {a : Addr} {xs : List V} (r : SqT K G a xs) : SqT K G' a xs := r.elim (fun r => .inl (rd_mono h r)) .inr

section
variable {A : Wd} {G G' H H' : Hp}
mutual
theorem Rep.mono (h : Le G G') : ∀ {v : Val} {x : V}, Rep A G v x → Rep A G' v x
  | .non, _, r => by rw [Rep] at r ⊢; exact r
  | .bl _, _, r => by rw [Rep] at r ⊢; exact r
  | .int _, _, r => by rw [Rep] at r ⊢; exact r
  | .str _, _, r => by rw [Rep] at r ⊢; exact r
  | .tup ds, _, r => by
    rw [Rep] at r ⊢; obtain ⟨a, xs, e, q, r⟩ := r
    exact ⟨a, xs, e, sqt_mono h q, Reps.mono h r⟩
  | .lst ds, _, r => by
    rw [Rep] at r ⊢; obtain ⟨a, xs, e, q, r⟩ := r
    exact ⟨a, xs, e, h _ _ q, Reps.mono h r⟩
  | .dct t ds, _, r => by
    rw [Rep] at r ⊢; obtain ⟨a, e, ⟨ht, kvs, o, q, r⟩ | ⟨ht, kvs, o, q, r⟩⟩ := r
    · exact ⟨a, e, .inl ⟨ht, kvs, o, h _ _ q, RepK.mono h r⟩⟩
    · exact ⟨a, e, .inr ⟨ht, kvs, o, h _ _ q, RepT.mono h r⟩⟩
  | .obj c fs, _, r => by
    rw [Rep] at r ⊢; obtain ⟨a, C, dx, xs, e, q, m, r⟩ := r
    exact ⟨a, C, dx, xs, e, h _ _ q, m, RepF.mono h r⟩
  | .exc c fs, _, r => by
    rw [Rep] at r ⊢; obtain ⟨a, C, d, e, q, m, r⟩ := r
    refine ⟨a, C, d, e, h _ _ q, m, ?_⟩
    rcases r with r | ⟨dd, xs, e2, q2, r⟩
    · exact .inl r
    · exact .inr ⟨dd, xs, e2, h _ _ q2, RepF.mono h r⟩
  | .ty _, _, r => by rw [Rep] at r ⊢; exact r
  | .cls _, _, r => by rw [Rep] at r ⊢; exact r
  | .scr _, _, r => by
    rw [Rep] at r ⊢; obtain ⟨a, e, q⟩ := r
    exact ⟨a, e, sql_mono h q⟩
theorem Reps.mono (h : Le G G') : ∀ {ds : List Val} {xs : List V}, Reps A G ds xs → Reps A G' ds xs
  | [], _, r => by rw [Reps] at r ⊢; exact r
  | d :: ds, _, r => by
    rw [Reps] at r ⊢; obtain ⟨y, ys, e, r1, r2⟩ := r
    exact ⟨y, ys, e, Rep.mono h r1, Reps.mono h r2⟩
theorem RepK.mono (h : Le G G') : ∀ {ds : List (Val × Val)} {xs : List (Key × V)}, RepK A G ds xs → RepK A G' ds xs
  | [], _, r => by rw [RepK] at r ⊢; exact r
  | (k, d) :: ds, _, r => by
    rw [RepK] at r ⊢; obtain ⟨q, y, ys, e, e2, r1, r2⟩ := r
    exact ⟨q, y, ys, e, e2, Rep.mono h r1, RepK.mono h r2⟩
theorem RepT.mono (h : Le G G') : ∀ {ds : List (Val × Val)} {xs : List (List Key × V)}, RepT A G ds xs → RepT A G' ds xs
  | [], _, r => by rw [RepT] at r ⊢; exact r
  | (k, d) :: ds, _, r => by
    rw [RepT] at r ⊢; obtain ⟨q, y, ys, e, e2, r1, r2⟩ := r
    exact ⟨q, y, ys, e, e2, Rep.mono h r1, RepT.mono h r2⟩
theorem RepF.mono (h : Le G G') : ∀ {ds : List (Str × Val)} {xs : List (Str × V)}, RepF A G ds xs → RepF A G' ds xs
  | [], _, r => by rw [RepF] at r ⊢; exact r
  | (k, d) :: ds, _, r => by
    rw [RepF] at r ⊢; obtain ⟨y, ys, e, r1, r2⟩ := r
    exact ⟨y, ys, e, Rep.mono h r1, RepF.mono h r2⟩
end

theorem reps_nil {xs : List V} : Reps A G [] xs ↔ xs = [] := by rw [Reps]
theorem reps_cons {d : Val} {ds : List Val} {xs : List V} : Reps A G (d :: ds) xs ↔ ∃ y ys, xs = y :: ys ∧ Rep A G d y ∧ Reps A G ds ys := by rw [Reps]
theorem reps_one {d : Val} {x : V} (r : Rep A G d x) : Reps A G [d] [x] := reps_cons.mpr ⟨_, _, rfl, r, reps_nil.mpr rfl⟩
theorem reps_length : ∀ {ds : List Val} {xs : List V}, Reps A G ds xs → ds.length = xs.length
  | [], _, r => by rw [reps_nil] at r; subst r; rfl
  | d :: ds, _, r => by
    rw [reps_cons] at r; obtain ⟨y, ys, e, r1, r2⟩ := r
    subst e; simp [reps_length r2]
theorem reps_get : ∀ {ds : List Val} {xs : List V} {i : Nat} {d : Val}, Reps A G ds xs → ds[i]? = some d → ∃ x, xs[i]? = some x ∧ Rep A G d x
  | [], _, _, _, r, e => by simp at e
  | d :: ds, _, 0, _, r, e => by
    rw [reps_cons] at r; obtain ⟨y, ys, e1, r1, r2⟩ := r
    subst e1; simp at e; subst e; exact ⟨y, rfl, r1⟩
  | d :: ds, _, i + 1, _, r, e => by
    rw [reps_cons] at r; obtain ⟨y, ys, e1, r1, r2⟩ := r
    subst e1; simp at e; obtain ⟨x, h1, h2⟩ := reps_get r2 e
    exact ⟨x, by simpa using h1, h2⟩
theorem reps_get' : ∀ {ds : List Val} {xs : List V} {i : Nat} {x : V}, Reps A G ds xs → xs[i]? = some x → ∃ d, ds[i]? = some d ∧ Rep A G d x
  | [], _, _, _, r, e => by rw [reps_nil] at r; subst r; simp at e
  | d :: ds, _, 0, _, r, e => by
    rw [reps_cons] at r; obtain ⟨y, ys, e1, r1, r2⟩ := r
    subst e1; simp at e; subst e; exact ⟨d, rfl, r1⟩
  | d :: ds, _, i + 1, _, r, e => by
    rw [reps_cons] at r; obtain ⟨y, ys, e1, r1, r2⟩ := r
    subst e1; simp at e; obtain ⟨x, h1, h2⟩ := reps_get' r2 e
    exact ⟨x, by simpa using h1, h2⟩
theorem reps_append : ∀ {ds es : List Val} {xs ys : List V}, Reps A G ds xs → Reps A G es ys → Reps A G (ds ++ es) (xs ++ ys)
  | [], _, _, _, r, q => by rw [reps_nil] at r; subst r; simpa using q
  | d :: ds, es, _, ys, r, q => by
    rw [reps_cons] at r; obtain ⟨y, zs, e1, r1, r2⟩ := r
    subst e1; exact reps_cons.mpr ⟨_, _, rfl, r1, reps_append r2 q⟩
theorem reps_take : ∀ {ds : List Val} {xs : List V} (n : Nat), Reps A G ds xs → Reps A G (ds.take n) (xs.take n)
  | _, _, 0, _ => by simpa using reps_nil.mpr rfl
  | [], _, n + 1, r => by rw [reps_nil] at r; subst r; simpa using reps_nil.mpr rfl
  | d :: ds, _, n + 1, r => by
    rw [reps_cons] at r; obtain ⟨y, ys, e1, r1, r2⟩ := r
    subst e1; exact reps_cons.mpr ⟨_, _, rfl, r1, reps_take n r2⟩
theorem reps_drop : ∀ {ds : List Val} {xs : List V} (n : Nat), Reps A G ds xs → Reps A G (ds.drop n) (xs.drop n)
  | _, _, 0, r => by simpa using r
  | [], _, n + 1, r => by rw [reps_nil] at r; subst r; simpa using reps_nil.mpr rfl
  | d :: ds, _, n + 1, r => by
    rw [reps_cons] at r; obtain ⟨y, ys, e1, r1, r2⟩ := r
    subst e1; exact reps_drop n r2
theorem reps_set {d : Val} {x : V} (q : Rep A G d x) : ∀ {ds : List Val} {xs : List V} (i : Nat), Reps A G ds xs → Reps A G (ds.set i d) (xs.set i x)
  | [], _, _, r => by rw [reps_nil] at r; subst r; simpa using reps_nil.mpr rfl
  | e :: ds, _, 0, r => by
    rw [reps_cons] at r; obtain ⟨y, ys, e1, r1, r2⟩ := r
    subst e1; exact reps_cons.mpr ⟨_, _, rfl, q, r2⟩
  | e :: ds, _, i + 1, r => by
    rw [reps_cons] at r; obtain ⟨y, ys, e1, r1, r2⟩ := r
    subst e1; exact reps_cons.mpr ⟨_, _, rfl, r1, reps_set q i r2⟩
theorem reps_erase : ∀ {ds : List Val} {xs : List V} (i : Nat), Reps A G ds xs → Reps A G (ds.eraseIdx i) (xs.eraseIdx i)
  | [], _, _, r => by rw [reps_nil] at r; subst r; simpa using reps_nil.mpr rfl
  | e :: ds, _, 0, r => by
    rw [reps_cons] at r; obtain ⟨y, ys, e1, r1, r2⟩ := r
    subst e1; simpa using r2
  | e :: ds, _, i + 1, r => by
    rw [reps_cons] at r; obtain ⟨y, ys, e1, r1, r2⟩ := r
    subst e1; exact reps_cons.mpr ⟨_, _, rfl, r1, reps_erase i r2⟩
theorem reps_reverse : ∀ {ds : List Val} {xs : List V}, Reps A G ds xs → Reps A G ds.reverse xs.reverse
  | [], _, r => by rw [reps_nil] at r; subst r; simpa using reps_nil.mpr rfl
  | e :: ds, _, r => by
    rw [reps_cons] at r; obtain ⟨y, ys, e1, r1, r2⟩ := r
    subst e1; rw [List.reverse_cons, List.reverse_cons]; exact reps_append (reps_reverse r2) (reps_one r1)
theorem reps_strs : ∀ {ss : List Str} {xs : List V}, Reps A G (ss.map Val.str) xs → xs = ss.map V.str
  | [], _, r => by rw [List.map_nil, reps_nil] at r; subst r; rfl
  | s :: ss, _, r => by
    rw [List.map_cons, reps_cons] at r; obtain ⟨y, ys, e, r1, r2⟩ := r
    rw [Rep] at r1; subst e; rw [r1.1, reps_strs r2]; rfl
theorem reps_ints : ∀ {ns : List Int} {xs : List V}, Reps A G (ns.map Val.int) xs → xs = ns.map V.int
  | [], _, r => by rw [List.map_nil, reps_nil] at r; subst r; rfl
  | s :: ss, _, r => by
    rw [List.map_cons, reps_cons] at r; obtain ⟨y, ys, e, r1, r2⟩ := r
    rw [Rep] at r1; subst e; rw [r1, reps_ints r2]; rfl
theorem reps_of_ints : ∀ {ns : List Int}, Reps A G (ns.map Val.int) (ns.map V.int)
  | [] => reps_nil.mpr rfl
  | n :: ns => reps_cons.mpr ⟨_, _, rfl, by rw [Rep], reps_of_ints⟩
theorem reps_bls : ∀ {ns : List Bool} {xs : List V}, Reps A G (ns.map Val.bl) xs → xs = ns.map V.bl
  | [], _, r => by rw [List.map_nil, reps_nil] at r; subst r; rfl
  | s :: ss, _, r => by
    rw [List.map_cons, reps_cons] at r; obtain ⟨y, ys, e, r1, r2⟩ := r
    rw [Rep] at r1; subst e; rw [r1, reps_bls r2]; rfl
theorem rep_non {x : V} : Rep A G .non x ↔ x = .non := by rw [Rep]
theorem rep_bl {b : Bool} {x : V} : Rep A G (.bl b) x ↔ x = .bl b := by rw [Rep]
theorem rep_int {i : Int} {x : V} : Rep A G (.int i) x ↔ x = .int i := by rw [Rep]
theorem rep_str {s : Str} {x : V} : Rep A G (.str s) x ↔ x = .str s ∧ s.length ≤ sizeLine := by rw [Rep]
theorem rep_ty {s : String} {x : V} : Rep A G (.ty s) x ↔ x = .ty s := by rw [Rep]
theorem rep_tup {ds : List Val} {x : V} : Rep A G (.tup ds) x ↔ ∃ a xs, x = .ref a ∧ SqT A.K G a xs ∧ Reps A G ds xs := by rw [Rep]
theorem rep_lst {ds : List Val} {x : V} : Rep A G (.lst ds) x ↔ ∃ a xs, x = .ref a ∧ G a = some (.lst xs) ∧ Reps A G ds xs := by rw [Rep]
end

/-- what stands there later: the same, or a table for a table -/
def KpO (o : HO) (x : Option HO) : Prop := match o with
  | .tbl _ => ∃ ps, x = some (.tbl ps)
  | o => x = some o
theorem KpO.of {o : HO} {x : Option HO} (h : x = some o) : KpO o x := by
  cases o with
  | tbl ps => exact ⟨ps, h⟩
  | _ => exact h
theorem KpO.has {o : HO} {x : Option HO} (h : KpO o x) : ∃ u, x = some u := by
  cases o with
  | tbl ps => obtain ⟨q, e⟩ := h; exact ⟨_, e⟩
  | _ => exact ⟨_, h⟩
theorem KpO.trans {o : HO} {x y : Option HO} (h : KpO o x) (g : ∀ u, x = some u → KpO u y) : KpO o y := by
  cases o with
  | tbl ps => obtain ⟨q, e⟩ := h; exact g (.tbl q) e
  | _ => exact g _ h
/-- what roots stand for -/
def Con : HO → Prop
  | .lst _ => True
  | .dK _ => True
  | .dT _ => True
  | .ins _ _ _ => True
  | _ => False
/-- the tables that stand there are those that are known -/
structure TkO (T : List (Addr × Str)) (H : Hp) : Prop where
  tabs : LamX.Tabs T H
  only : ∀ a ps, H a = some (.tbl ps) → ∃ q, (a, q) ∈ T
theorem TkO.ext {T : List (Addr × Str)} {H H' : Hp} (t : TkO T H) (e : ∀ b o, H b = some o → H' b = some o) (ot : ∀ a ps, H' a = some (.tbl ps) → H a = some (.tbl ps)) : TkO T H' := ⟨t.tabs.ext e, fun a ps h => t.only a ps (ot a ps h)⟩
theorem tabs_upd {T : List (Addr × Str)} {H : Hp} {a : Addr} {o : HO} (tt : TkO T H) (h : H a = none ∨ ∃ u, H a = some u ∧ Con u) (ho : ∀ ps, o ≠ .tbl ps) : TkO T (upd H a o) := by
  have t := tt.tabs
  refine ⟨fun p hp => ?_, fun b ps e => ?_⟩
  · obtain ⟨ps, h1, h2, h3⟩ := t p hp
    have ne : ∀ b u, H b = some u → ¬ Con u → b ≠ a := fun b u e nm z => by
      subst z
      rcases h with h | ⟨w, h, m⟩
      · rw [h] at e; cases e
      · rw [h] at e; cases e; exact nm m
    refine ⟨ps, by rw [upd_ne (ne _ _ h1 id)]; exact h1, h2, fun pos cv hc => ?_⟩
    obtain ⟨c, e1, e2⟩ := h3 pos cv hc
    exact ⟨c, e1, by rw [upd_ne (ne _ _ e2 id)]; exact e2⟩
  · by_cases z : b = a
    · subst z; rw [upd_same] at e; exact absurd (Option.some.inj e) (ho ps)
    · rw [upd_ne z] at e; exact tt.only b ps e
/-- a container that may be changed in place: it stands at a in H, what is in it is frozen -/
def Root (A : Wd) (G H : Hp) (v : Val) (a : Addr) : Prop := match v with
  | .lst ds => ∃ xs, H a = some (.lst xs) ∧ Reps A G ds xs
  | .dct t ds => (t = false ∧ ∃ kvs, H a = some (.dK kvs) ∧ RepK A G ds kvs) ∨ (t = true ∧ ∃ kvs, H a = some (.dT kvs) ∧ RepT A G ds kvs)
  | .obj c fs => ∃ C dx xs, H a = some (.ins C dx xs) ∧ A.CM c = some C ∧ RepF A G fs xs
  | _ => False
theorem Root.has {A : Wd} {G H : Hp} {v : Val} {a : Addr} (r : Root A G H v a) : ∃ o, H a = some o ∧ Mut (some o) := by
  cases v with
  | lst ds => obtain ⟨xs, e, _⟩ := r; exact ⟨_, e, True.intro⟩
  | dct t ds => obtain ⟨_, xs, e, _⟩ | ⟨_, xs, e, _⟩ := r <;> exact ⟨_, e, True.intro⟩
  | obj c fs => obtain ⟨C, dx, xs, e, _⟩ := r; exact ⟨_, e, True.intro⟩
  | _ => exact r.elim
theorem Root.con {A : Wd} {G H : Hp} {v : Val} {a : Addr} (r : Root A G H v a) : ∃ o, H a = some o ∧ Con o := by
  cases v with
  | lst ds => obtain ⟨xs, e, _⟩ := r; exact ⟨_, e, True.intro⟩
  | dct t ds => obtain ⟨_, xs, e, _⟩ | ⟨_, xs, e, _⟩ := r <;> exact ⟨_, e, True.intro⟩
  | obj c fs => obtain ⟨C, dx, xs, e, _⟩ := r; exact ⟨_, e, True.intro⟩
  | _ => exact r.elim
theorem Root.ne {A : Wd} {G H : Hp} {v : Val} {a : Addr} (r : Root A G H v a) {u : HO} (h : H a = some u) : ∀ ps, u ≠ .tbl ps := fun ps z => by
  obtain ⟨o, e, c⟩ := r.con
  rw [h] at e; cases e
  subst z; exact c
theorem Root.mono {A : Wd} {G H G' H' : Hp} {v : Val} {a : Addr} (r : Root A G H v a) (h : Le G G') (e : ∀ o, H a = some o → H' a = some o) : Root A G' H' v a := by
  cases v with
  | lst ds => obtain ⟨xs, q, r⟩ := r; exact ⟨xs, e _ q, r.mono h⟩
  | dct t ds =>
    obtain ⟨ht, xs, q, r⟩ | ⟨ht, xs, q, r⟩ := r
    · exact .inl ⟨ht, xs, e _ q, r.mono h⟩
    · exact .inr ⟨ht, xs, e _ q, r.mono h⟩
  | obj c fs => obtain ⟨C, dx, xs, q, m, r⟩ := r; exact ⟨C, dx, xs, e _ q, m, r.mono h⟩
  | _ => exact r.elim
theorem Root.monoK {A : Wd} {G H G' H' : Hp} {v : Val} {a : Addr} (r : Root A G H v a) (h : Le G G') (e : ∀ o, H a = some o → KpO o (H' a)) : Root A G' H' v a := by
  cases v with
  | lst ds => obtain ⟨xs, q, r⟩ := r; exact ⟨xs, e _ q, r.mono h⟩
  | dct t ds =>
    obtain ⟨ht, xs, q, r⟩ | ⟨ht, xs, q, r⟩ := r
    · exact .inl ⟨ht, xs, e _ q, r.mono h⟩
    · exact .inr ⟨ht, xs, e _ q, r.mono h⟩
  | obj c fs => obtain ⟨C, dx, xs, q, m, r⟩ := r; exact ⟨C, dx, xs, e _ q, m, r.mono h⟩
  | _ => exact r.elim

/-- slots: none unknown; some (own, v) -/
abbrev Slot := Option (Bool × Val)
abbrev Env := List Slot

/-- what is fixed through a def's run: the entry's frozen heap, the entry's heap, the containers that were lent to it, the parameters that stay -/
structure Act where
  w : Wd
  G0 : Hp
  H0 : Hp
  L : Addr → Prop
  io : List Nat
  x0 : Nat → Option V

/-- the roots that slots own -/
def Rt (r : Env) (σ : L2.St) (a : Addr) : Prop := ∃ (i : Nat) (v : Val), r[i]? = some (some (true, v)) ∧ σ[i]? = some (some (.ref a))

/-- no table among what is frozen -/
def NoT (G : Hp) : Prop := ∀ a ps, G a ≠ some (.tbl ps)
theorem NoT.upd {G : Hp} {a : Addr} {o : HO} (n : NoT G) (h : ∀ ps, o ≠ .tbl ps) : NoT (upd G a o) := fun b ps e => by
  by_cases z : b = a
  · subst z; rw [upd_same] at e; exact h ps (Option.some.inj e)
  · rw [upd_ne z] at e; exact n b ps e
structure Ok (A : Act) (G H : Hp) (σ : L2.St) (r : Env) : Prop where
  ex0 : Le A.G0 G
  gr0 : ∀ a, G a ≠ none → A.G0 a ≠ none ∨ A.H0 a = none ∨ A.L a
  fr0 : ∀ a o, A.H0 a = some o → ¬ A.L a → KpO o (H a)
  tk : TkO A.w.T H
  nt : NoT G
  sub : Le G H
  len : σ.length = r.length
  fz : ∀ (i : Nat) (v : Val), r[i]? = some (some (false, v)) → ∃ x, σ[i]? = some (some x) ∧ Rep A.w G v x
  ow : ∀ (i : Nat) (v : Val), r[i]? = some (some (true, v)) → ∃ a, σ[i]? = some (some (.ref a)) ∧ Root A.w G H v a ∧ G a = none ∧ (A.L a ∨ A.H0 a = none)
  sep : ∀ (i j : Nat) (v w : Val) (a : Addr), r[i]? = some (some (true, v)) → r[j]? = some (some (true, w)) → σ[i]? = some (some (.ref a)) → σ[j]? = some (some (.ref a)) → i = j
  fx : ∀ i ∈ A.io, σ[i]? = some (A.x0 i)

/-- what an expression does to the state -/
structure Step (σ : L2.St) (r : Env) (G H : Hp) (r' : Env) (G' H' : Hp) : Prop where
  ex : Le G G'
  keep : ∀ a o, H a = some o → ¬ Rt r σ a → KpO o (H' a)
  grow : ∀ a, G a = none → G' a ≠ none → H a = none ∨ Rt r σ a
  rts : ∀ a, Rt r' σ a → Rt r σ a
theorem Step.refl {σ : L2.St} {r : Env} {G H : Hp} : Step σ r G H r G H := ⟨Le.refl _, fun _ _ h _ => KpO.of h, fun _ h h' => absurd h h', fun _ h => h⟩
theorem Step.trans {σ : L2.St} {r r1 r2 : Env} {G H G1 H1 G2 H2 : Hp} (a : Step σ r G H r1 G1 H1) (b : Step σ r1 G1 H1 r2 G2 H2) : Step σ r G H r2 G2 H2 where
  ex := a.ex.trans b.ex
  keep := fun x o h n => (a.keep x o h n).trans fun u e => b.keep x u e fun z => n (a.rts x z)
  grow := fun x h h' => by
    by_cases q : G1 x = none
    · rcases b.grow x q h' with z | z
      · by_cases n : Rt r σ x
        · exact .inr n
        · refine .inl ?_
          cases e : H x with
          | none => rfl
          | some o => obtain ⟨u, e'⟩ := (a.keep x o e n).has; rw [e'] at z; cases z
      · exact .inr (a.rts x z)
    · exact a.grow x h q
  rts := fun x h => a.rts x (b.rts x h)

section
variable {A : Act} {G H G' H' : Hp} {σ : L2.St} {r r' : Env}
theorem Ok.rt {a : Addr} (k : Ok A G H σ r) (h : Rt r σ a) : (∃ o, H a = some o) ∧ G a = none ∧ (A.L a ∨ A.H0 a = none) := by
  obtain ⟨i, v, h1, h2⟩ := h
  obtain ⟨b, e, ro, n, l⟩ := k.ow i v h1
  rw [h2] at e; cases e
  obtain ⟨o, e, _⟩ := ro.has
  exact ⟨⟨o, e⟩, n, l⟩
theorem Ok.notRt {a : Addr} (k : Ok A G H σ r) (h : H a = none) : ¬ Rt r σ a := fun z => by
  obtain ⟨⟨o, e⟩, _⟩ := k.rt z
  rw [e] at h; cases h
theorem Ok.fresh {a : Addr} (k : Ok A G H σ r) (h : H a = none) : A.L a ∨ A.H0 a = none := by
  by_cases l : A.L a
  · exact .inl l
  · refine .inr ?_
    cases e : A.H0 a with
    | none => rfl
    | some o => obtain ⟨u, e'⟩ := (k.fr0 a o e l).has; rw [e'] at h; cases h
/-- an expression's state may grow: new objects alone -/
structure Grow (G H G' H' : Hp) : Prop where
  g : Le G G'
  h : Le H H'
  s : Le G' H'
  n : ∀ a, G a = none → G' a ≠ none → H a = none
  t : NoT G → NoT G'
  ot : ∀ a ps, H' a = some (.tbl ps) → H a = some (.tbl ps)
theorem Grow.refl (s : Le G H) : Grow G H G H := ⟨Le.refl _, Le.refl _, s, fun _ h h' => absurd h h', id, fun _ _ h => h⟩
theorem Grow.trans {G1 H1 G2 H2 : Hp} (a : Grow G H G1 H1) (b : Grow G1 H1 G2 H2) : Grow G H G2 H2 :=
  ⟨a.g.trans b.g, a.h.trans b.h, b.s, fun x h h' => by
    by_cases q : G1 x = none
    · exact a.h.back (b.n x q h')
    · exact a.n x h q, fun z => b.t (a.t z), fun x ps h => a.ot x ps (b.ot x ps h)⟩
theorem Grow.step (g : Grow G H G' H') : Step σ r G H r G' H' := ⟨g.g, fun a o h _ => KpO.of (g.h a o h), fun a h h' => .inl (g.n a h h'), fun _ h => h⟩
theorem Ok.grow (k : Ok A G H σ r) (g : Grow G H G' H') : Ok A G' H' σ r where
  ex0 := k.ex0.trans g.g
  gr0 := fun a h => by
    by_cases q : G a = none
    · rcases k.fresh (g.n a q h) with z | z
      · exact .inr (.inr z)
      · exact .inr (.inl z)
    · exact k.gr0 a q
  fr0 := fun a o h n => (k.fr0 a o h n).trans fun u e => KpO.of (g.h _ _ e)
  tk := k.tk.ext g.h g.ot
  nt := g.t k.nt
  sub := g.s
  len := k.len
  fz := fun i v h => let ⟨x, e, q⟩ := k.fz i v h; ⟨x, e, q.mono g.g⟩
  ow := fun i v h => by
    obtain ⟨a, e, q, n, l⟩ := k.ow i v h
    refine ⟨a, e, q.mono g.g (g.h a), ?_, l⟩
    cases z : G' a with
    | none => rfl
    | some o =>
      obtain ⟨o', e', _⟩ := q.has
      have := g.n a n (by rw [z]; simp)
      rw [e'] at this; cases this
  sep := k.sep
  fx := k.fx
/-- a new object, frozen at once -/
theorem Grow.laidG {p : Addr} {o : HO} (s : Le G H) (n : H p = none) (ho : ∀ ps, o ≠ .tbl ps := by intro _ z; cases z) : Grow G H (upd G p o) (upd H p o) :=
  ⟨Le.new (s.back n), Le.new n, s.upd2, fun a h h' => by
    by_cases q : a = p
    · subst q; exact n
    · rw [upd_ne q] at h'; exact absurd h h', fun z => z.upd ho, fun a ps h => by
    by_cases q : a = p
    · subst q; rw [upd_same] at h; exact absurd (Option.some.inj h) (ho ps)
    · rw [upd_ne q] at h; exact h⟩
/-- a new object, owned -/
theorem Grow.laidH {p : Addr} {o : HO} (s : Le G H) (n : H p = none) (ho : ∀ ps, o ≠ .tbl ps := by intro _ z; cases z) : Grow G H G (upd H p o) :=
  ⟨Le.refl _, Le.new n, s.updR (s.back n), fun a h h' => absurd h h', id, fun a ps h => by
    by_cases q : a = p
    · subst q; rw [upd_same] at h; exact absurd (Option.some.inj h) (ho ps)
    · rw [upd_ne q] at h; exact h⟩
end

/-- the value of an expression: own, it is a container that nobody else holds -/
def TRep (A : Act) (G H : Hp) (σ : L2.St) (r : Env) (o : Bool) (v : Val) (x : V) : Prop := match o with
  | true => ∃ a, x = .ref a ∧ Root A.w G H v a ∧ G a = none ∧ ¬ Rt r σ a ∧ (A.L a ∨ A.H0 a = none)
  | false => Rep A.w G v x
/-- a value that can be read -/
def RRep (A : Wd) (G H : Hp) (v : Val) (x : V) : Prop := Rep A G v x ∨ ∃ a, x = .ref a ∧ Root A G H v a
/-- a new value -/
def NRep (A : Wd) (G H G' H' : Hp) (o : Bool) (v : Val) (x : V) : Prop := match o with
  | true => ∃ a, x = .ref a ∧ Root A G' H' v a ∧ G' a = none ∧ H a = none
  | false => Rep A G' v x

section
variable {A : Act} {G H G' H' : Hp} {σ : L2.St} {r r' : Env} {o : Bool} {v : Val} {x : V}
theorem TRep.step (t : TRep A G H σ r o v x) (st : Step σ r G H r' G' H') : TRep A G' H' σ r' o v x := by
  cases o with
  | true =>
    obtain ⟨a, e, ro, n, nr, l⟩ := t
    obtain ⟨u, hu, _⟩ := ro.has
    refine ⟨a, e, ro.monoK st.ex fun o h => st.keep a o h nr, ?_, fun z => nr (st.rts a z), l⟩
    cases q : G' a with
    | none => rfl
    | some w =>
      rcases st.grow a n (by rw [q]; simp) with z | z
      · rw [hu] at z; cases z
      · exact absurd z nr
  | false => exact Rep.mono st.ex t
theorem TRep.rrep (t : TRep A G H σ r o v x) : RRep A.w G H v x := by
  cases o with
  | true => obtain ⟨a, e, ro, _⟩ := t; exact .inr ⟨a, e, ro⟩
  | false => exact .inl t
theorem NRep.trep (k : Ok A G H σ r) (t : NRep A.w G H G' H' o v x) : TRep A G' H' σ r o v x := by
  cases o with
  | true =>
    obtain ⟨a, e, ro, n, n2⟩ := t
    exact ⟨a, e, ro, n, k.notRt n2, k.fresh n2⟩
  | false => exact t
end
end M
/-! MP2: results, operands, primitive operations, calls, tests; the rules over HandS's judgements. -/
namespace M
open PySem L2
/-! ### how a call is written down: what a rule may ask of it (each holds by rfl where the call is at hand) -/
/-- e bears no star -/
abbrev NoStar (X : Cx) (e : Expr) (es : List Expr) : Prop := starEach (e :: es) X.env = (false, eval e X.env) :: starEach es X.env
/-- nor do these -/
abbrev NoStars (X : Cx) (es : List Expr) (at_ : Pos) : Prop := (backTo at_ (starEach es X.env)).any (·.1) = false
/-- o.name asks o as it stands -/
abbrev AsItIs (X : Cx) (o : Expr) (name : Str) : Prop := attributeBase o name X.env (eval o X.env) = eval o X.env
/-- few values, none with a star or a name -/
abbrev FewPlain (X : Cx) (es : List Expr) (at_ : Pos) : Prop :=
  (((backTo at_ (starEach es X.env)).all (!·.1) && (backToKw at_ (keywordEach [] X.env)).all (·.1.isSome)) && decide (es.length + 0 + 0 < 30)) = true
/-- o.m(..) is read as a method's call -/
abbrev MCall (X : Cx) (o : Expr) (m : Str) (es : List Expr) (dot at_ : Pos) (pl : Sem Bool) : Prop :=
  eval (.Call (.Attribute o m dot) es [] at_) X.env = eval o X.env >>= fun v => standAt dot.atName >>= fun _ => holding [v] (getMethod v m pl) >>= fun q => callWith at_ q.1 q.2 (backTo at_ (starEach es X.env)) (backToKw at_ (keywordEach [] X.env))
/-- f(..), f any expression -/
abbrev PCall (X : Cx) (f : Expr) (es : List Expr) (at_ : Pos) : Prop :=
  eval (.Call f es [] at_) X.env = eval f X.env >>= fun v => callWith at_ v [] (backTo at_ (starEach es X.env)) (backToKw at_ (keywordEach [] X.env))
/-- x(k = v, ..) likewise -/
abbrev KCall (X : Cx) (x : Str) (kws : List Keyword) (p at_ : Pos) : Prop :=
  eval (.Call (.Name x p) [] kws at_) X.env = eval (.Name x p) X.env >>= fun f => callWith at_ f [] (backTo at_ (starEach [] X.env)) (backToKw at_ (keywordEach kws X.env))
/-- no star among the values, each keyword has a name -/
abbrev KPlain (X : Cx) (es : List Expr) (kws : List Keyword) (at_ : Pos) : Prop := ((backTo at_ (starEach es X.env)).any (·.1) || (backToKw at_ (keywordEach kws X.env)).any (·.1.isNone)) = false

/-! ### what is wished of an exception -/
inductive ER where
  | ok (o : Bool) (v : Val) (r : Env) | ex (e : Val) (r : Env) | bad
inductive Hd where
  | tmp (o : Bool) (w : Val) | sl (i : Nat)
inductive OR where
  | ok (h : Hd) (r : Env) | ex (e : Val) (r : Env) | bad
inductive OsR where
  | ok (hs : List Hd) (r : Env) | ex (e : Val) (r : Env) | bad
inductive BR where
  | ok (b : Bool) (r : Env) | ex (e : Val) (r : Env) | bad
inductive SR where
  | nx (r : Env) | rt (o : Bool) (v : Val) (r : Env) | bk (r : Env) | ct (r : Env) | ex (e : Val) (r : Env) | bad
abbrev EF := Env → ER
abbrev OF := Env → OR
abbrev OsF := Env → OsR
abbrev BF := Env → BR
abbrev SF := Env → SR

def Hd.get (r : Env) : Hd → Option Val
  | .tmp _ w => some w
  | .sl i => match r[i]? with
    | some (some (_, v)) => some v
    | _ => none
def getAll (r : Env) : List Hd → Option (List Val)
  | [] => some []
  | h :: hs => match h.get r with
    | some v => match getAll r hs with
      | some vs => some (v :: vs)
      | none => none
    | none => none

/-- the dict of an exception -/
def XdOk (w : Wd) (G H : Hp) (d : Option Addr) (fs : List (Str × Val)) : Prop := (d = none ∧ fs = []) ∨ ∃ dd xs, d = some dd ∧ G dd = some (.xd xs) ∧ RepF w G fs xs
/-- an exception on its way: W takes it -/
def ExP (A : Act) (W : WX) (G0 : Hp) (σ : L2.St) (e : Val) (r : Env) : Prop := match e with
  | .exc c fs => ∀ G H C d, Ok A G H σ r → Le G0 G → A.w.CM c = some C → XdOk A.w G H d fs → W (.ref C) d σ H
  | _ => False

theorem ExP.mono {A : Act} {W : WX} {G0 G1 : Hp} {σ : L2.St} {e : Val} {r : Env} (le : Le G0 G1) (h : ExP A W G0 σ e r) : ExP A W G1 σ e r := by
  cases e with
  | exc c fs => exact fun G H C d k l => h G H C d k (le.trans l)
  | _ => exact h
def HRep (A : Act) (G H : Hp) (σ : L2.St) (r : Env) (h : Hd) (x : V) : Prop := match h with
  | .tmp o v => TRep A G H σ r o v x
  | .sl i => σ[i]? = some (some x)
def HReps (A : Act) (G H : Hp) (σ : L2.St) (r : Env) : List Hd → List V → Prop
  | [], xs => xs = []
  | h :: hs, xs => ∃ y ys, xs = y :: ys ∧ HRep A G H σ r h y ∧ HReps A G H σ r hs ys
def RReps (A : Wd) (G H : Hp) : List Val → List V → Prop
  | [], xs => xs = []
  | v :: vs, xs => ∃ y ys, xs = y :: ys ∧ RRep A G H v y ∧ RReps A G H vs ys

section
variable {A : Act} {G H G' H' : Hp} {σ : L2.St} {r r' : Env}
theorem HRep.step {h : Hd} {x : V} (t : HRep A G H σ r h x) (st : Step σ r G H r' G' H') : HRep A G' H' σ r' h x := by
  cases h with
  | tmp o v => exact TRep.step t st
  | sl i => exact t
theorem HReps.step : ∀ {hs : List Hd} {xs : List V}, HReps A G H σ r hs xs → Step σ r G H r' G' H' → HReps A G' H' σ r' hs xs
  | [], _, h, _ => h
  | _ :: _, _, ⟨y, ys, e, a, b⟩, st => ⟨y, ys, e, a.step st, b.step st⟩
theorem Ok.slot {i : Nat} {o : Bool} {v : Val} (k : Ok A G H σ r) (h : r[i]? = some (some (o, v))) : ∃ x, σ[i]? = some (some x) ∧ RRep A.w G H v x := by
  cases o with
  | true => obtain ⟨a, e, ro, _⟩ := k.ow i v h; exact ⟨_, e, .inr ⟨a, rfl, ro⟩⟩
  | false => obtain ⟨x, e, q⟩ := k.fz i v h; exact ⟨x, e, .inl q⟩
theorem HRep.get {h : Hd} {x : V} {v : Val} (k : Ok A G H σ r) (t : HRep A G H σ r h x) (e : h.get r = some v) : RRep A.w G H v x := by
  cases h with
  | tmp o w => simp only [Hd.get, Option.some.injEq] at e; subst e; exact TRep.rrep t
  | sl i =>
    simp only [Hd.get] at e
    split at e
    · rename_i o w q
      cases e
      obtain ⟨y, e1, e2⟩ := k.slot q
      have t' : σ[i]? = some (some x) := t
      rw [t'] at e1; cases e1; exact e2
    · cases e
theorem HReps.get (k : Ok A G H σ r) : ∀ {hs : List Hd} {xs : List V} {vs : List Val}, HReps A G H σ r hs xs → getAll r hs = some vs → RReps A.w G H vs xs
  | [], _, vs, h, e => by
    simp only [getAll, Option.some.injEq] at e; subst e; exact h
  | h :: hs, _, vs, ⟨y, ys, e1, a, b⟩, e => by
    simp only [getAll] at e
    split at e
    · rename_i v q
      split at e
      · rename_i ws q2
        cases e
        exact ⟨y, ys, e1, a.get k q, HReps.get k b q2⟩
      · cases e
    · cases e
end

/-! ### what HandS's judgements are told -/
/-- behind an expression: its value; what it owns is new (or was a slot's) -/
structure Res (A : Act) (σ : L2.St) (r : Env) (G H : Hp) (r' : Env) (G' H' : Hp) (o : Bool) (v : Val) (x : V) : Prop where
  ok : Ok A G' H' σ r'
  st : Step σ r G H r' G' H'
  tr : TRep A G' H' σ r' o v x
  fr : o = true → ∀ a, x = .ref a → H a = none ∨ Rt r σ a
theorem Step.fresh {σ : L2.St} {r r' : Env} {G H G' H' : Hp} (st : Step σ r G H r' G' H') {a : Addr} (h : H' a = none) : H a = none ∨ Rt r σ a := by
  by_cases n : Rt r σ a
  · exact .inr n
  · refine .inl ?_
    cases e : H a with
    | none => rfl
    | some o => obtain ⟨u, e'⟩ := (st.keep a o e n).has; rw [e'] at h; cases h
def tE (A : Act) (W : WX) (f : EF) : TE := fun σ H Q => ∃ r G, Ok A G H σ r ∧ match f r with
  | .ok o v r' => ∀ x G' H', Res A σ r G H r' G' H' o v x → Q x H'
  | .ex e r' => ExP A W G σ e r'
  | .bad => False
def tO (A : Act) (W : WX) (f : OF) : TE := fun σ H Q => ∃ r G, Ok A G H σ r ∧ match f r with
  | .ok h r' => ∀ x G' H', Ok A G' H' σ r' → Step σ r G H r' G' H' → HRep A G' H' σ r' h x → Q x H'
  | .ex e r' => ExP A W G σ e r'
  | .bad => False
def tOs (A : Act) (W : WX) (f : OsF) : TA := fun σ H Q => ∃ r G, Ok A G H σ r ∧ match f r with
  | .ok hs r' => ∀ xs G' H', Ok A G' H' σ r' → Step σ r G H r' G' H' → HReps A G' H' σ r' hs xs → Q xs H'
  | .ex e r' => ExP A W G σ e r'
  | .bad => False
def tBo (A : Act) (W : WX) (f : BF) : TT := fun σ H Q => ∃ r G, Ok A G H σ r ∧ match f r with
  | .ok b r' => ∀ G' H', Ok A G' H' σ r' → Step σ r G H r' G' H' → Q b H'
  | .ex e r' => ExP A W G σ e r'
  | .bad => False
/-- behind a statement: the slots may be others -/
def Fin (A : Act) (W : WX) (G : Hp) (D : Ends) : SR → Prop
  | .nx r' => ∀ σ' G' H', Ok A G' H' σ' r' → Le G G' → D.nx σ' H'
  | .rt o v r' => ∀ x σ' G' H', Ok A G' H' σ' r' → Le G G' → TRep A G' H' σ' r' o v x → D.rt x H'
  | .bk r' => ∀ σ' G' H', Ok A G' H' σ' r' → Le G G' → D.bk σ' H'
  | .ct r' => ∀ σ' G' H', Ok A G' H' σ' r' → Le G G' → D.ct σ' H'
  | .ex e r' => ∀ σ', ExP A W G σ' e r'
  | .bad => False
def tSt (A : Act) (W : WX) (f : SF) : TS := fun D σ H => ∃ r G, Ok A G H σ r ∧ Fin A W G D (f r)
theorem Fin.mono {A : Act} {W : WX} {G G1 : Hp} {D : Ends} {s : SR} (le : Le G G1) (h : Fin A W G D s) : Fin A W G1 D s := by
  cases s with
  | nx r => exact fun σ' G' H' k l => h σ' G' H' k (le.trans l)
  | rt o v r => exact fun x σ' G' H' k l => h x σ' G' H' k (le.trans l)
  | bk r => exact fun σ' G' H' k l => h σ' G' H' k (le.trans l)
  | ct r => exact fun σ' G' H' k l => h σ' G' H' k (le.trans l)
  | ex e r => exact fun σ' => (h σ').mono le
  | bad => exact h

theorem PE.imp {X : Cx} {e : Expr} {t t' : TE} (h : PE X e t) (hi : ∀ σ H Q, t' σ H Q → t σ H Q) : PE X e t' := ⟨fun pins s σ H Q I q => h.run pins s σ H Q I (hi _ _ _ q)⟩
theorem PA.imp {X : Cx} {e : List Expr} {t t' : TA} (h : PA X e t) (hi : ∀ σ H Q, t' σ H Q → t σ H Q) : PA X e t' := ⟨fun pos pins s σ H Q I q => h.run pos pins s σ H Q I (hi _ _ _ q)⟩
theorem PT.imp {X : Cx} {e : Expr} {t t' : TT} (h : PT X e t) (hi : ∀ σ H Q, t' σ H Q → t σ H Q) : PT X e t' := ⟨fun pins s σ H Q I q => h.run pins s σ H Q I (hi _ _ _ q)⟩
theorem PS.imp {X : Cx} {e : Stmt} {t t' : TS} (h : PS X e t) (hi : ∀ D σ H, t' D σ H → t D σ H) : PS X e t' := ⟨fun pins s σ H D I q => h.run pins s σ H D I (hi _ _ _ q)⟩
theorem PSs.imp {X : Cx} {e : List Stmt} {t t' : TS} (h : PSs X e t) (hi : ∀ D σ H, t' D σ H → t D σ H) : PSs X e t' := ⟨fun pins s σ H D I q => h.run pins s σ H D I (hi _ _ _ q)⟩

/-- a container that stands in H may be locked for good -/
def GQ (Q : VK) : VK := fun x H => Q x H ∨ ∃ a u, H a = some u ∧ Mut (some u) ∧ ∀ od, Q x (upd H a (.frz od u))
theorem PE.ghost {X : Cx} {e : Expr} {t : TE} (h : PE X e t) : PE X e (fun σ H Q => t σ H (GQ Q)) := by
  refine ⟨fun pins s σ H Q I q => ?_⟩
  refine thn (h.run pins s σ H _ I q) fun u s1 ⟨x, H1, I1, r1, q1⟩ => ?_
  rcases q1 with q1 | ⟨a, u, e, m, q1⟩
  · exact ⟨x, H1, I1, r1, q1⟩
  · obtain ⟨od, I2⟩ := I1.lock e m
    exact ⟨x, _, I2, r1, q1 od⟩

theorem upd_self {H : Hp} {a : Addr} {o : HO} (h : H a = some o) : upd H a o = H := by
  funext b
  by_cases e : b = a
  · subst e; rw [upd_same, h]
  · rw [upd_ne e]

section
variable {A : Act} {G H : Hp} {σ : L2.St} {r : Env} {v : Val} {a : Addr} {x : V}
/-- a container is frozen: as it stands, or locked -/
theorem freeze_root {w : Wd} (ro : Root w G H v a) (n : G a = none) : (∃ o, H a = some o ∧ Rep w (upd G a o) v (.ref a)) ∨ (∃ u, H a = some u ∧ Mut (some u) ∧ ∀ od, Rep w (upd G a (.frz od u)) v (.ref a)) := by
  cases v with
  | lst ds =>
    obtain ⟨xs, e, q⟩ := ro
    exact .inl ⟨_, e, rep_lst.mpr ⟨a, xs, rfl, upd_same, q.mono (Le.new n)⟩⟩
  | dct t ds =>
    obtain ⟨ht, kvs, e, q⟩ | ⟨ht, kvs, e, q⟩ := ro
    · exact .inr ⟨_, e, True.intro, fun od => by rw [Rep]; exact ⟨a, rfl, .inl ⟨ht, kvs, od, upd_same, q.mono (Le.new n)⟩⟩⟩
    · exact .inr ⟨_, e, True.intro, fun od => by rw [Rep]; exact ⟨a, rfl, .inr ⟨ht, kvs, od, upd_same, q.mono (Le.new n)⟩⟩⟩
  | obj c fs =>
    obtain ⟨C, dx, xs, e, m, q⟩ := ro
    exact .inl ⟨_, e, by rw [Rep]; exact ⟨a, C, dx, xs, rfl, upd_same, m, q.mono (Le.new n)⟩⟩
  | _ => exact ro.elim
/-- the state behind it: a is no slot's -/
theorem Ok.freezeT {o : HO} (k : Ok A G H σ r) (n : G a = none) (hc : H a = none ∨ ∃ u, H a = some u ∧ Con u) (ho : ∀ ps, o ≠ .tbl ps) (nr : ¬ Rt r σ a) (l : A.L a ∨ A.H0 a = none) : Ok A (upd G a o) (upd H a o) σ r where
  ex0 := k.ex0.trans (Le.new n)
  gr0 := fun b h => by
    by_cases e : b = a
    · subst e; rcases l with l | l
      · exact .inr (.inr l)
      · exact .inr (.inl l)
    · rw [upd_ne e] at h; exact k.gr0 b h
  fr0 := fun b u h nl => by
    by_cases e : b = a
    · subst e
      rcases l with l | l
      · exact absurd l nl
      · rw [l] at h; cases h
    · rw [upd_ne e]; exact k.fr0 b u h nl
  tk := tabs_upd k.tk hc ho
  nt := k.nt.upd ho
  sub := k.sub.upd2
  len := k.len
  fz := fun i v h => let ⟨x, e, q⟩ := k.fz i v h; ⟨x, e, q.mono (Le.new n)⟩
  ow := fun i v h => by
    obtain ⟨b, e, q, nb, lb⟩ := k.ow i v h
    have ne : b ≠ a := fun z => nr ⟨i, v, h, by rw [e, z]⟩
    exact ⟨b, e, q.mono (Le.new n) (fun o h => by rw [upd_ne ne]; exact h), by rw [upd_ne ne]; exact nb, lb⟩
  sep := k.sep
  fx := k.fx
end

/-- e, its value frozen -/
def frz (f : EF) : EF := fun r => match f r with
  | .ok _ v r' => .ok false v r'
  | .ex e r' => .ex e r'
  | .bad => .bad
theorem pe_frz {X : Cx} {A : Act} {W : WX} {e : Expr} {f : EF} (h : PE X e (tE A W f)) : PE X e (tE A W (frz f)) := by
  refine PE.imp (PE.ghost h) fun σ H Q ⟨r, G, k, m⟩ => ⟨r, G, k, ?_⟩
  unfold frz at m
  cases hf : f r with
  | bad => rw [hf] at m; exact m.elim
  | ex e r' => rw [hf] at m; exact m
  | ok o v r' =>
    rw [hf] at m
    intro x G1 H1 R
    cases o with
    | false => exact .inl (m x G1 H1 R)
    | true =>
      obtain ⟨a, e, ro, n, nr, l⟩ := R.tr
      subst e
      have fr := R.fr rfl a rfl
      have fin : ∀ o, (∀ ps, o ≠ .tbl ps) → Rep A.w (upd G1 a o) v (.ref a) → Q (.ref a) (upd H1 a o) := fun o ho rp => by
        refine m _ (upd G1 a o) (upd H1 a o) ⟨R.ok.freezeT n (.inr ro.con) ho nr l, ⟨R.st.ex.trans (Le.new n), fun b u h nb => ?_, fun b h h' => ?_, R.st.rts⟩, rp, fun z => nomatch z⟩
        · have ne : b ≠ a := fun z => by
            subst z; rcases fr with z | z
            · rw [z] at h; cases h
            · exact nb z
          rw [upd_ne ne]; exact R.st.keep b u h nb
        · by_cases z : b = a
          · subst z; exact fr
          · rw [upd_ne z] at h'; exact R.st.grow b h h'
      rcases freeze_root ro n with ⟨u, hu, rp⟩ | ⟨u, hu, mu, rp⟩
      · left
        have q := fin u (ro.ne hu) rp
        rw [upd_self hu] at q
        exact q
      · exact .inr ⟨a, u, hu, mu, fun od => fin _ (fun ps z => by cases z) (rp od)⟩

/-! ### constants, names -/
def cst (v : Val) : EF := fun r => .ok false v r
/-- a name as a value: what it owns is frozen -/
def var (i : Nat) : EF := fun r => match r[i]? with
  | some (some (false, v)) => .ok false v r
  | some (some (true, v)) => .ok false v (r.set i (some (false, v)))
  | _ => .bad
/-- a name that isn't needed any more: its value goes -/
def mv (i : Nat) : EF := fun r => match r[i]? with
  | some (some (o, v)) => .ok o v (r.set i none)
  | _ => .bad
theorem set_some {r : Env} {i j : Nat} {s s' : Slot} {t : Bool × Val} (h : (r.set i s)[j]? = some s') (e : s' = some t) : (j = i ∧ s = s') ∨ (j ≠ i ∧ r[j]? = some s') := by
  by_cases q : i = j
  · subst q
    left
    by_cases l : i < r.length
    · rw [List.getElem?_set_self l] at h; cases h; exact ⟨rfl, rfl⟩
    · rw [List.getElem?_eq_none (by simpa using l)] at h; cases h
  · rw [List.getElem?_set_ne q] at h
    exact .inr ⟨fun z => q z.symm, h⟩
section
variable {A : Act} {W : WX} {G H : Hp} {σ : L2.St} {r : Env} {i : Nat} {v : Val} {a : Addr}
/-- slot i is no longer held: frozen with G' (o its object), or gone -/
theorem Ok.drop (k : Ok A G H σ r) (h : r[i]? = some (some (true, v))) (hσ : σ[i]? = some (some (.ref a))) {o : HO} (ho : ∀ ps, o ≠ .tbl ps) (s : Slot) (hs : ∀ w, s = some (false, w) → Rep A.w (upd G a o) w (.ref a)) (hn : ∀ w, s ≠ some (true, w)) : Ok A (upd G a o) (upd H a o) σ (r.set i s) := by
  obtain ⟨a', e, ro, n, l⟩ := k.ow i v h
  rw [hσ] at e; cases e
  have nr : ¬ Rt (r.set i s) σ a := fun ⟨j, w, h1, h2⟩ => by
    rcases set_some h1 rfl with ⟨e1, e2⟩ | ⟨e1, e2⟩
    · exact hn _ e2
    · exact e1 (k.sep j i w v a e2 h h2 hσ)
  refine ⟨k.ex0.trans (Le.new n), fun b h => ?_, fun b u h nl => ?_, tabs_upd k.tk (.inr ro.con) ho, k.nt.upd ho, k.sub.upd2, by rw [List.length_set]; exact k.len, fun j w h1 => ?_, fun j w h1 => ?_, fun p q v' w' b h1 h2 h3 h4 => ?_, k.fx⟩
  · by_cases e : b = a
    · subst e; rcases l with l | l
      · exact .inr (.inr l)
      · exact .inr (.inl l)
    · rw [upd_ne e] at h; exact k.gr0 b h
  · by_cases e : b = a
    · subst e
      rcases l with l | l
      · exact absurd l nl
      · rw [l] at h; cases h
    · rw [upd_ne e]; exact k.fr0 b u h nl
  · rcases set_some h1 rfl with ⟨e1, e2⟩ | ⟨e1, e2⟩
    · subst e1; exact ⟨_, hσ, hs _ e2⟩
    · obtain ⟨x, e, q⟩ := k.fz j w e2; exact ⟨x, e, q.mono (Le.new n)⟩
  · rcases set_some h1 rfl with ⟨e1, e2⟩ | ⟨e1, e2⟩
    · exact absurd e2 (hn _)
    · obtain ⟨b, e, q, nb, lb⟩ := k.ow j w e2
      have ne : b ≠ a := fun z => e1 (k.sep j i w v a e2 h (by rw [e, z]) hσ)
      exact ⟨b, e, q.mono (Le.new n) (fun o h => by rw [upd_ne ne]; exact h), by rw [upd_ne ne]; exact nb, lb⟩
  · rcases set_some h1 rfl with ⟨e1, e2⟩ | ⟨e1, e2⟩
    · exact absurd e2 (hn _)
    · rcases set_some h2 rfl with ⟨e3, e4⟩ | ⟨e3, e4⟩
      · exact absurd e4 (hn _)
      · exact k.sep p q v' w' b e2 e4 h3 h4
theorem step_drop (n : G a = none) (h : r[i]? = some (some (true, v))) (hσ : σ[i]? = some (some (.ref a))) {o : HO} (s : Slot) (hn : ∀ w, s ≠ some (true, w)) : Step σ r G H (r.set i s) (upd G a o) (upd H a o) :=
  ⟨Le.new n, fun b u hb nb => by
    have ne : b ≠ a := fun z => nb (by subst z; exact ⟨i, v, h, hσ⟩)
    rw [upd_ne ne]; exact KpO.of hb, fun b hb hb' => by
    by_cases e : b = a
    · subst e; exact .inr ⟨i, v, h, hσ⟩
    · rw [upd_ne e] at hb'; exact absurd hb hb', fun b ⟨j, w, h1, h2⟩ => by
    rcases set_some h1 rfl with ⟨e1, e2⟩ | ⟨e1, e2⟩
    · exact absurd e2 (hn _)
    · exact ⟨j, w, e2, h2⟩⟩
end
theorem pe_cst {X : Cx} {A : Act} {W : WX} {e : Expr} {x : V} {v : Val} (h : PE X e (tC x)) (hv : ∀ G, Rep A.w G v x) : PE X e (tE A W (cst v)) :=
  PE.imp h fun σ H Q ⟨r, G, k, m⟩ => m x G H ⟨k, Step.refl, hv G, fun z => nomatch z⟩
theorem pe_var' {X : Cx} {A : Act} {W : WX} {e : Expr} {i : Nat} (h : PE X e (tVar i)) : PE X e (tE A W (var i)) := by
  refine PE.imp (PE.ghost h) fun σ H Q ⟨r, G, k, m⟩ => ?_
  rcases q : r[i]? with _ | _ | ⟨_ | _, v⟩
  · simp only [var, q] at m
  · simp only [var, q] at m
  · simp only [var, q] at m
    obtain ⟨x, e1, e2⟩ := k.fz i v q
    exact ⟨x, e1, .inl (m x G H ⟨k, Step.refl, e2, fun z => nomatch z⟩)⟩
  · simp only [var, q] at m
    obtain ⟨a, e1, ro, n, l⟩ := k.ow i v q
    refine ⟨.ref a, e1, ?_⟩
    have fin : ∀ o, (∀ ps, o ≠ .tbl ps) → Rep A.w (upd G a o) v (.ref a) → Q (.ref a) (upd H a o) := fun o ho rp =>
      m _ _ _ ⟨k.drop q e1 ho _ (fun w e => by cases e; exact rp) (fun w e => by cases e), step_drop n q e1 _ (fun w e => by cases e), rp, fun z => nomatch z⟩
    rcases freeze_root ro n with ⟨u, hu, rp⟩ | ⟨u, hu, mu, rp⟩
    · left
      have q := fin u (ro.ne hu) rp
      rw [upd_self hu] at q
      exact q
    · exact .inr ⟨a, u, hu, mu, fun od => fin _ (fun ps z => by cases z) (rp od)⟩
theorem Ok.forget {A : Act} {G H : Hp} {σ : L2.St} {r : Env} (k : Ok A G H σ r) (i : Nat) : Ok A G H σ (r.set i none) := by
  have back : ∀ {j : Nat} {t : Bool × Val}, (r.set i none)[j]? = some (some t) → r[j]? = some (some t) ∧ j ≠ i := fun {j t} h => by
    rcases set_some h rfl with ⟨e1, e2⟩ | ⟨e1, e2⟩
    · cases e2
    · exact ⟨e2, e1⟩
  exact ⟨k.ex0, k.gr0, k.fr0, k.tk, k.nt, k.sub, by rw [List.length_set]; exact k.len, fun j v h => k.fz j v (back h).1, fun j v h => k.ow j v (back h).1, fun p q v w a h1 h2 => k.sep p q v w a (back h1).1 (back h2).1, k.fx⟩
theorem pe_mv {X : Cx} {A : Act} {W : WX} {e : Expr} {i : Nat} (h : PE X e (tVar i)) : PE X e (tE A W (mv i)) := by
  refine PE.imp h fun σ H Q ⟨r, G, k, m⟩ => ?_
  have rt : ∀ b, Rt (r.set i none) σ b → Rt r σ b := fun b ⟨j, w, h1, h2⟩ => by
    rcases set_some h1 rfl with ⟨e1, e2⟩ | ⟨e1, e2⟩
    · cases e2
    · exact ⟨j, w, e2, h2⟩
  have st : Step σ r G H (r.set i none) G H := ⟨Le.refl _, fun _ _ h _ => KpO.of h, fun _ h h' => absurd h h', rt⟩
  rcases q : r[i]? with _ | _ | ⟨_ | _, v⟩
  · simp only [mv, q] at m
  · simp only [mv, q] at m
  · simp only [mv, q] at m
    obtain ⟨x, e1, e2⟩ := k.fz i v q
    exact ⟨x, e1, m x G H ⟨k.forget i, st, e2, fun z => nomatch z⟩⟩
  · simp only [mv, q] at m
    obtain ⟨a, e1, ro, n, l⟩ := k.ow i v q
    refine ⟨.ref a, e1, m _ G H ⟨k.forget i, st, ⟨a, rfl, ro, n, ?_, l⟩, fun _ b e => by cases e; exact .inr ⟨i, v, q, e1⟩⟩⟩
    rintro ⟨j, w, h1, h2⟩
    rcases set_some h1 rfl with ⟨e1', e2⟩ | ⟨e1', e2⟩
    · cases e2
    · exact e1' (k.sep j i w v a e2 q h2 e1)

/-! ### operands -/
def oV (f : EF) : OF := fun r => match f r with
  | .ok o v r' => .ok (.tmp o v) r'
  | .ex e r' => .ex e r'
  | .bad => .bad
def oS (i : Nat) : OF := fun r => match r[i]? with
  | some (some _) => .ok (.sl i) r
  | _ => .bad
def osNil : OsF := fun r => .ok [] r
def osCons (f : OF) (g : OsF) : OsF := fun r => match f r with
  | .ok h r1 => match g r1 with
    | .ok hs r2 => .ok (h :: hs) r2
    | .ex e r2 => .ex e r2
    | .bad => .bad
  | .ex e r1 => .ex e r1
  | .bad => .bad
section
variable {X : Cx} {A : Act} {W : WX} {e : Expr} {es : List Expr} {f : EF} {fo : OF} {g : OsF} {i : Nat}
theorem po_V (h : PE X e (tE A W f)) : PE X e (tO A W (oV f)) := PE.imp h fun σ H Q ⟨r, G, k, m⟩ => ⟨r, G, k, by
  unfold oV at m
  cases hf : f r with
  | bad => rw [hf] at m; exact m.elim
  | ex e r' => rw [hf] at m; exact m
  | ok o v r' => rw [hf] at m; exact fun x G1 H1 R => m x G1 H1 R.ok R.st R.tr⟩
theorem po_S (h : PE X e (tVar i)) : PE X e (tO A W (oS i)) := PE.imp h fun σ H Q ⟨r, G, k, m⟩ => by
  rcases q : r[i]? with _ | _ | ⟨o, v⟩
  · simp only [oS, q] at m
  · simp only [oS, q] at m
  · simp only [oS, q] at m
    obtain ⟨x, e1, e2⟩ := k.slot q
    exact ⟨x, e1, m x G H k Step.refl e1⟩
theorem pa_osNil : PA X [] (tOs A W osNil) := PA.imp pa_nil fun σ H Q ⟨r, G, k, m⟩ => m [] G H k Step.refl rfl
/-- the first operand, then the others -/
theorem os_cons {σ : L2.St} {H : Hp} {Q : List V → Hp → Prop} (h : tOs A W (osCons fo g) σ H Q) : tO A W fo σ H fun x H1 => tOs A W g σ H1 fun xs H2 => Q (x :: xs) H2 := by
  obtain ⟨r, G, k, m⟩ := h
  refine ⟨r, G, k, ?_⟩
  unfold osCons at m
  cases hf : fo r with
  | bad => rw [hf] at m; exact m.elim
  | ex e r' => rw [hf] at m; exact m
  | ok h r1 =>
    simp only [hf] at m
    intro x G1 H1 k1 st1 t1
    refine ⟨r1, G1, k1, ?_⟩
    cases hg : g r1 with
    | bad => simp only [hg] at m
    | ex e r2 => simp only [hg] at m ⊢; exact m.mono st1.ex
    | ok hs r2 =>
      simp only [hg] at m ⊢
      intro xs G2 H2 k2 st2 t2
      exact m (x :: xs) G2 H2 k2 (st1.trans st2) ⟨x, xs, rfl, t1.step st2, t2⟩
theorem pa_osCons (he : PE X e (tO A W fo)) (hr : PA X es (tOs A W g)) (hs : NoStar X e es := by rfl) : PA X (e :: es) (tOs A W (osCons fo g)) :=
  PA.imp (pa_cons he hr hs) fun _ _ _ h => os_cons h
end

/-! ### primitive operations -/
def prim (P : List Val → Option (Bool × Val)) (f : OsF) : EF := fun r => match f r with
  | .ok hs r1 => match getAll r1 hs with
    | some vs => match P vs with
      | some (o, z) => .ok o z r1
      | none => .bad
    | none => .bad
  | .ex e r1 => .ex e r1
  | .bad => .bad
/-- what HandS asks of values, held by P -/
def ROk (w : Wd) (R : List V → Hp → VK → Prop) (P : List Val → Option (Bool × Val)) : Prop :=
  ∀ G H vs xs o z, Le G H → RReps w G H vs xs → P vs = some (o, z) → ∀ Q : VK, (∀ u G' H', Grow G H G' H' → NRep w G H G' H' o z u → Q u H') → R xs H Q
/-- HandS's reading that P says -/
def rOf (w : Wd) (P : List Val → Option (Bool × Val)) : List V → Hp → VK → Prop := fun xs H Q => ∃ G vs o z, Le G H ∧ RReps w G H vs xs ∧ P vs = some (o, z) ∧ ∀ u G' H', Grow G H G' H' → NRep w G H G' H' o z u → Q u H'
theorem rok_rOf (w : Wd) (P : List Val → Option (Bool × Val)) : ROk w (rOf w P) P := fun G H vs xs o z le rr hp Q q => ⟨G, vs, o, z, le, rr, hp, q⟩
def r2Of (w : Wd) (P : List Val → Option (Bool × Val)) : R2 := fun x y H Q => rOf w P [x, y] H Q
section
variable {X : Cx} {A : Act} {W : WX} {e : Expr} {es : List Expr} {g : OsF} {P : List Val → Option (Bool × Val)} {R : List V → Hp → VK → Prop}
theorem prim_os {σ : L2.St} {H : Hp} {Q : VK} (hR : ROk A.w R P) (h : tE A W (prim P g) σ H Q) : tOs A W g σ H fun xs H1 => R xs H1 Q := by
  obtain ⟨r, G, k, m⟩ := h
  refine ⟨r, G, k, ?_⟩
  unfold prim at m
  cases hf : g r with
  | bad => rw [hf] at m; exact m.elim
  | ex e r' => rw [hf] at m; exact m
  | ok hs r1 =>
    simp only [hf] at m
    intro xs G1 H1 k1 st1 t1
    cases hg : getAll r1 hs with
    | none => simp only [hg] at m
    | some vs =>
      simp only [hg] at m
      cases hp : P vs with
      | none => simp only [hp] at m
      | some oz =>
        obtain ⟨o, z⟩ := oz
        simp only [hp] at m
        refine hR G1 H1 vs xs o z k1.sub (t1.get k1 hg) hp Q fun u G2 H2 gr nr => ?_
        refine m u G2 H2 ⟨k1.grow gr, st1.trans gr.step, nr.trep k1, fun eo a ea => ?_⟩
        subst eo
        obtain ⟨b, e1, _, _, n⟩ := nr
        rw [ea] at e1; cases e1
        exact st1.fresh n
/-- two operands -/
theorem prim_os2 {fa fb : OF} {σ : L2.St} {H : Hp} {Q : VK} (h : tE A W (prim P (osCons fa (osCons fb osNil))) σ H Q) : tOp (r2Of A.w P) (tO A W fa) (tO A W fb) σ H Q := by
  have h2 := os_cons (prim_os (rok_rOf A.w P) h)
  obtain ⟨r, G, k, m⟩ := h2
  refine ⟨r, G, k, ?_⟩
  cases hf : fa r with
  | bad => rw [hf] at m; exact m.elim
  | ex e r' => rw [hf] at m; exact m
  | ok h r1 =>
    simp only [hf] at m ⊢
    intro x G1 H1 k1 st1 t1
    have h3 := os_cons (m x G1 H1 k1 st1 t1)
    obtain ⟨r', G', k', m'⟩ := h3
    refine ⟨r', G', k', ?_⟩
    cases hb : fb r' with
    | bad => rw [hb] at m'; exact m'.elim
    | ex e r' => rw [hb] at m'; exact m'
    | ok h r1 =>
      simp only [hb] at m' ⊢
      intro y G2 H2 k2 st2 t2
      obtain ⟨r4, G4, k4, m4⟩ := m' y G2 H2 k2 st2 t2
      exact m4 [] G4 H2 k4 Step.refl rfl
theorem prim_os1 {fa : OF} {σ : L2.St} {H : Hp} {Q : VK} (h : tE A W (prim P (osCons fa osNil)) σ H Q) : tO A W fa σ H fun x H1 => rOf A.w P [x] H1 Q := by
  have h2 := os_cons (prim_os (rok_rOf A.w P) h)
  obtain ⟨r, G, k, m⟩ := h2
  refine ⟨r, G, k, ?_⟩
  cases hf : fa r with
  | bad => rw [hf] at m; exact m.elim
  | ex e r' => rw [hf] at m; exact m
  | ok h r1 =>
    simp only [hf] at m ⊢
    intro x G1 H1 k1 st1 t1
    obtain ⟨r4, G4, k4, m4⟩ := m x G1 H1 k1 st1 t1
    exact m4 [] G4 H1 k4 Step.refl rfl
end
end M
/-! MP3: tests, truth, displays, calls, what a def promises. -/
namespace M
open PySem L2

/-! ### tests -/
def tst (f : EF) : BF := fun r => match f r with
  | .ok _ v r' => match v with
    | .bl b => .ok b r'
    | _ => .bad
  | .ex e r' => .ex e r'
  | .bad => .bad
def andB (f g : BF) : BF := fun r => match f r with
  | .ok true r' => g r'
  | x => x
def orB (f g : BF) : BF := fun r => match f r with
  | .ok false r' => g r'
  | x => x
def notB (f : BF) : BF := fun r => match f r with
  | .ok b r' => .ok (!b) r'
  | x => x
theorem trep_f {A : Act} {G H : Hp} {σ : L2.St} {r : Env} {v : Val} {x : V} (h : Rep A.w G v x) : TRep A G H σ r false v x := h
theorem trep_t {A : Act} {G H : Hp} {σ : L2.St} {r : Env} {v : Val} {a : Addr} (h : Root A.w G H v a) (n : G a = none) (nr : ¬ Rt r σ a) (l : A.L a ∨ A.H0 a = none) : TRep A G H σ r true v (.ref a) := ⟨a, rfl, h, n, nr, l⟩
theorem root_lst {w : Wd} {G H : Hp} {a : Addr} {ds : List Val} {xs : List V} (h : H a = some (.lst xs)) (q : Reps w G ds xs) : Root w G H (.lst ds) a := ⟨xs, h, q⟩
theorem nrep_f {w : Wd} {G H G' H' : Hp} {v : Val} {x : V} (h : Rep w G' v x) : NRep w G H G' H' false v x := h
theorem no_own {x : V} {H : Hp} {σ : L2.St} {r : Env} : false = true → ∀ a, x = .ref a → H a = none ∨ Rt r σ a := fun z => nomatch z
theorem bl_of {A : Act} {σ : L2.St} {H : Hp} {G : Hp} {r : Env} {o : Bool} {b : Bool} {u : V} (t : TRep A G H σ r o (.bl b) u) : u = .bl b := by
  cases o with
  | true => obtain ⟨a, _, ro, _⟩ := t; exact ro.elim
  | false => exact rep_bl.mp (show Rep A.w G (.bl b) u from t)
section
variable {X : Cx} {A : Act} {W : WX} {e : Expr} {f : EF} {fa fb : OF} {P : List Val → Option (Bool × Val)} {r2 : R2} {b c : BF} {σ : L2.St} {H : Hp} {Q : Bool → Hp → Prop}
theorem tst_of (h : tBo A W (tst f) σ H Q) : tE A W f σ H fun x H1 => ∃ k, x = .bl k ∧ Q k H1 := by
  obtain ⟨r, G, k, m⟩ := h
  refine ⟨r, G, k, ?_⟩
  unfold tst at m
  cases hf : f r with
  | bad => rw [hf] at m; exact m.elim
  | ex e r' => rw [hf] at m; exact m
  | ok o v r' =>
    simp only [hf] at m
    intro x G1 H1 R
    cases v with
    | bl b =>
      exact ⟨b, bl_of R.tr, m G1 H1 R.ok R.st⟩
    | _ => exact False.elim m
theorem pt_tst (h : PE X e (tE A W f)) (he : ∀ whole, isTrue e X.env whole = (do let v ← whole; standAt e.pos; holding [v] (truthy v)) := by intro _; rfl) : PT X e (tBo A W (tst f)) :=
  PT.imp (pt_val h he) fun _ _ _ q => tst_of q
theorem pt_cmp' {x y : Expr} {op : CmpOp} {pos : Pos} (ho : OpR X (compareOp op) (r2Of A.w P)) (ha : PE X x (tO A W fa)) (hb : PE X y (tO A W fb)) (hm : behindInMarks op y = false) :
    PT X (.Compare x [op] [y] pos) (tBo A W (tst (prim P (osCons fa (osCons fb osNil))))) :=
  PT.imp (pt_cmpR ho ha hb hm) fun _ _ _ q => prim_os2 (tst_of q)
theorem and_of {Q} (h : tBo A W (andB b c) σ H Q) : tAnd (tBo A W b) (tBo A W c) σ H Q := by
  obtain ⟨r, G, k, m⟩ := h
  refine ⟨r, G, k, ?_⟩
  unfold andB at m
  rcases hf : b r with ⟨_ | _, r1⟩ | _ | _
  · simp only [hf] at m ⊢
    intro G1 H1 k1 st1
    simp only [Bool.false_eq_true, if_false]
    exact m G1 H1 k1 st1
  · simp only [hf] at m ⊢
    intro G1 H1 k1 st1
    simp only [if_true]
    refine ⟨r1, G1, k1, ?_⟩
    cases hg : c r1 with
    | bad => simp only [hg] at m
    | ex e r' => simp only [hg] at m ⊢; exact m.mono st1.ex
    | ok d r' => simp only [hg] at m ⊢; exact fun G2 H2 k2 st2 => m G2 H2 k2 (st1.trans st2)
  · simp only [hf] at m ⊢; exact m
  · simp only [hf] at m
theorem or_of {Q} (h : tBo A W (orB b c) σ H Q) : tOr (tBo A W b) (tBo A W c) σ H Q := by
  obtain ⟨r, G, k, m⟩ := h
  refine ⟨r, G, k, ?_⟩
  unfold orB at m
  rcases hf : b r with ⟨_ | _, r1⟩ | _ | _
  · simp only [hf] at m ⊢
    intro G1 H1 k1 st1
    simp only [Bool.false_eq_true, if_false]
    refine ⟨r1, G1, k1, ?_⟩
    cases hg : c r1 with
    | bad => simp only [hg] at m
    | ex e r' => simp only [hg] at m ⊢; exact m.mono st1.ex
    | ok d r' => simp only [hg] at m ⊢; exact fun G2 H2 k2 st2 => m G2 H2 k2 (st1.trans st2)
  · simp only [hf] at m ⊢
    intro G1 H1 k1 st1
    simp only [if_true]
    exact m G1 H1 k1 st1
  · simp only [hf] at m ⊢; exact m
  · simp only [hf] at m
theorem not_of' {Q} (h : tBo A W (notB b) σ H Q) : tNot (tBo A W b) σ H Q := by
  obtain ⟨r, G, k, m⟩ := h
  refine ⟨r, G, k, ?_⟩
  unfold notB at m
  cases hf : b r with
  | ok d r1 => simp only [hf] at m ⊢; exact m
  | ex e r1 => simp only [hf] at m ⊢; exact m
  | bad => simp only [hf] at m
theorem pw_and' {x y : Expr} {rest : List Expr} {pos : Pos} (ha : PT X x (tBo A W b)) (hb : PW X (.BoolOp .And (y :: rest) pos) (tBo A W c)) : PW X (.BoolOp .And (x :: y :: rest) pos) (tBo A W (andB b c)) :=
  ⟨fun wh pins s σ H Q I h => (pw_and ha hb).run wh pins s σ H Q I (and_of h)⟩
theorem pw_or' {x y : Expr} {rest : List Expr} {pos : Pos} (ha : PT X x (tBo A W b)) (hb : PW X (.BoolOp .Or (y :: rest) pos) (tBo A W c)) : PW X (.BoolOp .Or (x :: y :: rest) pos) (tBo A W (orB b c)) :=
  ⟨fun wh pins s σ H Q I h => (pw_or ha hb).run wh pins s σ H Q I (or_of h)⟩
theorem pt_not' {x : Expr} {pos : Pos} (ha : PT X x (tBo A W b)) : PT X (.UnaryOp .Not x pos) (tBo A W (notB b)) := PT.imp (pt_not ha) fun _ _ _ q => not_of' q
end

/-! ### and, or, not, if as values -/
def andV (f g : EF) : EF := fun r => match f r with
  | .ok _ v r' => match v with
    | .bl true => g r'
    | .bl false => .ok false (.bl false) r'
    | _ => .bad
  | x => x
def orV (f g : EF) : EF := fun r => match f r with
  | .ok _ v r' => match v with
    | .bl true => .ok false (.bl true) r'
    | .bl false => g r'
    | _ => .bad
  | x => x
def notV (f : EF) : EF := fun r => match f r with
  | .ok _ v r' => match v with
    | .bl b => .ok false (.bl (!b)) r'
    | _ => .bad
  | x => x
def ite (c : BF) (f g : EF) : EF := fun r => match c r with
  | .ok true r' => f r'
  | .ok false r' => g r'
  | .ex e r' => .ex e r'
  | .bad => .bad
section
variable {X : Cx} {A : Act} {W : WX} {e : Expr} {f g : EF} {c : BF} {σ : L2.St} {H : Hp} {Q : VK} {x y : Expr} {rest : List Expr} {pos : Pos}
/-- an expression in a row behind a state that has gone on -/
theorem tE_step {r r1 : Env} {G G1 H1 : Hp} (k1 : Ok A G1 H1 σ r1) (st1 : Step σ r G H r1 G1 H1)
    (m : match g r1 with
      | .ok o v r' => ∀ x G' H', Res A σ r G H r' G' H' o v x → Q x H'
      | .ex e r' => ExP A W G σ e r'
      | .bad => False) : tE A W g σ H1 Q := by
  refine ⟨r1, G1, k1, ?_⟩
  cases hg : g r1 with
  | bad => simp only [hg] at m
  | ex e r' => simp only [hg] at m ⊢; exact m.mono st1.ex
  | ok o v r' =>
    simp only [hg] at m ⊢
    intro x G2 H2 R
    refine m x G2 H2 ⟨R.ok, st1.trans R.st, R.tr, fun eo a ea => ?_⟩
    rcases R.fr eo a ea with z | z
    · exact st1.fresh z
    · exact .inr (st1.rts a z)
theorem pe_andV (ha : PE X x (tE A W f)) (hb : PE X (.BoolOp .And (y :: rest) pos) (tE A W g)) : PE X (.BoolOp .And (x :: y :: rest) pos) (tE A W (andV f g)) := by
  refine PE.imp (pe_and ha hb) fun σ H Q ⟨r, G, k, m⟩ => ⟨r, G, k, ?_⟩
  unfold andV at m
  cases hf : f r with
  | bad => simp only [hf] at m
  | ex e r' => simp only [hf] at m ⊢; exact m
  | ok o v r' =>
    simp only [hf] at m ⊢
    intro u G1 H1 R
    cases v with
    | bl b =>
      refine ⟨b, bl_of R.tr, ?_⟩
      cases b with
      | true => simp only [if_true]; exact tE_step R.ok R.st m
      | false => simp only [Bool.false_eq_true, if_false]; exact m _ _ _ ⟨R.ok, R.st, trep_f (rep_bl.mpr rfl), no_own⟩
    | _ => exact False.elim m
theorem pe_orV (ha : PE X x (tE A W f)) (hb : PE X (.BoolOp .Or (y :: rest) pos) (tE A W g)) : PE X (.BoolOp .Or (x :: y :: rest) pos) (tE A W (orV f g)) := by
  refine PE.imp (pe_or ha hb) fun σ H Q ⟨r, G, k, m⟩ => ⟨r, G, k, ?_⟩
  unfold orV at m
  cases hf : f r with
  | bad => simp only [hf] at m
  | ex e r' => simp only [hf] at m ⊢; exact m
  | ok o v r' =>
    simp only [hf] at m ⊢
    intro u G1 H1 R
    cases v with
    | bl b =>
      refine ⟨b, bl_of R.tr, ?_⟩
      cases b with
      | true => simp only [if_true]; exact m _ _ _ ⟨R.ok, R.st, trep_f (rep_bl.mpr rfl), no_own⟩
      | false => simp only [Bool.false_eq_true, if_false]; exact tE_step R.ok R.st m
    | _ => exact False.elim m
theorem pe_notV (ha : PE X x (tE A W f)) : PE X (.UnaryOp .Not x pos) (tE A W (notV f)) := by
  refine PE.imp (pe_not ha) fun σ H Q ⟨r, G, k, m⟩ => ⟨r, G, k, ?_⟩
  unfold notV at m
  cases hf : f r with
  | bad => simp only [hf] at m
  | ex e r' => simp only [hf] at m ⊢; exact m
  | ok o v r' =>
    simp only [hf] at m ⊢
    intro u G1 H1 R
    cases v with
    | bl b => exact ⟨b, bl_of R.tr, m _ _ _ ⟨R.ok, R.st, trep_f (rep_bl.mpr rfl), no_own⟩⟩
    | _ => exact False.elim m
theorem pe_ite {t : Expr} (hc : PT X t (tBo A W c)) (ha : PE X x (tE A W f)) (hb : PE X y (tE A W g)) : PE X (.IfExp t x y pos) (tE A W (ite c f g)) := by
  refine PE.imp (pe_ifExp hc ha hb) fun σ H Q ⟨r, G, k, m⟩ => ⟨r, G, k, ?_⟩
  unfold ite at m
  rcases hf : c r with ⟨_ | _, r1⟩ | _ | _
  · simp only [hf] at m ⊢
    intro G1 H1 k1 st1
    simp only [Bool.false_eq_true, if_false]
    exact tE_step k1 st1 m
  · simp only [hf] at m ⊢
    intro G1 H1 k1 st1
    simp only [if_true]
    exact tE_step k1 st1 m
  · simp only [hf] at m ⊢; exact m
  · simp only [hf] at m
end

/-! ### values in a row, frozen -/
inductive AR where
  | ok (vs : List Val) (r : Env) | ex (e : Val) (r : Env) | bad
abbrev AF := Env → AR
def asNil : AF := fun r => .ok [] r
def asCons (f : EF) (g : AF) : AF := fun r => match frz f r with
  | .ok _ v r1 => match g r1 with
    | .ok vs r2 => .ok (v :: vs) r2
    | .ex e r2 => .ex e r2
    | .bad => .bad
  | .ex e r1 => .ex e r1
  | .bad => .bad
def tAs (A : Act) (W : WX) (f : AF) : TA := fun σ H Q => ∃ r G, Ok A G H σ r ∧ match f r with
  | .ok vs r' => ∀ xs G' H', Ok A G' H' σ r' → Step σ r G H r' G' H' → Reps A.w G' vs xs → Q xs H'
  | .ex e r' => ExP A W G σ e r'
  | .bad => False
def tup (g : AF) : EF := fun r => match g r with
  | .ok vs r1 => if vs.length ≤ 100000 then .ok false (.tup vs) r1 else .bad
  | .ex e r1 => .ex e r1
  | .bad => .bad
def lst (g : AF) : EF := fun r => match g r with
  | .ok vs r1 => if vs.length ≤ 100000 then .ok true (.lst vs) r1 else .bad
  | .ex e r1 => .ex e r1
  | .bad => .bad
theorem line_of {n : Nat} (h : n ≤ 100000) : n ≤ sizeLine := Nat.le_trans h (by decide)
theorem frz_false {f : EF} {r r' : Env} {o : Bool} {v : Val} (h : frz f r = .ok o v r') : o = false := by
  unfold frz at h
  split at h <;> first | (cases h; rfl) | cases h
section
variable {X : Cx} {A : Act} {W : WX} {e : Expr} {es : List Expr} {f : EF} {g : AF} {pos : Pos}
theorem pa_asNil : PA X [] (tAs A W asNil) := PA.imp pa_nil fun σ H Q ⟨r, G, k, m⟩ => m [] G H k Step.refl (reps_nil.mpr rfl)
theorem pa_asCons (he : PE X e (tE A W f)) (hr : PA X es (tAs A W g)) (hs : NoStar X e es := by rfl) : PA X (e :: es) (tAs A W (asCons f g)) := by
  refine PA.imp (pa_cons (pe_frz he) hr hs) fun σ H Q ⟨r, G, k, m⟩ => ⟨r, G, k, ?_⟩
  unfold asCons at m
  cases hf : frz f r with
  | bad => simp only [hf] at m
  | ex e r' => simp only [hf] at m ⊢; exact m
  | ok o v r1 =>
    have eo := frz_false hf
    subst eo
    simp only [hf] at m ⊢
    intro x G1 H1 R1
    refine ⟨r1, G1, R1.ok, ?_⟩
    cases hg : g r1 with
    | bad => simp only [hg] at m
    | ex e r2 => simp only [hg] at m ⊢; exact m.mono R1.st.ex
    | ok vs r2 =>
      simp only [hg] at m ⊢
      intro xs G2 H2 k2 st2 rs
      exact m (x :: xs) G2 H2 k2 (R1.st.trans st2) (reps_cons.mpr ⟨x, xs, rfl, Rep.mono st2.ex R1.tr, rs⟩)
theorem pe_tup' {k1} (h : PA X es (tAs A W g)) : PE X (.Tuple es k1 pos) (tE A W (tup g)) := by
  refine PE.imp (pe_tup h) fun σ H Q ⟨r, G, k, m⟩ => ⟨r, G, k, ?_⟩
  unfold tup at m
  cases hf : g r with
  | bad => simp only [hf] at m
  | ex e r' => simp only [hf] at m ⊢; exact m
  | ok vs r1 =>
    simp only [hf] at m ⊢
    intro xs G1 H1 k1 st1 rs
    by_cases hl : vs.length ≤ 100000
    · simp only [if_pos hl] at m
      refine ⟨by rw [← reps_length rs]; exact line_of hl, fun p hp => ?_⟩
      have gr := Grow.laidG (o := .tup xs) k1.sub hp
      exact m _ _ _ ⟨k1.grow gr, st1.trans gr.step, trep_f (rep_tup.mpr ⟨p, xs, rfl, SqT.of upd_same, rs.mono gr.g⟩), no_own⟩
    · simp only [if_neg hl] at m
theorem pe_lst' (h : PA X es (tAs A W g)) : PE X (.List es pos) (tE A W (lst g)) := by
  refine PE.imp (pe_lst h) fun σ H Q ⟨r, G, k, m⟩ => ⟨r, G, k, ?_⟩
  unfold lst at m
  cases hf : g r with
  | bad => simp only [hf] at m
  | ex e r' => simp only [hf] at m ⊢; exact m
  | ok vs r1 =>
    simp only [hf] at m ⊢
    intro xs G1 H1 k1 st1 rs
    by_cases hl : vs.length ≤ 100000
    · simp only [if_pos hl] at m
      refine ⟨by rw [← reps_length rs]; exact line_of hl, fun p hp => ?_⟩
      have gr := Grow.laidH (o := .lst xs) k1.sub hp
      refine m _ _ _ ⟨k1.grow gr, st1.trans gr.step, trep_t (root_lst upd_same rs) (k1.sub.back hp) (k1.notRt hp) (k1.fresh hp), fun _ a e => ?_⟩
      cases e
      exact st1.fresh hp
    · simp only [if_neg hl] at m
end

/-! ### calls -/
inductive GR where
  | ok (o : Bool) (v : Val) (out : Option (Bool × Val)) | ex (e : Val) (out : Option (Bool × Val)) | bad
abbrev GF := List (Bool × Val) → GR
/-- the arguments at a call: frozen values, one slot's container at most -/
def ARel (w : Wd) (G H : Hp) : List (Bool × Val) → List V → Prop
  | [], xs => xs = []
  | (false, v) :: as, xs => ∃ y ys, xs = y :: ys ∧ Rep w G v y ∧ ARel w G H as ys
  | (true, v) :: as, xs => ∃ a ys, xs = .ref a :: ys ∧ Root w G H v a ∧ G a = none ∧ ARel w G H as ys
def Lent (as : List (Bool × Val)) (xs : List V) (a : Addr) : Prop := ∃ (i : Nat) (v : Val), as[i]? = some (true, v) ∧ xs[i]? = some (.ref a)
def lents (as : List (Bool × Val)) : Nat := (as.filter (·.1)).length
def OutRel (w : Wd) (G H : Hp) (a : Addr) : Option (Bool × Val) → Prop
  | some (true, v) => Root w G H v a ∧ G a = none
  | some (false, v) => Rep w G v (.ref a)
  | none => False
/-- behind a call -/
structure Post (w : Wd) (G H : Hp) (as : List (Bool × Val)) (xs : List V) (out : Option (Bool × Val)) (G' H' : Hp) : Prop where
  g : Le G G'
  s : Le G' H'
  gr : ∀ a, G a = none → G' a ≠ none → H a = none ∨ Lent as xs a
  kp : ∀ a o, H a = some o → ¬ Lent as xs a → KpO o (H' a)
  tk : TkO w.T H'
  nt : NoT G'
  out : ∀ a, Lent as xs a → OutRel w G' H' a out
/-- a def's promise: called with as it is worth g as -/
def LeT (w : Wd) (G H : Hp) : Prop := Le G H ∧ TkO w.T H ∧ NoT G
theorem Ok.subT {A : Act} {G H : Hp} {σ : L2.St} {r : Env} (k : Ok A G H σ r) : LeT A.w G H := ⟨k.sub, k.tk, k.nt⟩
def spF (w : Wd) (n : Nat) (g : GF) : Sp := fun vs H Q E => ∃ G as, vs.length = n ∧ LeT w G H ∧ ARel w G H as vs ∧ lents as ≤ 1 ∧ match g as with
  | .ok o z out => ∀ u G' H', Post w G H as vs out G' H' → NRep w G H G' H' o z u → Q u H'
  | .ex e out => match e with
    | .exc c fs => ∀ G' H' C d, Post w G H as vs out G' H' → w.CM c = some C → XdOk w G' H' d fs → E (.ref C) d H'
    | _ => False
  | .bad => False
/-- the arguments as the slots are: temporaries are frozen -/
def lend (r : Env) : List Hd → Option (List (Bool × Val))
  | [] => some []
  | .tmp false v :: hs => match lend r hs with
    | some as => some ((false, v) :: as)
    | none => none
  | .tmp true _ :: _ => none
  | .sl i :: hs => match r[i]? with
    | some (some t) => match lend r hs with
      | some as => some (t :: as)
      | none => none
    | _ => none
/-- the slot that is lent -/
def lentIx (r : Env) : List Hd → Option Nat
  | [] => none
  | .sl i :: hs => match r[i]? with
    | some (some (true, _)) => some i
    | _ => lentIx r hs
  | _ :: hs => lentIx r hs
/-- the slots behind a call -/
def back (r : Env) (ix : Option Nat) (out : Option (Bool × Val)) : Env := match ix with
  | some i => r.set i out
  | none => r
def callG (n : Nat) (g : GF) (f : OsF) : EF := fun r => match f r with
  | .ok hs r1 => match lend r1 hs with
    | some as => if lents as ≤ 1 ∧ as.length = n then match g as with
      | .ok o z out => .ok o z (back r1 (lentIx r1 hs) out)
      | .ex e out => .ex e (back r1 (lentIx r1 hs) out)
      | .bad => .bad
      else .bad
    | none => .bad
  | .ex e r1 => .ex e r1
  | .bad => .bad

theorem lents_zero : ∀ {as : List (Bool × Val)}, lents as = 0 → ∀ {p : Nat} {v : Val}, as[p]? ≠ some (true, v)
  | [], _, p, v => by simp
  | (b, w) :: as, h, p, v => by
    cases b with
    | true => simp [lents] at h
    | false =>
      have h' : lents as = 0 := by simpa [lents] using h
      cases p with
      | zero => simp
      | succ p => simpa using lents_zero h' (p := p) (v := v)
section
variable {A : Act} {W : WX} {G H G' H' : Hp} {σ : L2.St} {r : Env}
theorem lend_rel (k : Ok A G H σ r) : ∀ {hs : List Hd} {xs : List V} {as : List (Bool × Val)}, lend r hs = some as → HReps A G H σ r hs xs → ARel A.w G H as xs
  | [], _, as, e, h => by simp only [lend, Option.some.injEq] at e; subst e; exact h
  | .tmp false v :: hs, _, as, e, ⟨y, ys, e1, a, b⟩ => by
    simp only [lend] at e
    split at e
    · rename_i as' q
      cases e
      exact ⟨y, ys, e1, a, lend_rel k q b⟩
    · cases e
  | .tmp true v :: hs, _, as, e, _ => by simp only [lend] at e; cases e
  | .sl i :: hs, _, as, e, ⟨y, ys, e1, a, b⟩ => by
    simp only [lend] at e
    split at e
    · rename_i t q
      split at e
      · rename_i as' q2
        cases e
        obtain ⟨o, v⟩ := t
        have a' : σ[i]? = some (some y) := a
        cases o with
        | false =>
          obtain ⟨x, e2, rp⟩ := k.fz i v q
          rw [a'] at e2; cases e2
          exact ⟨y, ys, e1, rp, lend_rel k q2 b⟩
        | true =>
          obtain ⟨c, e2, ro, n, _⟩ := k.ow i v q
          rw [a'] at e2; cases e2
          exact ⟨c, ys, e1, ro, n, lend_rel k q2 b⟩
      · cases e
    · cases e
theorem lend_none : ∀ {hs : List Hd} {as : List (Bool × Val)}, lend r hs = some as → lents as = 0 → lentIx r hs = none
  | [], _, _, _ => rfl
  | .tmp false v :: hs, as, e, h => by
    simp only [lend] at e
    split at e
    · rename_i as' q
      cases e
      exact lend_none (hs := hs) q (by simpa [lents] using h)
    · cases e
  | .tmp true v :: hs, as, e, _ => by simp only [lend] at e; cases e
  | .sl i :: hs, as, e, h => by
    simp only [lend] at e
    split at e
    · rename_i t q
      split at e
      · rename_i as' q2
        cases e
        obtain ⟨o, v⟩ := t
        cases o with
        | false => simp only [lentIx, q]; exact lend_none q2 (by simpa [lents] using h)
        | true => simp [lents] at h
      · cases e
    · cases e
theorem lend_at : ∀ {hs : List Hd} {as : List (Bool × Val)} {xs : List V} {p : Nat} {v : Val} {x : V}, lend r hs = some as → lents as ≤ 1 → HReps A G H σ r hs xs → as[p]? = some (true, v) → xs[p]? = some x →
    ∃ i, lentIx r hs = some i ∧ r[i]? = some (some (true, v)) ∧ σ[i]? = some (some x)
  | [], as, _, p, v, x, e, _, _, h, _ => by simp only [lend, Option.some.injEq] at e; subst e; simp at h
  | .tmp false w :: hs, as, _, p, v, x, e, hl, ⟨y, ys, e1, a, b⟩, h, hx => by
    simp only [lend] at e
    split at e
    · rename_i as' q
      cases e; subst e1
      cases p with
      | zero => simp at h
      | succ p =>
        obtain ⟨i, h1, h2, h3⟩ := lend_at q (by simpa [lents] using hl) b (p := p) (by simpa using h) (by simpa using hx)
        exact ⟨i, h1, h2, h3⟩
    · cases e
  | .tmp true v :: hs, as, _, _, _, _, e, _, _, _, _ => by simp only [lend] at e; cases e
  | .sl i :: hs, as, _, p, v, x, e, hl, ⟨y, ys, e1, a, b⟩, h, hx => by
    simp only [lend] at e
    split at e
    · rename_i t q
      split at e
      · rename_i as' q2
        cases e; subst e1
        obtain ⟨o, w⟩ := t
        cases o with
        | false =>
          cases p with
          | zero => simp at h
          | succ p =>
            obtain ⟨i', h1, h2, h3⟩ := lend_at q2 (by simpa [lents] using hl) b (p := p) (by simpa using h) (by simpa using hx)
            exact ⟨i', by simp only [lentIx, q]; exact h1, h2, h3⟩
        | true =>
          have z : lents as' = 0 := by
            have e : lents ((true, w) :: as') = lents as' + 1 := by simp [lents]
            omega
          cases p with
          | zero =>
            simp at h hx; subst h; subst hx
            exact ⟨i, by simp only [lentIx, q], q, a⟩
          | succ p => exact absurd (by simpa using h) (lents_zero z (p := p) (v := v))
      · cases e
    · cases e
/-- a heap behind a call that was lent nothing -/
theorem Ok.post0 (k : Ok A G H σ r) (g : Le G G') (s : Le G' H') (gr : ∀ a, G a = none → G' a ≠ none → H a = none) (kp : ∀ a o, H a = some o → KpO o (H' a)) (tk : TkO A.w.T H') (nt : NoT G') : Ok A G' H' σ r where
  ex0 := k.ex0.trans g
  gr0 := fun a h => by
    by_cases q : G a = none
    · rcases k.fresh (gr a q h) with z | z
      · exact .inr (.inr z)
      · exact .inr (.inl z)
    · exact k.gr0 a q
  fr0 := fun a o h n => (k.fr0 a o h n).trans fun u e => kp _ _ e
  tk := tk
  nt := nt
  sub := s
  len := k.len
  fz := fun i v h => let ⟨x, e, q⟩ := k.fz i v h; ⟨x, e, q.mono g⟩
  ow := fun i v h => by
    obtain ⟨a, e, q, n, l⟩ := k.ow i v h
    refine ⟨a, e, q.monoK g (kp a), ?_, l⟩
    cases z : G' a with
    | none => rfl
    | some o =>
      obtain ⟨o', e', _⟩ := q.has
      have := gr a n (by rw [z]; simp)
      rw [e'] at this; cases this
  sep := k.sep
  fx := k.fx
/-- .. that was lent slot i's container -/
theorem Ok.post1 {i : Nat} {v : Val} {a : Addr} {out : Slot} (k : Ok A G H σ r) (hi : r[i]? = some (some (true, v))) (hσ : σ[i]? = some (some (.ref a))) (g : Le G G') (s : Le G' H') (gr : ∀ b, G b = none → G' b ≠ none → H b = none ∨ b = a)
    (kp : ∀ b o, H b = some o → b ≠ a → KpO o (H' b)) (tk : TkO A.w.T H') (nt : NoT G') (out' : OutRel A.w G' H' a out) : Ok A G' H' σ (r.set i out) := by
  obtain ⟨a', e, ro, n, l⟩ := k.ow i v hi
  rw [hσ] at e; cases e
  have il : i < r.length := (List.getElem?_eq_some_iff.mp hi).1
  refine ⟨k.ex0.trans g, fun b h => ?_, fun b o h nl => ?_, tk, nt, s, by rw [List.length_set]; exact k.len, fun j w h1 => ?_, fun j w h1 => ?_, fun p q v' w' b h1 h2 h3 h4 => ?_, k.fx⟩
  · by_cases q : G b = none
    · rcases gr b q h with z | z
      · rcases k.fresh z with z | z
        · exact .inr (.inr z)
        · exact .inr (.inl z)
      · subst z; rcases l with l | l
        · exact .inr (.inr l)
        · exact .inr (.inl l)
    · exact k.gr0 b q
  · refine (k.fr0 b o h nl).trans fun u e => kp b u e fun z => ?_
    subst z
    rcases l with l | l
    · exact nl l
    · rw [l] at h; cases h
  · rcases set_some h1 rfl with ⟨e1, e2⟩ | ⟨e1, e2⟩
    · subst e1; subst e2; exact ⟨_, hσ, out'⟩
    · obtain ⟨x, e, q⟩ := k.fz j w e2; exact ⟨x, e, q.mono g⟩
  · rcases set_some h1 rfl with ⟨e1, e2⟩ | ⟨e1, e2⟩
    · subst e1; subst e2; exact ⟨a, hσ, out'.1, out'.2, l⟩
    · obtain ⟨b, e, q, nb, lb⟩ := k.ow j w e2
      have ne : b ≠ a := fun z => e1 (k.sep j i w v a e2 hi (by rw [e, z]) hσ)
      refine ⟨b, e, q.monoK g (fun o h => kp b o h ne), ?_, lb⟩
      cases z : G' b with
      | none => rfl
      | some o =>
        obtain ⟨u, hu, _⟩ := q.has
        rcases gr b nb (by rw [z]; simp) with y | y
        · rw [hu] at y; cases y
        · exact absurd y ne
  · have own : ∀ {j : Nat} {w : Val}, (r.set i out)[j]? = some (some (true, w)) → ∃ w', r[j]? = some (some (true, w')) := fun {j w} h => by
      rcases set_some h rfl with ⟨e1, e2⟩ | ⟨e1, e2⟩
      · subst e1; exact ⟨v, hi⟩
      · exact ⟨w, e2⟩
    obtain ⟨w1, o1⟩ := own h1
    obtain ⟨w2, o2⟩ := own h2
    exact k.sep p q w1 w2 b o1 o2 h3 h4
theorem rt_set {i : Nat} {v : Val} {out : Slot} (hi : r[i]? = some (some (true, v))) {b : Addr} (h : Rt (r.set i out) σ b) : Rt r σ b := by
  obtain ⟨j, w, h1, h2⟩ := h
  rcases set_some h1 rfl with ⟨e1, e2⟩ | ⟨e1, e2⟩
  · subst e1; exact ⟨j, v, hi, h2⟩
  · exact ⟨j, w, e2, h2⟩
/-- the state behind a call -/
theorem call_state {hs : List Hd} {as : List (Bool × Val)} {xs : List V} {out : Option (Bool × Val)} (k : Ok A G H σ r) (hl : lend r hs = some as) (h1 : lents as ≤ 1) (hr : HReps A G H σ r hs xs) (p : Post A.w G H as xs out G' H') :
    Ok A G' H' σ (back r (lentIx r hs) out) ∧ Step σ r G H (back r (lentIx r hs) out) G' H' := by
  by_cases z : lents as = 0
  · have nl : ∀ a, ¬ Lent as xs a := fun a ⟨q, v, h, _⟩ => lents_zero z h
    rw [lend_none hl z]
    have kp : ∀ a o, H a = some o → KpO o (H' a) := fun a o h => p.kp a o h (nl a)
    have gr : ∀ a, G a = none → G' a ≠ none → H a = none := fun a h h' => (p.gr a h h').resolve_right (nl a)
    exact ⟨k.post0 p.g p.s gr kp p.tk p.nt, p.g, fun a o h _ => kp a o h, fun a h h' => .inl (gr a h h'), fun a h => h⟩
  · -- one is lent
    have ⟨q, v, hq⟩ : ∃ (q : Nat) (v : Val), as[q]? = some (true, v) := by
      have : ∀ {as : List (Bool × Val)}, lents as ≠ 0 → ∃ (q : Nat) (v : Val), as[q]? = some (true, v) := by
        intro as
        induction as with
        | nil => intro h; exact absurd rfl h
        | cons t as ih =>
          intro h
          obtain ⟨b, w⟩ := t
          cases b with
          | true => exact ⟨0, w, rfl⟩
          | false =>
            obtain ⟨q, v, e⟩ := ih (by simpa [lents] using h)
            exact ⟨q + 1, v, by simpa using e⟩
      exact this z
    have lx : ∃ x, xs[q]? = some x := by
      have : ∀ {as : List (Bool × Val)} {xs : List V} {q : Nat} {t : Bool × Val}, ARel A.w G H as xs → as[q]? = some t → ∃ x, xs[q]? = some x := by
        intro as
        induction as with
        | nil => intro xs q t _ h; simp at h
        | cons u as ih =>
          intro xs q t h e
          obtain ⟨b, w⟩ := u
          cases b with
          | true =>
            obtain ⟨a, ys, e1, _, _, rest⟩ := h
            subst e1
            cases q with
            | zero => exact ⟨_, rfl⟩
            | succ q => obtain ⟨x, hx⟩ := ih rest (q := q) (by simpa using e); exact ⟨x, by simpa using hx⟩
          | false =>
            obtain ⟨a, ys, e1, _, rest⟩ := h
            subst e1
            cases q with
            | zero => exact ⟨_, rfl⟩
            | succ q => obtain ⟨x, hx⟩ := ih rest (q := q) (by simpa using e); exact ⟨x, by simpa using hx⟩
      exact this (lend_rel k hl hr) hq
    obtain ⟨x, hx⟩ := lx
    obtain ⟨i, e1, e2, e3⟩ := lend_at hl h1 hr hq hx
    obtain ⟨a, e4, ro, n, l⟩ := k.ow i v e2
    rw [e3] at e4
    cases e4
    have only : ∀ b, Lent as xs b → b = a := fun b ⟨q', v', h, h'⟩ => by
      obtain ⟨i', f1, f2, f3⟩ := lend_at hl h1 hr h h'
      rw [e1] at f1; cases f1
      rw [e3] at f3; cases f3; rfl
    have here : Lent as xs a := ⟨q, v, hq, hx⟩
    rw [e1]
    have gr : ∀ b, G b = none → G' b ≠ none → H b = none ∨ b = a := fun b h h' => (p.gr b h h').imp id (only b)
    have kp : ∀ b o, H b = some o → b ≠ a → KpO o (H' b) := fun b o h ne => p.kp b o h fun z => ne (only b z)
    refine ⟨k.post1 e2 e3 p.g p.s gr kp p.tk p.nt (p.out a here), p.g, fun b o h nb => kp b o h fun z => ?_, fun b h h' => (gr b h h').imp id fun z => ?_, fun b h => rt_set e2 h⟩
    · subst z; exact nb ⟨i, v, e2, e3⟩
    · subst z; exact ⟨i, v, e2, e3⟩
theorem call_of {n : Nat} {g : GF} {f : OsF} {Q : VK} (h : tE A W (callG n g f) σ H Q) : tOs A W f σ H fun vs H1 => spF A.w n g vs H1 Q (fun cls d H2 => W cls d σ H2) := by
  obtain ⟨r, G, k, m⟩ := h
  refine ⟨r, G, k, ?_⟩
  unfold callG at m
  cases hf : f r with
  | bad => rw [hf] at m; exact m.elim
  | ex e r' => rw [hf] at m; exact m
  | ok hs r1 =>
    simp only [hf] at m
    intro xs G1 H1 k1 st1 t1
    cases hl : lend r1 hs with
    | none => simp only [hl] at m
    | some as =>
      simp only [hl] at m
      by_cases hc : lents as ≤ 1 ∧ as.length = n
      · simp only [if_pos hc] at m
        have ar := lend_rel k1 hl t1
        have len : ∀ {as : List (Bool × Val)} {xs : List V}, ARel A.w G1 H1 as xs → xs.length = as.length := by
          intro as
          induction as with
          | nil => intro xs h; have h' : xs = [] := h; subst h'; rfl
          | cons t as ih =>
            intro xs h
            obtain ⟨b, w⟩ := t
            cases b with
            | true => obtain ⟨a, ys, e1, _, _, rest⟩ := h; subst e1; simp [ih rest]
            | false => obtain ⟨a, ys, e1, _, rest⟩ := h; subst e1; simp [ih rest]
        refine ⟨G1, as, by rw [len ar, hc.2], k1.subT, ar, hc.1, ?_⟩
        cases hg : g as with
        | bad => simp only [hg] at m
        | ok o z out =>
          simp only [hg] at m ⊢
          intro u G' H' p nr
          obtain ⟨k2, st2⟩ := call_state k1 hl hc.1 t1 p
          refine m u G' H' ⟨k2, st1.trans st2, ?_, fun eo a ea => ?_⟩
          · cases o with
            | true =>
              obtain ⟨a, e, ro, n, n2⟩ := nr
              exact ⟨a, e, ro, n, fun z => k1.notRt n2 (st2.rts a z), k1.fresh n2⟩
            | false => exact nr
          · subst eo
            obtain ⟨b, e, _, _, n2⟩ := nr
            rw [ea] at e; cases e
            exact st1.fresh n2
        | ex e out =>
          simp only [hg] at m ⊢
          cases e with
          | exc c fs =>
            intro G' H' C d p hC hd
            obtain ⟨k2, st2⟩ := call_state k1 hl hc.1 t1 p
            exact m G' H' C d k2 (st1.trans st2).ex hC hd
          | _ => exact m
      · simp only [if_neg hc] at m
end
end M
/-! MPG: defs that are called where no repr is under way (the stack of guards is empty). -/
namespace M
open PySem L2

structure RoomG (k : Nat) (A : Around) : Prop where
  room : Room k A
  gs : A.guards = some []
theorem RoomG.le {j k : Nat} {A : Around} (r : RoomG k A) (h : j ≤ k) : RoomG j A := ⟨r.room.mono h, r.gs⟩
theorem RoomG.deep {k : Nat} {A : Around} (r : RoomG (k + 1) A) (env : PySem.Env) : RoomG k (A.deeper env) := ⟨r.room.deeper env, r.gs⟩
/-- the def at f keeps the promise sp -/
structure FnG (P : Program) (w : World) (K : PySem.W.Frag) (mg : Str → Option Value) (base : Heap) (CX : CXT) (k : Nat) (f : Addr) (fd : FuncData) (ps : List Str) (sp : Sp) : Prop where
  len : ∀ vs H Q E, sp vs H Q E → vs.length = ps.length
  go : ∀ (A : Around) (outer : List PySem.Env) (s : Shared) (H : Hp) (args : Args) (us : List Value) (vs : List V) (Q : VK) (E : XK),
    RoomG k A → Env0 P w K mg base A outer s H → BindsTo s fd args (ps.zip us) → Vals vs us → sp vs H Q E → codeAny (model P w) A (.call (.ref f) args) (CR CX outer P w H s Q E) s
section
variable {P : Program} {w : World} {K : PySem.W.Frag} {mg : Str → Option Value} {base : Heap} {CX : CXT} {k : Nat}
theorem FnG.up {j : Nat} {f : Addr} {fd : FuncData} {ps : List Str} {sp : Sp} (F : FnG P w K mg base CX j f fd ps sp) (h : j ≤ k) : FnG P w K mg base CX k f fd ps sp :=
  ⟨F.len, fun A o s H args us vs Q E hr => F.go A o s H args us vs Q E (hr.le h)⟩
theorem FnG.weak {f : Addr} {fd : FuncData} {ps : List Str} {sp sp' : Sp} (F : FnG P w K mg base CX k f fd ps sp) (h : ∀ vs H Q E, sp' vs H Q E → sp vs H Q E) : FnG P w K mg base CX k f fd ps sp' :=
  ⟨fun vs H Q E q => F.len vs H Q E (h _ _ _ _ q), fun A o s H args us vs Q E hr e b r q => F.go A o s H args us vs Q E hr e b r (h _ _ _ _ q)⟩
/-- from the body -/
theorem fnG_of {f : Addr} {name qual : Str} {params : Arguments} {body : List Stmt} {scope : Scope} {dV kV doc pm cdv ct oc : Value} {an od : Option Addr} {osl : Array (Option Value)} {N ps : List Str} {sp : Sp}
    (lk : K.lookup f = some ⟨oc, od, .func (PySem.W.fnOf name qual params body scope dV kV doc pm an cdv ct), osl⟩) (hcd : PySem.W.codeIn K cdv qual = true) (S : FnScope N ps scope) (len : ∀ vs H Q E, sp vs H Q E → vs.length = ps.length)
    (hb : ∀ (A : Around) (outer : List PySem.Env) (s : Shared) (H : Hp) (vs : List V) (Q : VK) (E : XK), RoomG k (A.deeper (PyProof.Rows.envOfC qual scope s.heap.objs.size f cdv)) → sp vs H Q E →
      ∃ t, PSs (cxOf CX P w K mg base N qual scope f cdv A outer s H E) body t ∧ t { nx := fun _ H' => Q .non H', rt := Q } (L2.start N vs) H) :
    FnG P w K mg base CX (k + 1) f (PySem.W.fnOf name qual params body scope dV kV doc pm an cdv ct) ps sp := by
  constructor
  case len => exact len
  case go =>
    intro A outer s H args us vs Q E hr e0 hbind rv hsp
    have inK : K.In s.heap := e0.mod.kin.keeps fun b o e => (e0.bs b o e).1
    have obj := inK _ _ lk
    obtain ⟨t, ht, q0⟩ := hb A outer s H vs Q E (hr.deep _) hsp
    apply codeAny_call_function hr.room.depth obj rfl S.co S.gen rfl (PySem.W.codeRec_of inK hcd)
    apply hbind
    apply wpAny_newFunctionEnv_cells S.kind
    · rintro ⟨n, v⟩ hy
      rcases S.par n (List.of_mem_zip hy).1 with z | z
      · left; exact z
      · right; exact ⟨z, PySem.W.cellsFrom_some _ _ _ (.inl z)⟩
    · intro env he s1 x
      subst he
      constructor
      · exact (e0.mod.nolimit.keeps fun b o e => (e0.bs b o e).1).keeps x.toInCall.keep
      · apply codeAny_func
        have I0 := inv_start (CX := CX) (P := P) (w := w) (K := K) (mg := mg) (base := base) (E := E) S hr.room.hd e0 (len _ _ _ _ hsp) rv x
        apply wpAny_mono (ht.run [] s1 (L2.start N vs) H _ I0 q0)
        · intro fl s' z
          cases fl with
          | next => obtain ⟨σ', H', J, y⟩ := z; exact ⟨.non, H', J.os, J.bare, J.base, J.hok, rfl, y⟩
          | ret u => obtain ⟨v, σ', H', J, r', y⟩ := z; exact ⟨v, H', J.os, J.bare, J.base, J.hok, r', y⟩
          | brk => obtain ⟨_, _, _, y⟩ := z; exact y.elim
          | cont => obtain ⟨_, _, _, y⟩ := z; exact y.elim
        · intro e s' z; exact z
end
section
variable {X : Cx} {CX : CXT} {k : Nat} {f : Addr} {fd : FuncData} {ps : List Str} {sp : Sp} {pins : List (Addr × Obj)} {σ : L2.St} {H : Hp} {s : Shared} {Q : VK} {E : XK}
/-- what is left behind a callee's run -/
theorem ran (I : Inv X pins σ H s) (hx : ∀ e s', CX X.stack H s E e s' → X.xe e s') {args : Args} (h : codeAny (model X.prog X.w) X.A (.call (.ref f) args) (CR CX X.stack X.prog X.w H s Q E) s) :
    wpAny (model X.prog X.w) X.A (call (.ref f) args.pos args.kw) (EP X pins σ Q) X.xe s := by
  apply wpAny_call
  apply codeAny_mono h
  intro r s' z
  match r, z with
  | .error e, z => exact hx e s' z
  | .ok (.ret u), z => exact I.after z
  | .ok .next, z => exact z.elim
  | .ok .brk, z => exact z.elim
  | .ok .cont, z => exact z.elim
theorem run_G (F : FnG X.prog X.w X.K X.mg X.base CX k f fd ps sp) (hr : RoomG k X.A) (hx : ∀ e s', CX X.stack H s E e s' → X.xe e s') (I : Inv X pins σ H s) {args : Args} {us : List Value} {vs : List V} (hb : BindsTo s fd args (ps.zip us)) (r : Vals vs us)
    (h : sp vs H Q E) : wpAny (model X.prog X.w) X.A (call (.ref f) args.pos args.kw) (EP X pins σ Q) X.xe s := ran I hx (F.go X.A X.stack s H args us vs Q E hr I.env0 hb r h)
end
end M
/-! MP4: a def's body, statements, loops, comprehensions. -/
namespace M
open PySem L2

/-! ### a def -/
def ownIx : List (Bool × Val) → Option Nat
  | [] => none
  | (true, _) :: _ => some 0
  | (false, _) :: as => (ownIx as).map (· + 1)
def outOf (as : List (Bool × Val)) (r : Env) : Option (Option (Bool × Val)) := match ownIx as with
  | none => some none
  | some i => match r[i]? with
    | some (some t) => some (some t)
    | _ => none
def runDef (ios : List Nat) (np N : Nat) (body : SF) : GF := fun as =>
  if as.length = np ∧ (∀ i ∈ ownIx as, i ∈ ios) then
    match body (as.map some ++ List.replicate (N - np) none) with
    | .nx r => match outOf as r with
      | some out => .ok false .non out
      | none => .bad
    | .rt o v r => match outOf as r with
      | some out => if o = true ∧ out.map (·.1) = some false then .bad else .ok o v out
      | none => .bad
    | .ex e r => match outOf as r with
      | some out => .ex e out
      | none => .bad
    | _ => .bad
  else .bad
theorem ownIx_none : ∀ {as : List (Bool × Val)}, ownIx as = none → ∀ {p : Nat} {v : Val}, as[p]? ≠ some (true, v)
  | [], _, p, v => by simp
  | (true, w) :: as, h, _, _ => by simp [ownIx] at h
  | (false, w) :: as, h, p, v => by
    have h' : ownIx as = none := by simpa [ownIx] using h
    cases p with
    | zero => simp
    | succ p => simpa using ownIx_none h' (p := p) (v := v)
theorem ownIx_some : ∀ {as : List (Bool × Val)} {i : Nat}, ownIx as = some i → ∃ v, as[i]? = some (true, v)
  | [], i, h => by simp [ownIx] at h
  | (true, w) :: as, i, h => by simp [ownIx] at h; subst h; exact ⟨w, rfl⟩
  | (false, w) :: as, i, h => by
    simp only [ownIx, Option.map_eq_some_iff] at h
    obtain ⟨j, h, e⟩ := h
    subst e
    obtain ⟨v, e⟩ := ownIx_some h
    exact ⟨v, by simpa using e⟩
theorem own_one : ∀ {as : List (Bool × Val)} {p q : Nat} {v w : Val}, lents as ≤ 1 → as[p]? = some (true, v) → as[q]? = some (true, w) → p = q
  | [], _, _, _, _, _, h, _ => by simp at h
  | (true, u) :: as, p, q, v, w, h, h1, h2 => by
    have z : lents as = 0 := by
      have e : lents ((true, u) :: as) = lents as + 1 := by simp [lents]
      omega
    cases p with
    | zero =>
      cases q with
      | zero => rfl
      | succ q => exact absurd (by simpa using h2) (lents_zero z (p := q) (v := w))
    | succ p => exact absurd (by simpa using h1) (lents_zero z (p := p) (v := v))
  | (false, u) :: as, p, q, v, w, h, h1, h2 => by
    cases p with
    | zero => simp at h1
    | succ p =>
      cases q with
      | zero => simp at h2
      | succ q =>
        have := own_one (as := as) (p := p) (q := q) (by simpa [lents] using h) (by simpa using h1) (by simpa using h2)
        omega
theorem arel_get {w : Wd} {G H : Hp} : ∀ {as : List (Bool × Val)} {xs : List V} {p : Nat} {o : Bool} {v : Val}, ARel w G H as xs → as[p]? = some (o, v) → ∃ x, xs[p]? = some x ∧ match o with
    | true => ∃ a, x = .ref a ∧ Root w G H v a ∧ G a = none
    | false => Rep w G v x
  | [], _, _, _, _, _, h => by simp at h
  | (true, u) :: as, _, p, o, v, ⟨a, ys, e, r, n, t⟩, h => by
    subst e
    cases p with
    | zero => simp at h; obtain ⟨h1, h2⟩ := h; subst h1; subst h2; exact ⟨_, rfl, a, rfl, r, n⟩
    | succ p => obtain ⟨x, e, q⟩ := arel_get t (p := p) (by simpa using h); exact ⟨x, by simpa using e, q⟩
  | (false, u) :: as, _, p, o, v, ⟨a, ys, e, r, t⟩, h => by
    subst e
    cases p with
    | zero => simp at h; obtain ⟨h1, h2⟩ := h; subst h1; subst h2; exact ⟨_, rfl, r⟩
    | succ p => obtain ⟨x, e, q⟩ := arel_get t (p := p) (by simpa using h); exact ⟨x, by simpa using e, q⟩
theorem arel_length {w : Wd} {G H : Hp} : ∀ {as : List (Bool × Val)} {xs : List V}, ARel w G H as xs → xs.length = as.length
  | [], _, h => by have h' : _ = [] := h; subst h'; rfl
  | (true, u) :: as, _, ⟨a, ys, e, _, _, t⟩ => by subst e; simp [arel_length t]
  | (false, u) :: as, _, ⟨a, ys, e, _, t⟩ => by subst e; simp [arel_length t]
/-- the act of a call -/
def actOf (w : Wd) (G H : Hp) (as : List (Bool × Val)) (vs : List V) : Act := ⟨w, G, H, Lent as vs, (ownIx as).toList, fun i => vs[i]?⟩
theorem start_get {N : List Str} {vs : List V} {i : Nat} {x : V} (h : vs[i]? = some x) : (L2.start N vs)[i]? = some (some x) := by
  unfold L2.start
  have hl : i < vs.length := (List.getElem?_eq_some_iff.mp h).1
  rw [List.getElem?_append_left (by simpa using hl), List.getElem?_map, h]; rfl
theorem env0_get {as : List (Bool × Val)} {k i : Nat} {t : Bool × Val} (h : (as.map some ++ List.replicate k (none : Slot))[i]? = some (some t)) : as[i]? = some t := by
  by_cases hl : i < as.length
  · rw [List.getElem?_append_left (by simpa using hl), List.getElem?_map] at h
    cases e : as[i]? with
    | none => rw [e] at h; cases h
    | some u => rw [e] at h; cases h; rfl
  · rw [List.getElem?_append_right (by simpa using hl), List.getElem?_replicate] at h
    split at h <;> cases h
theorem act_ok {w : Wd} {G H : Hp} {as : List (Bool × Val)} {vs : List V} {N : List Str} (g : LeT w G H) (ar : ARel w G H as vs) (l1 : lents as ≤ 1) (hl : vs.length ≤ N.length) : Ok (actOf w G H as vs) G H (L2.start N vs) (as.map some ++ List.replicate (N.length - as.length) none) where
  ex0 := Le.refl _
  gr0 := fun a h => .inl h
  fr0 := fun a o h _ => KpO.of h
  tk := g.2.1
  nt := g.2.2
  sub := g.1
  len := by
    have := arel_length ar
    unfold L2.start
    simp
    omega
  fz := fun i v h => by
    obtain ⟨x, e, q⟩ := arel_get ar (env0_get h)
    exact ⟨x, start_get e, q⟩
  ow := fun i v h => by
    have h' := env0_get h
    obtain ⟨x, e, a, e2, q, n⟩ := arel_get ar h'
    subst e2
    exact ⟨a, start_get e, q, n, .inl ⟨i, v, h', e⟩⟩
  sep := fun i j v w a h1 h2 _ _ => own_one l1 (env0_get h1) (env0_get h2)
  fx := fun i hi => by
    have hi' : ownIx as = some i := by simpa [actOf] using hi
    obtain ⟨v, e⟩ := ownIx_some hi'
    obtain ⟨x, e1, _⟩ := arel_get ar e
    show (L2.start N vs)[i]? = some vs[i]?
    rw [e1]; exact start_get e1
theorem act_post {w : Wd} {G H G' H' : Hp} {as : List (Bool × Val)} {vs : List V} {σ : L2.St} {r : Env} {out : Option (Bool × Val)} (ar : ARel w G H as vs) (l1 : lents as ≤ 1) (k : Ok (actOf w G H as vs) G' H' σ r) (ho : outOf as r = some out) : Post w G H as vs out G' H' where
  g := k.ex0
  s := k.sub
  gr := fun a h h' => (k.gr0 a h').elim (fun z => absurd h z) id
  kp := k.fr0
  tk := k.tk
  nt := k.nt
  out := fun a ⟨i, v, h1, h2⟩ => by
    have hi : ownIx as = some i := by
      cases e : ownIx as with
      | none => exact absurd h1 (ownIx_none e)
      | some j =>
        obtain ⟨w', e'⟩ := ownIx_some e
        rw [own_one l1 e' h1]
    have fx : σ[i]? = some vs[i]? := k.fx i (by simp [actOf, hi])
    rw [h2] at fx
    unfold outOf at ho
    rw [hi] at ho
    simp only at ho
    split at ho
    · rename_i t q
      cases ho
      obtain ⟨b, u⟩ := t
      cases b with
      | true =>
        obtain ⟨c, e, ro, n, _⟩ := k.ow i u q
        rw [fx] at e; cases e
        exact ⟨ro, n⟩
      | false =>
        obtain ⟨x, e, rp⟩ := k.fz i u q
        rw [fx] at e; cases e
        exact rp
    · cases ho

/-- what a body's rule says, whatever it runs over -/
structure SV (X : Cx) (w : Wd) (ios : List Nat) (sts : List Stmt) (f : SF) : Prop where
  run : ∀ (A : Act) (W : WX), A.w = w → (∀ i ∈ A.io, i ∈ ios) → Takes X W → PSs X sts (tSt A W f)
/-- what a def's promise says behind its run -/
def spPost (w : Wd) (G H : Hp) (as : List (Bool × Val)) (vs : List V) (Q : VK) (E : XK) : GR → Prop
  | .ok o z out => ∀ u G' H', Post w G H as vs out G' H' → NRep w G H G' H' o z u → Q u H'
  | .ex e out => match e with
    | .exc c fs => ∀ G' H' C d, Post w G H as vs out G' H' → w.CM c = some C → XdOk w G' H' d fs → E (.ref C) d H'
    | _ => False
  | .bad => False
/-- a body, from what its slots are at the start -/
theorem body_ok {X : Cx} {wd : Wd} {ios : List Nat} {sts : List Stmt} {body : SF} {N : List Str} {np : Nat} {G H : Hp} {as : List (Bool × Val)} {vs : List V} {Q : VK} {E : XK} (sv : SV X wd ios sts body) (tk : Takes X (fun cls d _ H => E cls d H))
    (hN : np ≤ N.length) (hlen : vs.length = np) (hle : LeT wd G H) (ar : ARel wd G H as vs) (l1 : lents as ≤ 1) (hm : spPost wd G H as vs Q E (runDef ios np N.length body as)) :
    ∃ t, PSs X sts t ∧ t { nx := fun _ H' => Q .non H', rt := Q } (L2.start N vs) H := by
  unfold runDef at hm
  by_cases hc : as.length = np ∧ (∀ i ∈ ownIx as, i ∈ ios)
  case neg => rw [if_neg hc] at hm; exact hm.elim
  rw [if_pos hc] at hm
  refine ⟨_, sv.run (actOf wd G H as vs) (fun cls d _ H => E cls d H) rfl (fun i hi => hc.2 i (by simpa [actOf] using hi)) tk, _, G, act_ok (N := N) hle ar l1 (by omega), ?_⟩
  rw [← hc.1] at hm
  generalize hB : body (as.map some ++ List.replicate (N.length - as.length) none) = res at hm ⊢
  cases res with
  | bad => exact hm.elim
  | bk r => exact hm.elim
  | ct r => exact hm.elim
  | nx r =>
    intro σ' G' H' k' _
    cases ho : outOf as r with
    | none => simp only [ho, spPost] at hm
    | some out =>
      simp only [ho, spPost] at hm
      exact hm .non G' H' (act_post ar l1 k' ho) (nrep_f (rep_non.mpr rfl))
  | rt o v r =>
    intro u σ' G' H' k' _ tr
    cases ho : outOf as r with
    | none => simp only [ho, spPost] at hm
    | some out =>
      simp only [ho, spPost] at hm
      by_cases hx : o = true ∧ out.map (·.1) = some false
      case pos => simp only [if_pos hx, spPost] at hm
      simp only [if_neg hx, spPost] at hm
      refine hm u G' H' (act_post ar l1 k' ho) ?_
      cases o with
      | false => exact tr
      | true =>
        obtain ⟨b, e, ro, n, nr, l⟩ := tr
        refine ⟨b, e, ro, n, ?_⟩
        rcases l with l | l
        · exfalso
          obtain ⟨i, v', h1, h2⟩ := l
          have hi : ownIx as = some i := by
            cases e : ownIx as with
            | none => exact absurd h1 (ownIx_none e)
            | some j =>
              obtain ⟨w', e'⟩ := ownIx_some e
              rw [own_one l1 e' h1]
          have fx : σ'[i]? = some vs[i]? := k'.fx i (by simp [actOf, hi])
          rw [h2] at fx
          unfold outOf at ho
          rw [hi] at ho
          simp only at ho
          split at ho
          · rename_i t q
            cases ho
            obtain ⟨c, u'⟩ := t
            cases c with
            | true => exact nr ⟨i, u', q, fx⟩
            | false => exact hx ⟨rfl, rfl⟩
          · cases ho
        · exact l
  | ex e r =>
    intro σ'
    cases ho : outOf as r with
    | none => simp only [ho, spPost] at hm
    | some out =>
      simp only [ho, spPost] at hm
      cases e with
      | exc c fs => exact fun G' H' C d k' _ hC hd => hm G' H' C d (act_post ar l1 k' ho) hC hd
      | _ => exact hm
section
variable {P : Program} {w : World} {K : PySem.W.Frag} {mg : Str → Option Value} {base : Heap}
theorem def_ok {x qual : Str} {st : Stmt} {f : Addr} {fd : FuncData} {N ps : List Str} {k : Nat} {wd : Wd} {ios : List Nat} {body : SF} {g : GF} (F : Fun K x qual st f fd) (S : FnScope N ps (defScope st))
    (hb : ∀ (cdv : Value) (A : Around) (outer : List PySem.Env) (s : Shared) (H : Hp) (E : XK), RoomG k (A.deeper (PyProof.Rows.envOfC qual (defScope st) s.heap.objs.size f cdv)) →
      SV (cxOf (L2.CX P w) P w K mg base N qual (defScope st) f cdv A outer s H E) wd ios (defBody st) body)
    (hg : ∀ as, g as = .bad ∨ g as = runDef ios ps.length N.length body as) : FnG P w K mg base (L2.CX P w) (k + 1) f fd ps (spF wd ps.length g) := by
  obtain ⟨oc, od, kV, doc, pm, an, cdv, ct, osl, rfl, lk, hcd⟩ := F.ex
  refine fnG_of lk hcd S (fun vs H Q E ⟨G, as, h, _⟩ => h) fun A outer s H vs Q E hr ⟨G, as, hlen, hle, ar, l1, hm⟩ => ?_
  have h1 : g as = runDef ios ps.length N.length body as := (hg as).resolve_left fun z => by rw [z] at hm; exact hm
  rw [h1] at hm
  have hN : ps.length ≤ N.length := by
    have := congrArg List.length S.pre
    rw [List.length_take] at this; omega
  refine body_ok (hb cdv A outer s H E hr) (takes_of rfl rfl rfl rfl) hN hlen hle ar l1 ?_
  revert hm
  cases runDef ios ps.length N.length body as <;> exact id
end
end M
/-! MP5: statements. -/
namespace M
open PySem L2

def seq (f g : SF) : SF := fun r => match f r with
  | .nx r' => g r'
  | x => x
def skip : SF := fun r => .nx r
def brk : SF := fun r => .bk r
def cont : SF := fun r => .ct r
/-- never run -/
def never : SF := fun _ => .bad
def asg (i : Nat) (f : EF) : SF := fun r => match f r with
  | .ok o v r' => .nx (r'.set i (some (o, v)))
  | .ex e r' => .ex e r'
  | .bad => .bad
def drop (f : EF) : SF := fun r => match f r with
  | .ok _ _ r' => .nx r'
  | .ex e r' => .ex e r'
  | .bad => .bad
def ret (f : EF) : SF := fun r => match f r with
  | .ok o v r' => .rt o v r'
  | .ex e r' => .ex e r'
  | .bad => .bad
def ifS (c : BF) (f g : SF) : SF := fun r => match c r with
  | .ok true r' => f r'
  | .ok false r' => g r'
  | .ex e r' => .ex e r'
  | .bad => .bad
def whl (c : BF) (b : SF) : Nat → SF
  | 0 => fun _ => .bad
  | n + 1 => fun r => match c r with
    | .ok true r1 => match b r1 with
      | .nx r2 => whl c b n r2
      | .ct r2 => whl c b n r2
      | .bk r2 => .nx r2
      | x => x
    | .ok false r1 => .nx r1
    | .ex e r1 => .ex e r1
    | .bad => .bad
/-- x op= e, ints -/
def aug (i : Nat) (P : Int → Int → Int) (f : EF) : SF := fun r => match r[i]? with
  | some (some (false, .int a)) => match f r with
    | .ok _ v r' => match v with
      | .int b => .nx (r'.set i (some (false, .int (P a b))))
      | _ => .bad
    | .ex e r' => .ex e r'
    | .bad => .bad
  | _ => .bad

section
variable {X : Cx} {A : Act} {W : WX} {e : Expr} {f g : SF} {fe : EF} {c : BF} {st : Stmt} {sts rest : List Stmt} {pos : Pos} {D : Ends} {σ : L2.St} {H : Hp}
theorem tSt_iff : tSt A W f D σ H ↔ ∃ r G, Ok A G H σ r ∧ Fin A W G D (f r) := Iff.rfl
theorem tSt_mk {r : Env} {G : Hp} (k : Ok A G H σ r) (m : Fin A W G D (f r)) : tSt A W f D σ H := tSt_iff.mpr ⟨r, G, k, m⟩
theorem seq_of (h : tSt A W (seq f g) D σ H) : tSeq (tSt A W f) (tSt A W g) D σ H := by
  obtain ⟨r, G, k, m⟩ := tSt_iff.mp h
  refine tSt_mk (D := { D with nx := tSt A W g D }) k ?_
  unfold seq at m
  cases hf : f r with
  | nx r' => rw [hf] at m; exact fun σ' G' H' k' l => tSt_mk k' (m.mono l)
  | _ => rw [hf] at m; exact m
theorem pss_nil' : PSs X [] (tSt A W skip) := PSs.imp pss_nil fun D σ H ⟨r, G, k, m⟩ => m σ G H k (Le.refl _)
theorem pss_cons' (h1 : PS X st (tSt A W f)) (h2 : PSs X rest (tSt A W g)) : PSs X (st :: rest) (tSt A W (seq f g)) := PSs.imp (pss_cons h1 h2) fun _ _ _ h => seq_of h
theorem pss_one' (h1 : PS X st (tSt A W f)) : PSs X [st] (tSt A W f) := pss_one h1
theorem ps_pass' : PS X (.Pass pos) (tSt A W skip) := PS.imp ps_pass fun D σ H ⟨r, G, k, m⟩ => m σ G H k (Le.refl _)
theorem ps_brk' : PS X (.Break pos) (tSt A W brk) := PS.imp ps_break fun D σ H ⟨r, G, k, m⟩ => m σ G H k (Le.refl _)
theorem ps_cont' : PS X (.Continue pos) (tSt A W cont) := PS.imp ps_continue fun D σ H ⟨r, G, k, m⟩ => m σ G H k (Le.refl _)
theorem ps_never' : PS X st (tSt A W never) := PS.imp ps_never fun D σ H ⟨r, G, k, m⟩ => m
theorem pss_never' : PSs X sts (tSt A W never) := PSs.imp pss_never fun D σ H ⟨r, G, k, m⟩ => m
theorem ps_doc' {x j} {pos' : Pos} : PS X (.Expr (.Constant (.str x) j pos) pos') (tSt A W skip) := PS.imp ps_doc fun D σ H ⟨r, G, k, m⟩ => m σ G H k (Le.refl _)
theorem ps_drop' (he : PE X e (tE A W fe)) (hs : swapsWith e none pos.line X.env = pure false := by rfl) : PS X (.Expr e pos) (tSt A W (drop fe)) :=
  PS.imp (ps_expr he hs) fun D σ H ⟨r, G, k, m⟩ => ⟨r, G, k, by
    unfold drop at m
    cases hf : fe r with
    | bad => rw [hf] at m; exact m.elim
    | ex e r' => simp only [hf] at m ⊢; exact m σ
    | ok o v r' => simp only [hf] at m ⊢; exact fun x G' H' R => m σ G' H' R.ok R.st.ex⟩
theorem ps_ret' (he : PE X e (tE A W fe)) : PS X (.Return (some e) pos) (tSt A W (ret fe)) :=
  PS.imp (ps_ret he) fun D σ H ⟨r, G, k, m⟩ => ⟨r, G, k, by
    unfold ret at m
    cases hf : fe r with
    | bad => rw [hf] at m; exact m.elim
    | ex e r' => simp only [hf] at m ⊢; exact m σ
    | ok o v r' => simp only [hf] at m ⊢; exact fun x G' H' R => m x σ G' H' R.ok R.st.ex R.tr⟩
theorem ps_retN' : PS X (.Return none pos) (tSt A W (ret (cst .non))) := PS.imp ps_retN fun D σ H ⟨r, G, k, m⟩ => m .non σ G H k (Le.refl _) (trep_f (rep_non.mpr rfl))
/-- the value goes to slot i -/
theorem Ok.store {G : Hp} {r : Env} {o : Bool} {v : Val} {x : V} {i : Nat} (k : Ok A G H σ r) (t : TRep A G H σ r o v x) (hi : i ∉ A.io) : Ok A G H (σ.set i (some x)) (r.set i (some (o, v))) := by
  have σ_at : ∀ {j : Nat} {s : Option V}, (σ.set i (some x))[j]? = some s → (j = i ∧ s = some x) ∨ (j ≠ i ∧ σ[j]? = some s) := fun {j s} h => by
    by_cases q : i = j
    · subst q
      by_cases l : i < σ.length
      · rw [List.getElem?_set_self l] at h; cases h; exact .inl ⟨rfl, rfl⟩
      · rw [List.getElem?_eq_none (by simpa using l)] at h; cases h
    · rw [List.getElem?_set_ne q] at h
      exact .inr ⟨fun z => q z.symm, h⟩
  have there : ∀ {j : Nat}, j ≠ i → (σ.set i (some x))[j]? = σ[j]? := fun {j} h => List.getElem?_set_ne (Ne.symm h)
  have here : ∀ {t : Bool × Val}, (r.set i (some (o, v)))[i]? = some (some t) → (σ.set i (some x))[i]? = some (some x) := fun {t} h => by
    refine List.getElem?_set_self ?_
    have := (List.getElem?_eq_some_iff.mp h).1
    rw [List.length_set] at this
    rw [k.len]; exact this
  refine ⟨k.ex0, k.gr0, k.fr0, k.tk, k.nt, k.sub, by rw [List.length_set, List.length_set]; exact k.len, fun j w h => ?_, fun j w h => ?_, fun p q v' w' b h1 h2 h3 h4 => ?_, fun j hj => ?_⟩
  · rcases set_some h rfl with ⟨e1, e2⟩ | ⟨e1, e2⟩
    · subst e1; cases e2; exact ⟨x, here h, t⟩
    · obtain ⟨y, e, q⟩ := k.fz j w e2; exact ⟨y, by rw [there e1]; exact e, q⟩
  · rcases set_some h rfl with ⟨e1, e2⟩ | ⟨e1, e2⟩
    · subst e1; cases e2
      obtain ⟨a, e, ro, n, _, l⟩ := t
      subst e
      exact ⟨a, here h, ro, n, l⟩
    · obtain ⟨b, e, q, nb, lb⟩ := k.ow j w e2; exact ⟨b, by rw [there e1]; exact e, q, nb, lb⟩
  · have nr : ∀ {j : Nat} {w : Val} {b : Addr}, j ≠ i → r[j]? = some (some (true, w)) → σ[j]? = some (some (.ref b)) → o = true → x = .ref b → False := fun {j w b} hj h h' eo ex => by
      subst eo; subst ex
      obtain ⟨a, e, _, _, nr, _⟩ := t
      cases e
      exact nr ⟨j, w, h, h'⟩
    rcases set_some h1 rfl with ⟨e1, e2⟩ | ⟨e1, e2⟩
    · cases e2
      rcases set_some h2 rfl with ⟨e3, e4⟩ | ⟨e3, e4⟩
      · rw [e1, e3]
      · exfalso
        rw [there e3] at h4
        subst e1
        rw [here h1] at h3
        cases h3
        exact nr e3 e4 h4 rfl rfl
    · rcases set_some h2 rfl with ⟨e3, e4⟩ | ⟨e3, e4⟩
      · exfalso
        cases e4
        rw [there e1] at h3
        subst e3
        rw [here h2] at h4
        cases h4
        exact nr e1 e2 h3 rfl rfl
      · rw [there e1] at h3; rw [there e3] at h4
        exact k.sep p q v' w' b e2 e4 h3 h4
  · have : j ≠ i := fun z => hi (z ▸ hj)
    rw [there this]; exact k.fx j hj
theorem ps_asg' {i : Nat} {x : Str} {pos' : Pos} (hN : X.N.Nodup) (hi : X.N[i]? = some x) (hx : Loc X.env.scope x) (he : PE X e (tE A W fe)) (hio : i ∉ A.io) (hs : swapsWith e (some (.Name x pos')) pos.line X.env = pure false := by rfl)
    (hf : X.fn x = true ∨ X.env.scope.names.lookup x = some .local := by first | exact .inl rfl | exact .inr rfl | assumption) : PS X (.Assign [.Name x pos'] e pos) (tSt A W (asg i fe)) :=
  PS.imp (ps_set hN hi hx he hs hf) fun D σ H ⟨r, G, k, m⟩ => ⟨r, G, k, by
    unfold asg at m
    cases hf : fe r with
    | bad => rw [hf] at m; exact m.elim
    | ex e r' => simp only [hf] at m ⊢; exact m σ
    | ok o v r' => simp only [hf] at m ⊢; exact fun x G' H' R => m _ G' H' (R.ok.store R.tr hio) R.st.ex⟩
theorem ps_if' {t : Expr} {a b : List Stmt} (hc : PT X t (tBo A W c)) (ha : PSs X a (tSt A W f)) (hb : PSs X b (tSt A W g)) : PS X (.If t a b pos) (tSt A W (ifS c f g)) :=
  PS.imp (ps_if hc ha hb) fun D σ H h => by
    obtain ⟨r, G, k, m⟩ := tSt_iff.mp h
    refine ⟨r, G, k, ?_⟩
    unfold ifS at m
    rcases hf : c r with ⟨_ | _, r1⟩ | _ | _
    · simp only [hf] at m ⊢
      intro G1 H1 k1 st1
      simp only [Bool.false_eq_true, if_false]
      exact tSt_mk k1 (m.mono st1.ex)
    · simp only [hf] at m ⊢
      intro G1 H1 k1 st1
      simp only [if_true]
      exact tSt_mk k1 (m.mono st1.ex)
    · simp only [hf] at m ⊢; exact m σ
    · simp only [hf] at m; exact m.elim
theorem ps_whl' {t : Expr} {body : List Stmt} (hp : PassesOwn (model X.prog X.w) X.A X.env X.xe) (hc : PT X t (tBo A W c)) (hb : PSs X body (tSt A W f)) (n : Nat) : PS X (.While t body [] pos) (tSt A W (whl c f n)) := by
  refine PS.imp (ps_while hp hc hb) fun D σ H h => ⟨fun m σ H => tSt A W (whl c f m) D σ H, ⟨n, h⟩, fun m σ H h => ?_⟩
  obtain ⟨r, G, k, q⟩ := tSt_iff.mp h
  refine ⟨r, G, k, ?_⟩
  cases m with
  | zero => exact q.elim
  | succ m =>
    rw [whl] at q
    rcases hf : c r with ⟨_ | _, r1⟩ | _ | _
    · simp only [hf] at q ⊢
      intro G1 H1 k1 st1
      simp only [Bool.false_eq_true, if_false]
      exact q _ _ _ k1 st1.ex
    · simp only [hf] at q ⊢
      intro G1 H1 k1 st1
      simp only [if_true]
      refine ⟨tSt A W (whl c f m) D, fun σ' H' h' => ⟨m, Nat.lt_succ_self m, h'⟩, ?_⟩
      refine tSt_mk k1 (Fin.mono st1.ex ?_)
      cases hg : f r1 with
      | nx r2 => simp only [hg] at q; exact fun σ' G' H' k' l => tSt_mk k' (q.mono l)
      | ct r2 => simp only [hg] at q; exact fun σ' G' H' k' l => tSt_mk k' (q.mono l)
      | bk r2 => simp only [hg] at q; exact q
      | rt o v r2 => simp only [hg] at q; exact q
      | ex e r2 => simp only [hg] at q; exact q
      | bad => simp only [hg] at q; exact q
    · simp only [hf] at q ⊢; exact q σ
    · simp only [hf] at q; exact q.elim
theorem ps_aug' {i : Nat} {x : Str} {op : Operator} {P : Int → Int → Int} {pos' : Pos} (hN : X.N.Nodup) (hi : X.N[i]? = some x) (hx : Loc X.env.scope x) (he : PE X e (tE A W fe)) (ho : PIp X op (ipI P)) (hio : i ∉ A.io)
    (hf : X.fn x = true ∨ X.env.scope.names.lookup x = some .local := by first | exact .inl rfl | exact .inr rfl | assumption) : PS X (.AugAssign (.Name x pos') op e pos) (tSt A W (aug i P fe)) :=
  PS.imp (ps_aug hN hi hx he ho hf) fun D σ H h => by
    obtain ⟨r, G, k, m⟩ := tSt_iff.mp h
    rcases q : r[i]? with _ | _ | ⟨_ | _, v⟩
    · simp only [aug, q] at m; exact m.elim
    · simp only [aug, q] at m; exact m.elim
    · cases v with
      | int a =>
        simp only [aug, q] at m
        obtain ⟨y, e1, e2⟩ := k.fz i _ q
        rw [rep_int] at e2; subst e2
        refine ⟨.int a, e1, r, G, k, ?_⟩
        cases hf : fe r with
        | bad => simp only [hf] at m; exact m.elim
        | ex e r' => simp only [hf] at m ⊢; exact m σ
        | ok o v r' =>
          simp only [hf] at m ⊢
          intro y G' H' R
          cases v with
          | int b =>
            have ey : y = .int b := by
              have t := R.tr
              cases o with
              | true => obtain ⟨_, _, ro, _⟩ := t; exact ro.elim
              | false => exact rep_int.mp (show Rep A.w G' (.int b) y from t)
            exact ⟨a, b, rfl, ey, m _ G' H' (R.ok.store (o := false) (v := .int (P a b)) (x := .int (P a b)) (trep_f (rep_int.mpr rfl)) hio) R.st.ex⟩
          | _ => exact m.elim
      | _ => simp only [aug, q] at m; exact m.elim
    · cases v <;> (simp only [aug, q] at m; exact m.elim)
end
end M
/-! MP6: what is walked, targets, for, list comprehensions. -/
namespace M
open PySem L2

/-! ### what is walked -/
inductive IR where
  | ok (vs : List Val) (r : Env) | ex (e : Val) (r : Env) | bad
abbrev IF := Env → IR
/-- the walk J yields the items, whatever happens to what is owned -/
structure ItOk (w : Wd) (J : It) (G0 : Hp) (vs : List Val) : Prop where
  go : ∀ G H i, Le G0 G → Le G H → i < vs.length → J.go i H
  stop : ∀ G H i, Le G0 G → Le G H → vs.length ≤ i → J.stop i H
  yld : ∀ G H i v x H', Le G0 G → Le G H → vs[i]? = some v → J.yld i H x H' → ∃ G', Grow G H G' H' ∧ Rep w G' v x
def tIt (A : Act) (W : WX) (f : IF) : TI := fun σ H R => ∃ r G, Ok A G H σ r ∧ match f r with
  | .ok vs r' => ∀ J G' H', Ok A G' H' σ r' → Step σ r G H r' G' H' → ItOk A.w J G' vs → R J H'
  | .ex e r' => ExP A W G σ e r'
  | .bad => False
theorem PI.imp {X : Cx} {tg e : Expr} {t t' : TI} (h : PI X tg e t) (hi : ∀ σ H R, t' σ H R → t σ H R) : PI X tg e t' := ⟨fun pins s σ H R I q => h.run pins s σ H R I (hi _ _ _ q)⟩

/-! ### targets -/
abbrev TF := Val → Env → Option Env
/-- the target's slots -/
def tTg (A : Act) (sl : List Nat) (t : TF) : TG := fun x σ H Q => ∃ r G v, Ok A G H σ r ∧ Rep A.w G v x ∧ match t v r with
  | some r' => ∀ σ', Ok A G H σ' r' → (∀ j, j ∉ sl → σ'[j]? = σ[j]?) → σ'.length = σ.length → Q σ' H
  | none => False
def tTgs (A : Act) (sl : List Nat) (t : List Val → Env → Option Env) : TGs := fun xs σ H Q => ∃ r G vs, Ok A G H σ r ∧ Reps A.w G vs xs ∧ match t vs r with
  | some r' => ∀ σ', Ok A G H σ' r' → (∀ j, j ∉ sl → σ'[j]? = σ[j]?) → σ'.length = σ.length → Q σ' H
  | none => False
def tgN (i : Nat) : TF := fun v r => some (r.set i (some (false, v)))
def tgNil : List Val → Env → Option Env := fun vs r => match vs with
  | [] => some r
  | _ => none
def tgCons (t : TF) (u : List Val → Env → Option Env) : List Val → Env → Option Env := fun vs r => match vs with
  | v :: vs => match t v r with
    | some r1 => u vs r1
    | none => none
  | [] => none
def tgT (u : List Val → Env → Option Env) : TF := fun v r => match v with
  | .tup vs => u vs r
  | _ => none
section
variable {X : Cx} {A : Act} {pos : Pos}
theorem PG.imp {e : Expr} {t t' : TG} (h : PG X e t) (hi : ∀ v σ H Q, t' v σ H Q → t v σ H Q) : PG X e t' := ⟨fun pins s σ H v u Q I r q => h.run pins s σ H v u Q I r (hi _ _ _ _ q)⟩
theorem PGs.imp {e : List Expr} {t t' : TGs} (h : PGs X e t) (hi : ∀ v σ H Q, t' v σ H Q → t v σ H Q) : PGs X e t' := ⟨fun pins s σ H v u Q I r q => h.run pins s σ H v u Q I r (hi _ _ _ _ q)⟩
theorem pg_N {i : Nat} {x : Str} (hN : X.N.Nodup) (hi : X.N[i]? = some x) (hx : Loc X.env.scope x) (hio : i ∉ A.io) (hf : X.fn x = true ∨ X.env.scope.names.lookup x = some .local := by first | exact .inl rfl | exact .inr rfl | assumption) : PG X (.Name x pos) (tTg A [i] (tgN i)) :=
  PG.imp (pg_name hN hi hx hf) fun x σ H Q ⟨r, G, v, k, rp, m⟩ => by
    refine m _ (k.store (o := false) rp hio) (fun j hj => ?_) (by simp)
    exact List.getElem?_set_ne (fun z => hj (by simp [z]))
theorem pgs_Nil : PGs X [] (tTgs A [] tgNil) := PGs.imp pgs_nil fun xs σ H Q ⟨r, G, vs, k, rp, m⟩ => by
  cases vs with
  | nil => exact ⟨reps_nil.mp rp, m σ k (fun _ _ => rfl) rfl⟩
  | cons v vs => exact m.elim
theorem pgs_Cons {e : Expr} {es : List Expr} {sl sl' : List Nat} {t : TF} {u : List Val → Env → Option Env} (h1 : PG X e (tTg A sl t)) (h2 : PGs X es (tTgs A sl' u))
    (hs : (assignEach (e :: es) X.env).map (·.2) = assign e X.env :: (assignEach es X.env).map (·.2) := by rfl) : PGs X (e :: es) (tTgs A (sl ++ sl') (tgCons t u)) :=
  PGs.imp (pgs_cons h1 h2 hs) fun xs σ H Q ⟨r, G, vs, k, rp, m⟩ => by
    cases vs with
    | nil => exact m.elim
    | cons v vs =>
      obtain ⟨y, ys, e, r1, r2⟩ := reps_cons.mp rp
      refine ⟨y, ys, e, r, G, v, k, r1, ?_⟩
      simp only [tgCons] at m
      cases ht : t v r with
      | none => simp only [ht] at m
      | some r' =>
        simp only [ht] at m ⊢
        intro σ1 k1 hj1 hl1
        refine ⟨r', G, vs, k1, r2, ?_⟩
        cases hu : u vs r' with
        | none => simp only [hu] at m
        | some r'' =>
          simp only [hu] at m ⊢
          intro σ2 k2 hj2 hl2
          refine m σ2 k2 (fun j hj => ?_) (hl2.trans hl1)
          rw [List.mem_append, not_or] at hj
          rw [hj2 j hj.2, hj1 j hj.1]
theorem pg_T {es : List Expr} {k0 : Nat} {sl : List Nat} {u : List Val → Env → Option Env} {n : Nat} (hc : X.calm = true) (hw : A.w.K = X.K) (h : PGs X es (tTgs A sl u)) (hl : ∀ vs r r', u vs r = some r' → vs.length = n)
    (hn : (assignEach es X.env).length = n := by rfl) (hst : (assignEach es X.env).findIdx? (·.1) = none := by rfl) : PG X (.Tuple es k0 pos) (tTg A sl (tgT u)) :=
  PG.imp (pg_tup hc h hn hst) fun x σ H Q ⟨r, G, v, k, rp, m⟩ => by
    cases v with
    | tup vs =>
      obtain ⟨a, xs, e, q, rs⟩ := rep_tup.mp rp
      cases hu : u vs r with
      | none => simp only [tgT, hu] at m
      | some r' =>
        refine ⟨a, xs, e, ?_, by rw [← reps_length rs]; exact hl vs r r' hu, r, G, vs, k, rs, ?_⟩
        · rw [← hw]; exact sqt_mono k.sub q
        · simp only [tgT, hu] at m ⊢
          exact m
    | _ => exact m.elim
end

/-! ### for -/
def forL (t : TF) (b : SF) : List Val → SF
  | [] => fun r => .nx r
  | v :: vs => fun r => match t v r with
    | some r1 => match b r1 with
      | .nx r2 => forL t b vs r2
      | .ct r2 => forL t b vs r2
      | .bk r2 => .nx r2
      | x => x
    | none => .bad
def forS (fi : IF) (t : TF) (b : SF) : SF := fun r => match fi r with
  | .ok vs r1 => forL t b vs r1
  | .ex e r1 => .ex e r1
  | .bad => .bad
section
variable {X : Cx} {A : Act} {W : WX} {tg it : Expr} {body : List Stmt} {pos : Pos} {fi : IF} {t : TF} {sl : List Nat} {f : SF}
theorem ps_for' (hp : PassesOwn (model X.prog X.w) X.A X.env X.xe) (hc : X.calm = true) (hi : PI X tg it (tIt A W fi)) (hg : PG X tg (tTg A sl t)) (hb : PSs X body (tSt A W f))
    (hs : ∀ x, foldedSetIterable it X.env x = pure x := by intro _; rfl) : PS X (.For tg it body [] pos) (tSt A W (forS fi t f)) := by
  refine PS.imp (ps_for hp hc hi hg hb hs) fun D σ H h => ?_
  obtain ⟨r, G, k, m⟩ := tSt_iff.mp h
  refine ⟨r, G, k, ?_⟩
  unfold forS at m
  cases hf : fi r with
  | bad => rw [hf] at m; exact m.elim
  | ex e r' => rw [hf] at m; exact m σ
  | ok vs r1 =>
    simp only [hf] at m ⊢
    intro J G1 H1 k1 st1 io
    refine ⟨fun i n σ' H' => ∃ r' G', i ≤ vs.length ∧ n = vs.length - i ∧ Le G1 G' ∧ Ok A G' H' σ' r' ∧ Fin A W G1 D (forL t f (vs.drop i) r'), ⟨vs.length, r1, G1, Nat.zero_le _, rfl, Le.refl _, k1, by simpa using m.mono st1.ex⟩, ?_⟩
    rintro i n σ' H' ⟨r', G', hi', hn, le, k', m'⟩
    by_cases hlt : i < vs.length
    · refine .inr ⟨io.go G' H' i le k'.sub hlt, fun σ2 H2 => ∃ r2 G2, Le G1 G2 ∧ Ok A G2 H2 σ2 r2 ∧ Fin A W G1 D (forL t f (vs.drop (i + 1)) r2), fun σ2 H2 ⟨r2, G2, q1, q2, q3⟩ => ⟨vs.length - (i + 1), by omega, r2, G2, hlt, rfl, q1, q2, q3⟩, fun x H2 hy => ?_⟩
      have ev : vs[i]? = some vs[i] := by simp [hlt]
      obtain ⟨G2, gr, rp⟩ := io.yld G' H' i vs[i] x H2 le k'.sub ev hy
      refine ⟨r', G2, vs[i], k'.grow gr, rp, ?_⟩
      rw [List.drop_eq_getElem_cons hlt, forL] at m'
      cases ht : t vs[i] r' with
      | none => simp only [ht] at m'; exact m'.elim
      | some r2 =>
        simp only [ht] at m' ⊢
        intro σ2 k2 _ _
        refine tSt_mk k2 ?_
        have l12 : Le G1 G2 := le.trans gr.g
        cases hb' : f r2 with
        | bad => simp only [hb'] at m'; exact m'.elim
        | ex e r3 => simp only [hb'] at m'; exact m'.mono l12
        | rt o v r3 => simp only [hb'] at m'; exact m'.mono l12
        | bk r3 => simp only [hb'] at m'; exact m'.mono l12
        | nx r3 =>
          simp only [hb'] at m'
          exact fun σ3 G3 H3 k3 l3 => ⟨r3, G3, l12.trans l3, k3, m'⟩
        | ct r3 =>
          simp only [hb'] at m'
          exact fun σ3 G3 H3 k3 l3 => ⟨r3, G3, l12.trans l3, k3, m'⟩
    · have e : i = vs.length := by omega
      subst e
      rw [List.drop_length] at m'
      exact .inl ⟨io.stop G' H' _ le k'.sub (Nat.le_refl _), m' σ' G' H' k' le⟩
end
end M
/-! MP7: list comprehensions. -/
namespace M
open PySem L2

def wipeR (r : Env) : List Nat → Env
  | [] => r
  | v :: vs => (wipeR r vs).set v none
def restR (r0 r : Env) : List Nat → Env
  | [] => r
  | v :: vs => (restR r0 r vs).set v ((r0[v]?).getD none)
def yesB : BF := fun r => .ok true r
def lcL (t : TF) (c : BF) (f : EF) (sl : List Nat) : List Val → List Val → Env → AR
  | [], acc, r => .ok acc r
  | v :: vs, acc, r => match t v r with
    | some r1 => match c r1 with
      | .ok true r2 => match frz f r2 with
        | .ok _ y r3 => if acc.length < 100000 then lcL t c f sl vs (acc ++ [y]) (wipeR r3 sl) else .bad
        | _ => .bad
      | .ok false r2 => lcL t c f sl vs acc (wipeR r2 sl)
      | _ => .bad
    | none => .bad
def lc (fi : IF) (t : TF) (c : BF) (f : EF) (sl : List Nat) : EF := fun r => match fi r with
  | .ok vs r1 => match lcL t c f sl vs [] (wipeR r1 sl) with
    | .ok ys r2 => .ok true (.lst ys) (restR r1 r2 sl)
    | _ => .bad
  | .ex e r1 => .ex e r1
  | .bad => .bad

theorem wipeR_length (r : Env) : ∀ sl : List Nat, (wipeR r sl).length = r.length
  | [] => rfl
  | v :: vs => by simp [wipeR, wipeR_length r vs]
theorem restR_length (r0 r : Env) : ∀ sl : List Nat, (restR r0 r sl).length = r.length
  | [] => rfl
  | v :: vs => by simp [restR, restR_length r0 r vs]
theorem wipeR_out (r : Env) {j : Nat} : ∀ {sl : List Nat}, j ∉ sl → (wipeR r sl)[j]? = r[j]?
  | [], _ => rfl
  | v :: vs, h => by
    simp only [List.mem_cons, not_or] at h
    rw [wipeR, List.getElem?_set_ne (Ne.symm h.1)]; exact wipeR_out r h.2
theorem wipeR_in (r : Env) {j : Nat} {t : Bool × Val} : ∀ {sl : List Nat}, j ∈ sl → (wipeR r sl)[j]? ≠ some (some t)
  | [], h => by simp at h
  | v :: vs, h => by
    rw [wipeR]
    intro e
    rcases set_some e rfl with ⟨e1, e2⟩ | ⟨e1, e2⟩
    · cases e2
    · exact wipeR_in r ((List.mem_cons.mp h).resolve_left e1) e2
theorem wipeR_some {r : Env} {j : Nat} {t : Bool × Val} {sl : List Nat} (h : (wipeR r sl)[j]? = some (some t)) : j ∉ sl ∧ r[j]? = some (some t) := by
  by_cases q : j ∈ sl
  · exact absurd h (wipeR_in r q)
  · rw [wipeR_out r q] at h; exact ⟨q, h⟩
theorem restR_out (r0 r : Env) {j : Nat} : ∀ {sl : List Nat}, j ∉ sl → (restR r0 r sl)[j]? = r[j]?
  | [], _ => rfl
  | v :: vs, h => by
    simp only [List.mem_cons, not_or] at h
    rw [restR, List.getElem?_set_ne (Ne.symm h.1)]; exact restR_out r0 r h.2
theorem restR_in (r0 r : Env) {j : Nat} {t : Bool × Val} : ∀ {sl : List Nat}, j ∈ sl → (restR r0 r sl)[j]? = some (some t) → r0[j]? = some (some t)
  | [], h, _ => by simp at h
  | v :: vs, h, e => by
    rw [restR] at e
    rcases set_some e rfl with ⟨e1, e2⟩ | ⟨e1, e2⟩
    · subst e1
      cases q : r0[j]? with
      | none => rw [q] at e2; cases e2
      | some s => rw [q] at e2; rw [← e2]; rfl
    · exact restR_in r0 r ((List.mem_cons.mp h).resolve_left e1) e2
theorem wipe_in' {σ : L2.St} {j : Nat} {x : V} {sl : List Nat} (h : j ∈ sl) : (wipe σ sl)[j]? ≠ some (some x) := fun e => (wipe_some e).2 h
theorem wipe_eq {σ σ2 : L2.St} {sl sl' : List Nat} (hs : ∀ j ∈ sl', j ∈ sl) (h : ∀ j, j ∉ sl' → σ2[j]? = (wipe σ sl)[j]?) (hl : σ2.length = (wipe σ sl).length) : wipe σ2 sl = wipe σ sl := by
  have at_in : ∀ (τ : L2.St) {j : Nat} {sl : List Nat}, j ∈ sl → j < τ.length → (wipe τ sl)[j]? = some none := by
    intro τ j sl
    induction sl with
    | nil => intro h; simp at h
    | cons v vs ih =>
      intro h hj
      rw [wipe]
      by_cases e : v = j
      · subst e; rw [List.getElem?_set_self]; rw [wipe_length]; exact hj
      · rw [List.getElem?_set_ne e]
        exact ih ((List.mem_cons.mp h).resolve_left fun z => e z.symm) hj
  apply List.ext_getElem?
  intro j
  by_cases q : j ∈ sl
  · by_cases l : j < σ.length
    · rw [at_in σ q l, at_in σ2 q (by rw [hl, wipe_length]; exact l)]
    · rw [List.getElem?_eq_none (by rw [wipe_length, hl, wipe_length]; omega), List.getElem?_eq_none (by rw [wipe_length]; omega)]
  · rw [wipe_out q, h j fun z => q (hs j z)]

/-- a target stores frozen values in its slots alone -/
def TOk (sl : List Nat) (t : TF) : Prop := ∀ v r r', t v r = some r' → (∀ j, j ∉ sl → r'[j]? = r[j]?) ∧ ∀ j ∈ sl, ∀ u, r'[j]? ≠ some (some (true, u))
def TsOk (sl : List Nat) (t : List Val → Env → Option Env) : Prop := ∀ v r r', (∀ j ∈ sl, True) → t v r = some r' → (∀ j, j ∉ sl → r'[j]? = r[j]?) ∧ ∀ j ∈ sl, ∀ u, r'[j]? ≠ some (some (true, u))
theorem tok_N (i : Nat) : TOk [i] (tgN i) := fun v r r' h => by
  cases h
  refine ⟨fun j hj => List.getElem?_set_ne fun z => hj (by simp [z]), fun j hj u e => ?_⟩
  have : j = i := by simpa using hj
  subst this
  rcases set_some e rfl with ⟨_, e2⟩ | ⟨e1, _⟩
  · cases e2
  · exact e1 rfl
theorem tsok_nil : TsOk [] tgNil := fun v r r' _ h => by
  cases v with
  | nil => cases h; exact ⟨fun _ _ => rfl, fun j hj => by simp at hj⟩
  | cons _ _ => cases h
theorem tsok_cons {sl sl' : List Nat} {t : TF} {u : List Val → Env → Option Env} (h1 : TOk sl t) (h2 : TsOk sl' u) : TsOk (sl ++ sl') (tgCons t u) := fun v r r' _ h => by
  cases v with
  | nil => cases h
  | cons v vs =>
    simp only [tgCons] at h
    cases ht : t v r with
    | none => simp only [ht] at h; cases h
    | some r1 =>
      simp only [ht] at h
      obtain ⟨a1, b1⟩ := h1 v r r1 ht
      obtain ⟨a2, b2⟩ := h2 vs r1 r' (fun _ _ => trivial) h
      refine ⟨fun j hj => ?_, fun j hj w e => ?_⟩
      · rw [List.mem_append, not_or] at hj
        rw [a2 j hj.2, a1 j hj.1]
      · by_cases q : j ∈ sl'
        · exact b2 j q w e
        · rw [a2 j q] at e
          exact b1 j ((List.mem_append.mp hj).resolve_right q) w e
theorem tok_T {sl : List Nat} {u : List Val → Env → Option Env} (h : TsOk sl u) : TOk sl (tgT u) := fun v r r' e => by
  cases v with
  | tup vs => exact h vs r r' (fun _ _ => trivial) e
  | _ => cases e

section
variable {A : Act} {W : WX} {G H G' H' G1 H1 : Hp} {σ : L2.St} {r r1 r' : Env} {sl : List Nat}
theorem wipe_out' {j : Nat} (h : j ∉ sl) : (wipe σ sl)[j]? = σ[j]? := wipe_out h
theorem Ok.wipe (k : Ok A G H σ r) (hio : ∀ i ∈ A.io, i ∉ sl) : Ok A G H (wipe σ sl) (wipeR r sl) := by
  refine ⟨k.ex0, k.gr0, k.fr0, k.tk, k.nt, k.sub, by rw [wipe_length, wipeR_length]; exact k.len, fun i v h => ?_, fun i v h => ?_, fun i j v w a h1 h2 h3 h4 => ?_, fun i hi => by rw [wipe_out (hio i hi)]; exact k.fx i hi⟩
  · obtain ⟨n, h⟩ := wipeR_some h
    obtain ⟨x, e, q⟩ := k.fz i v h
    exact ⟨x, by rw [wipe_out n]; exact e, q⟩
  · obtain ⟨n, h⟩ := wipeR_some h
    obtain ⟨x, e, q⟩ := k.ow i v h
    exact ⟨x, by rw [wipe_out n]; exact e, q⟩
  · obtain ⟨n1, h1⟩ := wipeR_some h1
    obtain ⟨n2, h2⟩ := wipeR_some h2
    rw [wipe_out n1] at h3; rw [wipe_out n2] at h4
    exact k.sep i j v w a h1 h2 h3 h4
theorem rt_wipe {a : Addr} (h : Rt (wipeR r sl) (wipe σ sl) a) : Rt r σ a := by
  obtain ⟨i, v, h1, h2⟩ := h
  obtain ⟨n, h1⟩ := wipeR_some h1
  exact ⟨i, v, h1, by rw [wipe_out n] at h2; exact h2⟩
/-- back from a block: the slots of its own names are as they were -/
theorem Ok.unwipe (k : Ok A G H σ r) (k' : Ok A G' H' (L2.wipe σ sl) r') (st : Step (L2.wipe σ sl) (wipeR r sl) G H r' G' H') : Ok A G' H' σ (restR r r' sl) ∧ Step σ r G H (restR r r' sl) G' H' := by
  have out : ∀ {j : Nat} {a : Addr} {w : Val}, j ∉ sl → r'[j]? = some (some (true, w)) → σ[j]? = some (some (.ref a)) → ∃ (i : Nat) (v : Val), i ∉ sl ∧ r[i]? = some (some (true, v)) ∧ σ[i]? = some (some (.ref a)) := fun {j a w} n h1 h2 => by
    obtain ⟨i, v, h3, h4⟩ := st.rts a ⟨j, w, h1, by rw [wipe_out n]; exact h2⟩
    obtain ⟨n3, h3⟩ := wipeR_some h3
    exact ⟨i, v, n3, h3, by rw [wipe_out n3] at h4; exact h4⟩
  have nrt : ∀ {j : Nat} {a : Addr} {v : Val}, j ∈ sl → r[j]? = some (some (true, v)) → σ[j]? = some (some (.ref a)) → ¬ Rt (wipeR r sl) (L2.wipe σ sl) a := fun {j a v} hj h1 h2 ⟨i, w, h3, h4⟩ => by
    obtain ⟨n3, h3⟩ := wipeR_some h3
    rw [wipe_out n3] at h4
    exact n3 (k.sep j i v w a h1 h3 h2 h4 ▸ hj)
  refine ⟨⟨k'.ex0, k'.gr0, k'.fr0, k'.tk, k'.nt, k'.sub, by rw [restR_length, ← k'.len, wipe_length], fun i v h => ?_, fun i v h => ?_, fun i j v w a h1 h2 h3 h4 => ?_, k.fx⟩,
    st.ex, fun a o h n => st.keep a o h fun z => n (rt_wipe z), fun a h h' => (st.grow a h h').imp id rt_wipe, fun a ⟨i, v, h1, h2⟩ => ?_⟩
  · by_cases q : i ∈ sl
    · obtain ⟨x, e, rp⟩ := k.fz i v (restR_in r r' q h)
      exact ⟨x, e, rp.mono st.ex⟩
    · rw [restR_out r r' q] at h
      obtain ⟨x, e, rp⟩ := k'.fz i v h
      exact ⟨x, by rw [wipe_out q] at e; exact e, rp⟩
  · by_cases q : i ∈ sl
    · have h' := restR_in r r' q h
      obtain ⟨a, e, ro, n, l⟩ := k.ow i v h'
      have nr := nrt q h' e
      obtain ⟨u, hu, _⟩ := ro.has
      refine ⟨a, e, ro.monoK st.ex fun o ho => st.keep a o ho nr, ?_, l⟩
      cases z : G' a with
      | none => rfl
      | some o =>
        rcases st.grow a n (by rw [z]; simp) with y | y
        · rw [hu] at y; cases y
        · exact absurd y nr
    · rw [restR_out r r' q] at h
      obtain ⟨a, e, ro, n, l⟩ := k'.ow i v h
      exact ⟨a, by rw [wipe_out q] at e; exact e, ro, n, l⟩
  · by_cases q1 : i ∈ sl
    · have h1' := restR_in r r' q1 h1
      by_cases q2 : j ∈ sl
      · exact k.sep i j v w a h1' (restR_in r r' q2 h2) h3 h4
      · rw [restR_out r r' q2] at h2
        obtain ⟨m, u, n, h5, h6⟩ := out q2 h2 h4
        exact absurd (k.sep i m v u a h1' h5 h3 h6 ▸ q1) n
    · rw [restR_out r r' q1] at h1
      by_cases q2 : j ∈ sl
      · have h2' := restR_in r r' q2 h2
        obtain ⟨m, u, n, h5, h6⟩ := out q1 h1 h3
        exact absurd (k.sep j m w u a h2' h5 h4 h6 ▸ q2) n
      · rw [restR_out r r' q2] at h2
        exact k'.sep i j v w a h1 h2 (by rw [wipe_out q1]; exact h3) (by rw [wipe_out q2]; exact h4)
  · by_cases q : i ∈ sl
    · exact ⟨i, v, restR_in r r' q h1, h2⟩
    · rw [restR_out r r' q] at h1
      obtain ⟨m, u, _, h5, h6⟩ := out q h1 h2
      exact ⟨m, u, h5, h6⟩
/-- a container that no slot owns is changed -/
theorem Ok.tmp {a : Addr} {o : HO} (k : Ok A G H σ r) (n : G a = none) (hc : H a = none ∨ ∃ u, H a = some u ∧ Con u) (nr : ¬ Rt r σ a) (l : A.L a ∨ A.H0 a = none) (ho : ∀ ps, o ≠ .tbl ps := by intro _ z; cases z) : Ok A G (upd H a o) σ r where
  ex0 := k.ex0
  gr0 := k.gr0
  fr0 := fun b u h nl => by
    by_cases e : b = a
    · subst e
      rcases l with l | l
      · exact absurd l nl
      · rw [l] at h; cases h
    · rw [upd_ne e]; exact k.fr0 b u h nl
  tk := tabs_upd k.tk hc ho
  nt := k.nt
  sub := k.sub.updR n
  len := k.len
  fz := k.fz
  ow := fun i v h => by
    obtain ⟨b, e, q, nb, lb⟩ := k.ow i v h
    have ne : b ≠ a := fun z => nr ⟨i, v, h, by rw [e, z]⟩
    exact ⟨b, e, q.mono (Le.refl _) (fun o h => by rw [upd_ne ne]; exact h), nb, lb⟩
  sep := k.sep
  fx := k.fx
end

theorem lc_of {A : Act} {W : WX} {fi : IF} {t : TF} {c : BF} {f : EF} {sl st' : List Nat} {σ : L2.St} {H : Hp} {Q : VK} (tok : TOk st' t) (hs : ∀ j ∈ st', j ∈ sl) (hio : ∀ i ∈ A.io, i ∉ sl) (h : tE A W (lc fi t c f sl) σ H Q) :
    tLc (tIt A W fi) (tTg A st' t) (tBo A (fun _ _ _ _ => False) c) (tE A (fun _ _ _ _ => False) (frz f)) sl σ H Q := by
  obtain ⟨r, G, k, m⟩ := h
  refine ⟨r, G, k, ?_⟩
  unfold lc at m
  cases hf : fi r with
  | bad => rw [hf] at m; exact m.elim
  | ex e r' => rw [hf] at m; exact m
  | ok vs r1 =>
    simp only [hf] at m ⊢
    intro J G1 H1 k1 st1 io D hD
    have gr0 := Grow.laidH (o := .lst []) k1.sub hD
    have kw := (k1.wipe (sl := sl) hio).grow gr0
    let Fl : AR → Prop := fun a => match a with
      | .ok ys r2 => ∀ x G' H', Res A σ r G H (restR r1 r2 sl) G' H' true (.lst ys) x → Q x H'
      | _ => False
    have m0 : Fl (lcL t c f sl vs [] (wipeR r1 sl)) := by
      cases hL : lcL t c f sl vs [] (wipeR r1 sl) with
      | ok ys r2 => rw [hL] at m; exact m
      | ex e r2 => rw [hL] at m; exact m
      | bad => rw [hL] at m; exact m
    refine ⟨fun i n H' => ∃ r' G' acc ds, i ≤ vs.length ∧ n = vs.length - i ∧ Ok A G' H' (wipe σ sl) r' ∧ Step (wipe σ sl) (wipeR r1 sl) G1 H1 r' G' H' ∧ H' D = some (.lst acc) ∧ Reps A.w G' ds acc ∧ G' D = none ∧ ¬ Rt r' (wipe σ sl) D ∧ Fl (lcL t c f sl (vs.drop i) ds r'),
      ⟨vs.length, wipeR r1 sl, G1, [], [], Nat.zero_le _, rfl, kw, gr0.step, upd_same, reps_nil.mpr rfl, k1.sub.back hD, (k1.wipe (sl := sl) hio).notRt hD, by simpa using m0⟩, ?_⟩
    rintro i n H2 ⟨r2, G2, acc, ds, hi, hn, k2, st2, hacc, hreps, hGD, hnr, hFl⟩
    have lD : A.L D ∨ A.H0 D = none := k1.fresh hD
    by_cases hlt : i < vs.length
    · refine .inr ⟨io.go G2 H2 i st2.ex k2.sub hlt, fun H' => ∃ r' G' acc ds, Ok A G' H' (wipe σ sl) r' ∧ Step (wipe σ sl) (wipeR r1 sl) G1 H1 r' G' H' ∧ H' D = some (.lst acc) ∧ Reps A.w G' ds acc ∧ G' D = none ∧ ¬ Rt r' (wipe σ sl) D ∧ Fl (lcL t c f sl (vs.drop (i + 1)) ds r'),
        fun H' ⟨r', G', acc, ds, q⟩ => ⟨vs.length - (i + 1), by omega, r', G', acc, ds, hlt, rfl, q⟩, fun x H3 hy => ?_⟩
      have ev : vs[i]? = some vs[i] := by simp [hlt]
      obtain ⟨G3, gr, rp⟩ := io.yld G2 H2 i vs[i] x H3 st2.ex k2.sub ev hy
      refine ⟨r2, G3, vs[i], k2.grow gr, rp, ?_⟩
      rw [List.drop_eq_getElem_cons hlt, lcL] at hFl
      cases ht : t vs[i] r2 with
      | none => simp only [ht] at hFl; exact hFl.elim
      | some r3 =>
        simp only [ht] at hFl ⊢
        intro σ2 k3 hj hl
        have hw := wipe_eq (σ := σ) (σ2 := σ2) hs hj hl
        obtain ⟨tk1, tk2⟩ := tok _ _ _ ht
        have rt3 : ∀ a, Rt r3 σ2 a → Rt r2 (wipe σ sl) a := fun a ⟨j, w, h1, h2⟩ => by
          by_cases q : j ∈ st'
          · exact absurd h1 (tk2 j q w)
          · exact ⟨j, w, by rw [← tk1 j q]; exact h1, by rw [← hj j q]; exact h2⟩
        have hacc3 : H3 D = some (.lst acc) := gr.h _ _ hacc
        have hGD3 : G3 D = none := by
          cases z : G3 D with
          | none => rfl
          | some o => have := gr.n D hGD (by rw [z]; simp); rw [hacc] at this; cases this
        have st3 := st2.trans gr.step
        -- from the target's state to the block's
        have conv : ∀ {r4 : Env} {G4 H4 : Hp}, Ok A G4 H4 σ2 r4 → Step σ2 r3 G3 H3 r4 G4 H4 → Ok A G4 H4 (wipe σ sl) (wipeR r4 sl) ∧ Step (wipe σ sl) (wipeR r1 sl) G1 H1 (wipeR r4 sl) G4 H4 ∧ H4 D = some (.lst acc) ∧ G4 D = none ∧ ¬ Rt (wipeR r4 sl) (wipe σ sl) D := fun {r4 G4 H4} k4 st4 => by
          have rt4 : ∀ a, Rt (wipeR r4 sl) (wipe σ sl) a → Rt r2 (wipe σ sl) a := fun a h => rt3 a (st4.rts a (by rw [← hw] at h; exact rt_wipe h))
          refine ⟨?_, st3.trans ⟨st4.ex, fun a o h n => st4.keep a o h fun z => n (rt3 a z), fun a h h' => (st4.grow a h h').imp id (rt3 a), rt4⟩, st4.keep D _ hacc3 fun z => hnr (rt3 D z), ?_, fun z => hnr (rt4 D z)⟩
          · have := k4.wipe (sl := sl) hio
            rw [hw] at this; exact this
          · cases z : G4 D with
            | none => rfl
            | some o =>
              rcases st4.grow D hGD3 (by rw [z]; simp) with y | y
              · rw [hacc3] at y; cases y
              · exact absurd (rt3 D y) hnr
        refine ⟨hw, r3, G3, k3, ?_⟩
        cases hc : c r3 with
        | bad => simp only [hc] at hFl; exact hFl.elim
        | ex e r4 => simp only [hc] at hFl; exact hFl.elim
        | ok b r4 =>
          simp only [hc] at hFl ⊢
          intro G4 H4 k4 st4
          cases b with
          | false =>
            simp only [Bool.false_eq_true, if_false]
            obtain ⟨c1, c2, c3, c4, c5⟩ := conv k4 st4
            exact ⟨_, G4, acc, ds, c1, c2, c3, hreps.mono (gr.g.trans st4.ex), c4, c5, hFl⟩
          | true =>
            simp only [if_true] at hFl ⊢
            refine ⟨r4, G4, k4, ?_⟩
            cases he : frz f r4 with
            | bad => simp only [he] at hFl; exact hFl.elim
            | ex e r5 => simp only [he] at hFl; exact hFl.elim
            | ok o y r5 =>
              have eo := frz_false he
              subst eo
              simp only [he] at hFl ⊢
              intro y' G5 H5 R5
              by_cases hz : ds.length < 100000
              case neg => rw [if_neg hz] at hFl; exact hFl.elim
              rw [if_pos hz] at hFl
              obtain ⟨c1, c2, c3, c4, c5⟩ := conv R5.ok (st4.trans R5.st)
              have le5 : Le G2 G5 := (gr.g.trans st4.ex).trans R5.st.ex
              refine ⟨acc, c3, by rw [← reps_length hreps]; exact Nat.lt_of_lt_of_le hz (by decide), _, G5, acc ++ [y'], ds ++ [y], c1.tmp c4 (.inr ⟨_, c3, True.intro⟩) c5 lD, ⟨c2.ex, fun a o h nn => ?_, c2.grow, c2.rts⟩, upd_same, reps_append (hreps.mono le5) (reps_one R5.tr), c4, c5, hFl⟩
              have ne : a ≠ D := fun z => by subst z; rw [hD] at h; cases h
              rw [upd_ne ne]; exact c2.keep a o h nn
    · have e : i = vs.length := by omega
      subst e
      rw [List.drop_length, lcL] at hFl
      obtain ⟨k3, st3⟩ := k1.unwipe k2 st2
      refine .inl ⟨io.stop G2 H2 _ st2.ex k2.sub (Nat.le_refl _), ?_⟩
      refine hFl (.ref D) G2 H2 ⟨k3, st1.trans st3, trep_t (root_lst hacc hreps) hGD ?_ lD, fun _ a e => by cases e; exact st1.fresh hD⟩
      intro z
      rcases k1.rt (st3.rts D z) with ⟨⟨o, ho⟩, _⟩
      rw [hD] at ho; cases ho
end M
/-! MP8: operations on values. -/
namespace M
open PySem L2

/-- what is asked of a context -/
structure Cal (X : Cx) (w : Wd) : Prop where
  K : w.K = X.K
  calm : X.calm = true
  un : X.A.units + 100 < cLine
  gs : X.A.guards = some []
  sy : (X.K.lookup sysModules).isSome = true

section
variable {w : Wd} {G H : Hp} {x y : V} {v : Val}
theorem rrep_non : RRep w G H .non x → x = .non := fun h => h.elim rep_non.mp fun ⟨_, _, r⟩ => r.elim
theorem rrep_bl {b : Bool} : RRep w G H (.bl b) x → x = .bl b := fun h => h.elim rep_bl.mp fun ⟨_, _, r⟩ => r.elim
theorem rrep_int {i : Int} : RRep w G H (.int i) x → x = .int i := fun h => h.elim rep_int.mp fun ⟨_, _, r⟩ => r.elim
theorem rrep_str {s : Str} : RRep w G H (.str s) x → x = .str s ∧ s.length ≤ sizeLine := fun h => h.elim rep_str.mp fun ⟨_, _, r⟩ => r.elim
theorem rrep_ty {n : String} : RRep w G H (.ty n) x → x = .ty n := fun h => h.elim rep_ty.mp fun ⟨_, _, r⟩ => r.elim
theorem rrep_tup {ds : List Val} (le : Le G H) : RRep w G H (.tup ds) x → ∃ a xs, x = .ref a ∧ SqT w.K H a xs ∧ Reps w G ds xs := fun h => h.elim (fun h => by
  obtain ⟨a, xs, e, q, r⟩ := rep_tup.mp h
  exact ⟨a, xs, e, sqt_mono le q, r⟩) fun ⟨_, _, r⟩ => r.elim
theorem rrep_lst {ds : List Val} (le : Le G H) : RRep w G H (.lst ds) x → ∃ a xs, x = .ref a ∧ H a = some (.lst xs) ∧ Reps w G ds xs := fun h => by
  rcases h with h | ⟨a, e, r⟩
  · obtain ⟨a, xs, e, q, r⟩ := rep_lst.mp h
    exact ⟨a, xs, e, le _ _ q, r⟩
  · obtain ⟨xs, q, r⟩ := r
    exact ⟨a, xs, e, q, r⟩
theorem rrep_dct {t : Bool} {ds : List (Val × Val)} (le : Le G H) : RRep w G H (.dct t ds) x → ∃ a, x = .ref a ∧ ((t = false ∧ ∃ kvs, Rd H a (.dK kvs) ∧ RepK w G ds kvs) ∨ (t = true ∧ ∃ kvs, Rd H a (.dT kvs) ∧ RepT w G ds kvs)) := fun h => by
  rcases h with h | ⟨a, e, r⟩
  · rw [Rep] at h
    obtain ⟨a, e, ⟨ht, kvs, o, q, r⟩ | ⟨ht, kvs, o, q, r⟩⟩ := h
    · exact ⟨a, e, .inl ⟨ht, kvs, .inr ⟨o, le _ _ q⟩, r⟩⟩
    · exact ⟨a, e, .inr ⟨ht, kvs, .inr ⟨o, le _ _ q⟩, r⟩⟩
  · obtain ⟨ht, kvs, q, r⟩ | ⟨ht, kvs, q, r⟩ := r
    · exact ⟨a, e, .inl ⟨ht, kvs, .inl q, r⟩⟩
    · exact ⟨a, e, .inr ⟨ht, kvs, .inl q, r⟩⟩
theorem rrep_scr {ns : List Int} (le : Le G H) : RRep w G H (.scr ns) x → ∃ a, x = .ref a ∧ SqL w.K H a (ns.map V.int) := fun h => by
  rcases h with h | ⟨a, e, r⟩
  · rw [Rep] at h; obtain ⟨a, e, q⟩ := h; exact ⟨a, e, sql_mono le q⟩
  · exact r.elim
theorem rreps_nil {xs : List V} : RReps w G H [] xs → xs = [] := id
theorem rreps_one {xs : List V} : RReps w G H [v] xs → ∃ x, xs = [x] ∧ RRep w G H v x := fun ⟨y, ys, e, r, t⟩ => by
  have t' : ys = [] := t
  subst t'; exact ⟨y, e, r⟩
theorem rreps_two {u : Val} {xs : List V} : RReps w G H [v, u] xs → ∃ x y, xs = [x, y] ∧ RRep w G H v x ∧ RRep w G H u y := fun ⟨y, ys, e, r, t⟩ => by
  obtain ⟨z, e2, r2⟩ := rreps_one t
  subst e2; exact ⟨y, z, e, r, r2⟩
theorem rreps_three {u t : Val} {xs : List V} : RReps w G H [v, u, t] xs → ∃ x y z, xs = [x, y, z] ∧ RRep w G H v x ∧ RRep w G H u y ∧ RRep w G H t z := fun ⟨y, ys, e, r, t⟩ => by
  obtain ⟨z, z2, e2, r2, r3⟩ := rreps_two t
  subst e2; exact ⟨y, z, z2, e, r, r2, r3⟩
end
theorem rreps_len {w : Wd} {G H : Hp} : ∀ {vs : List Val} {xs : List V}, RReps w G H vs xs → vs.length = xs.length
  | [], _, h => by have h' : _ = [] := h; subst h'; rfl
  | _ :: _, _, ⟨y, ys, e, _, t⟩ => by subst e; simp [rreps_len t]
end M
/-! MP9: operations on values: numbers, texts, lists, comparisons. -/
namespace M
open PySem L2

def repS (x : Str) (n : Nat) : Str := ⟨(List.replicate n x.cps.toList).flatten.toArray⟩
def Padd : List Val → Option (Bool × Val)
  | [.int i, .int j] => some (false, .int (i + j))
  | [.str s, .str t] => if s.length + t.length ≤ sizeLine then some (false, .str (s ++ t)) else none
  | [.lst xs, .lst ys] => if xs.length + ys.length ≤ 100000 then some (true, .lst (xs ++ ys)) else none
  | _ => none
def Psub : List Val → Option (Bool × Val)
  | [.int i, .int j] => some (false, .int (i - j))
  | _ => none
/-- a bound that neither side of which the kernel counts down -/
def smallI (n : Nat) (j : Int) : Bool := match j with
  | .ofNat a => Nat.ble a n
  | .negSucc a => Nat.ble a n
theorem smallI_iff {n : Nat} {j : Int} : smallI n j = true ↔ -((n : Int) + 1) ≤ j ∧ j ≤ (n : Int) := by
  cases j with
  | ofNat a =>
    have e : Int.ofNat a = (a : Int) := rfl
    simp only [smallI, Nat.ble_eq, e]; constructor <;> intro h <;> omega
  | negSucc a => simp only [smallI, Nat.ble_eq]; constructor <;> intro h <;> omega
def mulOk (i j : Int) : Bool := smallI 18446744073709551614 i || smallI 18446744073709551614 j
theorem mulOk_iff {i j : Int} : mulOk i j = true ↔ (-(2 ^ 64) < i ∧ i < 2 ^ 64 - 1) ∨ (-(2 ^ 64) < j ∧ j < 2 ^ 64 - 1) := by
  unfold mulOk
  rw [Bool.or_eq_true, smallI_iff, smallI_iff]
  constructor
  · rintro (h | h)
    · left; omega
    · right; omega
  · rintro (h | h)
    · left; omega
    · right; omega
def Pmul : List Val → Option (Bool × Val)
  | [.int i, .int j] => if mulOk i j then some (false, .int (i * j)) else none
  | [.str s, .int n] => if 0 ≤ n ∧ n ≤ 100000 ∧ s.length * n.toNat ≤ sizeLine then some (false, .str (repS s n.toNat)) else none
  | [.lst xs, .int n] => if 0 ≤ n ∧ n ≤ 100000 ∧ xs.length * n.toNat ≤ 100000 then some (true, .lst (List.replicate n.toNat xs).flatten) else none
  | _ => none
def Pmod : List Val → Option (Bool × Val)
  | [.int i, .int j] => if 0 < j then some (false, .int (i % j)) else none
  | _ => none
def Pdiv : List Val → Option (Bool × Val)
  | [.int i, .int j] => if 0 < j ∧ smallI 1073741823 j = true then some (false, .int (i / j)) else none
  | _ => none
def Ppow : List Val → Option (Bool × Val)
  | [.int i, .int j] => if 0 ≤ j ∧ j ≤ 1000 ∧ i.natAbs < 2 ^ 64 then some (false, .int (i ^ j.toNat)) else none
  | _ => none

theorem str_len_app (a b : Str) : (a ++ b).length = a.length + b.length := by
  show (a.cps ++ b.cps).size = _
  rw [Array.size_append]; rfl
theorem repS_fold (x : Str) (n : Nat) : (⟨(List.replicate n x.cps).foldl (· ++ ·) #[]⟩ : Str) = repS x n := by
  have : ∀ (n : Nat) (acc : Array Nat), (List.replicate n x.cps).foldl (· ++ ·) acc = acc ++ (List.replicate n x.cps.toList).flatten.toArray := by
    intro n
    induction n with
    | zero => intro acc; simp
    | succ n ih => intro acc; rw [List.replicate_succ, List.foldl_cons, ih, List.replicate_succ, List.flatten_cons]; apply Array.toList_inj.mp; simp
  unfold repS
  rw [this]; simp
theorem repS_length (x : Str) (n : Nat) : (repS x n).length = x.length * n := by
  unfold repS
  show (List.toArray _).size = _
  rw [List.size_toArray]
  induction n with
  | zero => simp
  | succ n ih =>
    rw [List.replicate_succ, List.flatten_cons, List.length_append, ih]
    show x.cps.toList.length + _ = _
    rw [Array.length_toList, Nat.mul_succ, Nat.add_comm]; rfl

section
variable {X : Cx} {w : Wd}
/-- a new list as the answer -/
theorem new_lst {G H : Hp} {p : Addr} {xs : List V} {ds : List Val} {Q : VK} (le : Le G H) (hp : H p = none) (rp : Reps w G ds xs)
    (q : ∀ u G' H', Grow G H G' H' → NRep w G H G' H' true (.lst ds) u → Q u H') : Q (.ref p) (upd H p (.lst xs)) :=
  q _ G _ (Grow.laidH le hp) ⟨_, rfl, root_lst upd_same rp, le.back hp, hp⟩
theorem reps_rep {G : Hp} {ds : List Val} {xs : List V} (q : Reps w G ds xs) : ∀ m : Nat, Reps w G (List.replicate m ds).flatten (List.replicate m xs).flatten
  | 0 => reps_nil.mpr rfl
  | m + 1 => by rw [List.replicate_succ, List.flatten_cons, List.replicate_succ, List.flatten_cons]; exact reps_append q (reps_rep q m)
theorem opr_add (c : Cal X w) : OpR X (binaryOp .Add) (r2Of w Padd) := by
  intro pins s σ H x y v u Q I rx ry ⟨G, vs, o, z, le, rr, hp, q⟩
  unfold Padd at hp
  split at hp
  · obtain ⟨_, _, e, r1, r2⟩ := rreps_two rr
    cases e; cases hp
    obtain rfl := rrep_int r1; obtain rfl := rrep_int r2
    exact op_add pins s σ H _ _ v u Q I rx ry ⟨_, _, rfl, rfl, q _ G H (Grow.refl le) (nrep_f (rep_int.mpr rfl))⟩
  · obtain ⟨_, _, e, r1, r2⟩ := rreps_two rr
    cases e
    split at hp
    · rename_i hz
      cases hp
      obtain ⟨rfl, h1⟩ := rrep_str r1; obtain ⟨rfl, h2⟩ := rrep_str r2
      exact op_add_str pins s σ H _ _ v u Q I rx ry ⟨_, _, rfl, rfl, hz, q _ G H (Grow.refl le) (nrep_f (rep_str.mpr ⟨rfl, by rw [str_len_app]; exact hz⟩))⟩
    · cases hp
  · obtain ⟨_, _, e, r1, r2⟩ := rreps_two rr
    cases e
    split at hp
    · rename_i hz
      cases hp
      obtain ⟨a, xs, rfl, s1, q1⟩ := rrep_lst le r1; obtain ⟨b, ys, rfl, s2, q2⟩ := rrep_lst le r2
      have hz' : xs.length + ys.length ≤ sizeLine := by rw [← reps_length q1, ← reps_length q2]; exact line_of hz
      exact op_cat pins s σ H _ _ v u Q I rx ry ⟨a, b, xs, ys, rfl, rfl, s1, s2, hz', fun p hp => new_lst le hp (reps_append q1 q2) q⟩
    · cases hp
  · cases hp
theorem opr_sub (c : Cal X w) : OpR X (binaryOp .Sub) (r2Of w Psub) := by
  intro pins s σ H x y v u Q I rx ry ⟨G, vs, o, z, le, rr, hp, q⟩
  unfold Psub at hp
  split at hp
  · obtain ⟨_, _, e, r1, r2⟩ := rreps_two rr
    cases e; cases hp
    obtain rfl := rrep_int r1; obtain rfl := rrep_int r2
    exact op_sub pins s σ H _ _ v u Q I rx ry ⟨_, _, rfl, rfl, q _ G H (Grow.refl le) (nrep_f (rep_int.mpr rfl))⟩
  · cases hp
theorem opr_mod (c : Cal X w) : OpR X (binaryOp .Mod) (r2Of w Pmod) := by
  intro pins s σ H x y v u Q I rx ry ⟨G, vs, o, z, le, rr, hp, q⟩
  unfold Pmod at hp
  split at hp
  · obtain ⟨_, _, e, r1, r2⟩ := rreps_two rr
    cases e
    split at hp
    · rename_i hj
      cases hp
      obtain rfl := rrep_int r1; obtain rfl := rrep_int r2
      exact op_mod pins s σ H _ _ v u Q I rx ry ⟨_, _, rfl, rfl, hj, q _ G H (Grow.refl le) (nrep_f (rep_int.mpr rfl))⟩
    · cases hp
  · cases hp
theorem opr_div (c : Cal X w) : OpR X (binaryOp .FloorDiv) (r2Of w Pdiv) := by
  intro pins s σ H x y v u Q I rx ry ⟨G, vs, o, z, le, rr, hp, q⟩
  unfold Pdiv at hp
  split at hp
  · obtain ⟨_, _, e, r1, r2⟩ := rreps_two rr
    cases e
    split at hp
    · rename_i hj
      cases hp
      obtain rfl := rrep_int r1; obtain rfl := rrep_int r2
      exact op_fdiv pins s σ H _ _ v u Q I rx ry ⟨_, _, rfl, rfl, ⟨hj.1, by have := smallI_iff.mp hj.2; omega⟩, q _ G H (Grow.refl le) (nrep_f (rep_int.mpr rfl))⟩
    · cases hp
  · cases hp
theorem opr_pow (c : Cal X w) : OpR X (binaryOp .Pow) (r2Of w Ppow) := by
  intro pins s σ H x y v u Q I rx ry ⟨G, vs, o, z, le, rr, hp, q⟩
  unfold Ppow at hp
  split at hp
  · obtain ⟨_, _, e, r1, r2⟩ := rreps_two rr
    cases e
    split at hp
    · rename_i hj
      cases hp
      obtain rfl := rrep_int r1; obtain rfl := rrep_int r2
      exact op_pow pins s σ H _ _ v u Q I rx ry ⟨_, _, rfl, rfl, ⟨hj.1, Int.le_trans hj.2.1 (by decide), hj.2.2⟩, q _ G H (Grow.refl le) (nrep_f (rep_int.mpr rfl))⟩
    · cases hp
  · cases hp
theorem opr_mul (c : Cal X w) : OpR X (binaryOp .Mult) (r2Of w Pmul) := by
  intro pins s σ H x y v u Q I rx ry ⟨G, vs, o, z, le, rr, hp, q⟩
  unfold Pmul at hp
  split at hp
  · obtain ⟨_, _, e, r1, r2⟩ := rreps_two rr
    cases e
    split at hp
    · rename_i hj
      cases hp
      obtain rfl := rrep_int r1; obtain rfl := rrep_int r2
      exact op_mul pins s σ H _ _ v u Q I rx ry ⟨_, _, rfl, rfl, ((mulOk_iff.mp hj).elim (fun z => .inl ⟨z.1, by omega⟩) fun z => .inr ⟨z.1, by omega⟩), q _ G H (Grow.refl le) (nrep_f (rep_int.mpr rfl))⟩
    · cases hp
  · obtain ⟨_, _, e, r1, r2⟩ := rreps_two rr
    cases e
    split at hp
    · rename_i st n hj
      cases hp
      obtain ⟨rfl, h1⟩ := rrep_str r1; obtain rfl := rrep_int r2
      obtain ⟨t, rfl⟩ := rx; obtain ⟨t', rfl⟩ := ry
      have e1 : ∀ m : Nat, RelV (.str (repS st m)) (.str (repS st m) m) := fun m => ⟨_, rfl⟩
      refine PySem.P.mul_str (by
        have h2 : ¬ n < -(2 ^ 63 : Int) := by omega
        have h3 : ¬ n ≥ 2 ^ 63 := by omega
        rw [decide_eq_false h2, decide_eq_false h3]; rfl) (fun hn _ hb => ?_) (fun hn _ => ?_) ?_
      · have h4 : n ≤ 100000 := hj.2.1
        have h5 : (st.length : Int) ≤ 16777216 := by
          have : sizeLine = 16777216 := PySem.sizeLine_eq
          omega
        have h6 : (2 ^ 63 - 1 : Int) / n ≥ (2 ^ 63 - 1) / 100000 := by
          refine Int.le_ediv_of_mul_le (by omega) ?_
          have : (2 ^ 63 - 1 : Int) / 100000 * n ≤ (2 ^ 63 - 1 : Int) / 100000 * 100000 := Int.mul_le_mul_of_nonneg_left h4 (by decide)
          refine Int.le_trans this ?_
          decide
        have h7 : (16777216 : Int) ≤ (2 ^ 63 - 1) / 100000 := by decide
        omega
      · exact decide_eq_false (by have := hj.2.2; omega)
      · have fin : ∀ (m : Nat) (y : Str), y = repS st n.toNat → Q (.str y) H → EP X pins σ Q (.str y s.toks) { s with toks := s.toks + 1 } := fun m y e h => ⟨.str y, H, I.tok _, ⟨_, rfl⟩, h⟩
        have qq : Q (.str (repS st n.toNat)) H := q _ G H (Grow.refl le) (nrep_f (rep_str.mpr ⟨rfl, by rw [repS_length]; exact hj.2.2⟩))
        have ext : ∀ {a b : Str}, a.cps.toList = b.cps.toList → a = b := fun {a b} h => by cases a; cases b; congr; exact Array.toList_inj.mp h
        by_cases h0 : n < 1
        · rw [if_pos h0]
          have en : n.toNat = 0 := by omega
          have e : Str.empty = repS st n.toNat := by rw [en]; rfl
          refine ⟨by rw [e, repS_length]; exact hj.2.2, ?_⟩
          exact ⟨.str Str.empty, H, I.tok _, ⟨_, rfl⟩, by rw [e]; exact qq⟩
        · rw [if_neg h0]
          split
          · rename_i hc
            have e : st = repS st n.toNat := by
              simp only [Bool.or_eq_true, beq_iff_eq] at hc
              rcases hc with hc | hc
              · subst hc
                refine ext ?_
                show _ = (List.replicate 1 st.cps.toList).flatten
                simp
              · refine ext ?_
                have e0 : st.cps.toList = [] := by
                  have : st.cps.toList.length = 0 := by rw [Array.length_toList]; exact hc
                  exact List.eq_nil_of_length_eq_zero this
                show _ = (List.replicate n.toNat st.cps.toList).flatten
                rw [e0]; simp
            exact ⟨.str st, H, I, ⟨_, rfl⟩, by rw [← e] at qq; exact qq⟩
          · rw [repS_fold]
            exact ⟨by rw [repS_length]; exact hj.2.2, .str _, H, I.tok _, ⟨_, rfl⟩, qq⟩
    · cases hp
  · obtain ⟨_, _, e, r1, r2⟩ := rreps_two rr
    cases e
    split at hp
    · rename_i ds n hj
      cases hp
      obtain ⟨l, xs, rfl, s1, q1⟩ := rrep_lst le r1; obtain rfl := rrep_int r2
      have hz : xs.length * n.toNat ≤ sizeLine := by rw [← reps_length q1]; exact line_of hj.2.2
      exact op_rep pins s σ H _ _ v u Q I rx ry ⟨l, n, xs, rfl, rfl, s1, by omega, by omega, hz, fun p hp => new_lst le hp (reps_rep q1 _) q⟩
    · cases hp
  · cases hp
end
end M
/-! MPA: comparisons, membership, repr, len, isinstance, all, any. -/
namespace M
open PySem L2

/-! ### data -/
mutual
def toD : Val → Option PyData
  | .non => some .none
  | .bl b => some (.bool b)
  | .int i => some (.int i)
  | .str s => some (.str s)
  | .tup ds => (toDs ds).map .tuple
  | .lst ds => (toDs ds).map .list
  | .scr ns => some (.list (ns.map .int))
  | _ => none
def toDs : List Val → Option (List PyData)
  | [] => some []
  | d :: ds => match toD d, toDs ds with
    | some x, some xs => some (x :: xs)
    | _, _ => none
end
theorem dps_ints {K : PySem.W.Frag} {H : Hp} : ∀ ns : List Int, DpAll K H (ns.map V.int) (ns.map PyData.int)
  | [] => .nil
  | n :: ns => .cons (.int n) (dps_ints ns)
section
variable {w : Wd} {K : PySem.W.Frag} {G H : Hp}
mutual
theorem dp_of (hw : w.K = K) (le : Le G H) : ∀ {v : Val} {x : V} {d : PyData}, Rep w G v x → toD v = some d → Dp K H x d
  | .non, _, _, r, e => by rw [toD] at e; cases e; rw [rep_non.mp r]; exact .non
  | .bl b, _, _, r, e => by rw [toD] at e; cases e; rw [rep_bl.mp r]; exact .bl b
  | .int i, _, _, r, e => by rw [toD] at e; cases e; rw [rep_int.mp r]; exact .int i
  | .str s, _, _, r, e => by rw [toD] at e; cases e; rw [(rep_str.mp r).1]; exact .str s
  | .tup ds, _, _, r, e => by
    rw [toD, Option.map_eq_some_iff] at e
    obtain ⟨es, e, rfl⟩ := e
    obtain ⟨a, xs, rfl, q, r⟩ := rep_tup.mp r
    exact .tup (by rw [← hw]; exact sqt_mono le q) (dps_of hw le r e)
  | .lst ds, _, _, r, e => by
    rw [toD, Option.map_eq_some_iff] at e
    obtain ⟨es, e, rfl⟩ := e
    obtain ⟨a, xs, rfl, q, r⟩ := rep_lst.mp r
    exact .lst (.inl (.inl (le _ _ q))) (dps_of hw le r e)
  | .scr ns, _, _, r, e => by
    rw [toD] at e; cases e
    rw [Rep] at r
    obtain ⟨a, rfl, q⟩ := r
    exact .lst (by rw [← hw]; exact sql_mono le q) (dps_ints ns)
  | .dct _ _, _, _, _, e => by simp [toD] at e
  | .obj _ _, _, _, _, e => by simp [toD] at e
  | .ty _, _, _, _, e => by simp [toD] at e
  | .cls _, _, _, _, e => by simp [toD] at e
  | .exc _ _, _, _, _, e => by simp [toD] at e
theorem dps_of (hw : w.K = K) (le : Le G H) : ∀ {ds : List Val} {xs : List V} {es : List PyData}, Reps w G ds xs → toDs ds = some es → DpAll K H xs es
  | [], _, _, r, e => by rw [toDs] at e; cases e; rw [reps_nil.mp r]; exact .nil
  | d :: ds, _, _, r, e => by
    rw [toDs] at e
    obtain ⟨y, ys, rfl, r1, r2⟩ := reps_cons.mp r
    split at e
    · rename_i p ps e1 e2
      cases e
      exact .cons (dp_of hw le r1 e1) (dps_of hw le r2 e2)
    · cases e
end
theorem dp_rrep (hw : w.K = K) (le : Le G H) {v : Val} {x : V} {d : PyData} (r : RRep w G H v x) (e : toD v = some d) : Dp K H x d := by
  rcases r with r | ⟨a, rfl, r⟩
  · exact dp_of hw le r e
  · cases v with
    | lst ds =>
      obtain ⟨xs, q, r⟩ := r
      rw [toD, Option.map_eq_some_iff] at e
      obtain ⟨es, e, rfl⟩ := e
      exact .lst (.inl (.inl q)) (dps_of hw le r e)
    | dct t ds => simp [toD] at e
    | obj c fs => simp [toD] at e
    | _ => exact r.elim
end
abbrev shp (d : PyData) : Bool := SeqAt.shaped d
def Peq : List Val → Option (Bool × Val)
  | [a, b] => match toD a, toD b with
    | some d, some e => if shp d = true ∧ shp e = true then some (false, .bl (PyData.eqv d e)) else none
    | _, _ => none
  | _ => none
def Pne : List Val → Option (Bool × Val)
  | [a, b] => match toD a, toD b with
    | some d, some e => if shp d = true ∧ shp e = true then some (false, .bl (!PyData.eqv d e)) else none
    | _, _ => none
  | _ => none
def cmpI (f : Int → Int → Bool) : List Val → Option (Bool × Val)
  | [.int i, .int j] => some (false, .bl (f i j))
  | _ => none
def Plt := cmpI fun i j => decide (i < j)
def Ple := cmpI fun i j => decide (i ≤ j)
def Pgt := cmpI fun i j => decide (j < i)
def Pge := cmpI fun i j => decide (j ≤ i)
def Pis : List Val → Option (Bool × Val)
  | [.bl a, .bl b] => some (false, .bl (decide (a = b)))
  | [.non, .non] => some (false, .bl true)
  | [_, .non] => some (false, .bl false)
  | _ => none
def PisNot : List Val → Option (Bool × Val)
  | [.bl a, .bl b] => some (false, .bl (!decide (a = b)))
  | [.non, .non] => some (false, .bl false)
  | [_, .non] => some (false, .bl true)
  | _ => none
/-- x in y: a sign in a text, an item of a list, a flat item of a tuple -/
def inOf : Val → Val → Option Bool
  | .str x, .str y => match x.cps.toList with
    | [c] => some (decide (c ∈ y.cps.toList))
    | _ => none
  | d, .lst ds => match toD d, toDs ds with
    | some x, some xs => if shp x = true ∧ shp (.list xs) = true then some (xs.any fun z => PyData.eqv z x) else none
    | _, _ => none
  | _, _ => none
def flatD : PyData → Bool
  | .none => true
  | .bool _ => true
  | .int _ => true
  | .str _ => true
  | _ => false
def inTup : Val → Val → Option Bool
  | d, .tup ds => match toD d, toDs ds with
    | some x, some xs => if flatD x = true ∧ xs.all flatD = true then some (xs.any fun z => PyData.eqv z x) else none
    | _, _ => none
  | _, _ => none
def Pin : List Val → Option (Bool × Val)
  | [x, y] => match inOf x y with
    | some b => some (false, .bl b)
    | none => (inTup x y).map fun b => (false, .bl b)
  | _ => none
def PnotIn : List Val → Option (Bool × Val)
  | [x, y] => match inOf x y with
    | some b => some (false, .bl (!b))
    | none => (inTup x y).map fun b => (false, .bl (!b))
  | _ => none

section
variable {X : Cx} {w : Wd}
theorem bl_new {G H : Hp} {Q : VK} {b : Bool} (le : Le G H) (q : ∀ u G' H', Grow G H G' H' → NRep w G H G' H' false (.bl b) u → Q u H') : Q (.bl b) H := q _ G H (Grow.refl le) (nrep_f (rep_bl.mpr rfl))
theorem int_new {G H : Hp} {Q : VK} {b : Int} (le : Le G H) (q : ∀ u G' H', Grow G H G' H' → NRep w G H G' H' false (.int b) u → Q u H') : Q (.int b) H := q _ G H (Grow.refl le) (nrep_f (rep_int.mpr rfl))
theorem str_new {G H : Hp} {Q : VK} {b : Str} (le : Le G H) (hb : b.length ≤ sizeLine) (q : ∀ u G' H', Grow G H G' H' → NRep w G H G' H' false (.str b) u → Q u H') : Q (.str b) H := q _ G H (Grow.refl le) (nrep_f (rep_str.mpr ⟨rfl, hb⟩))
theorem opr_eq (c : Cal X w) : OpR X (compareOp .Eq) (r2Of w Peq) := by
  intro pins s σ H x y v u Q I rx ry ⟨G, vs, o, z, le, rr, hp, q⟩
  unfold Peq at hp
  split at hp
  · obtain ⟨_, _, e, r1, r2⟩ := rreps_two rr
    cases e
    split at hp
    · rename_i d e h1 h2
      split at hp
      · rename_i hs
        cases hp
        exact op_eqD (by have := c.un; omega) pins s σ H _ _ v u Q I rx ry ⟨d, e, dp_rrep c.K le r1 h1, dp_rrep c.K le r2 h2, hs.1, hs.2, bl_new le q⟩
      · cases hp
    · cases hp
  · cases hp
theorem opr_ne (c : Cal X w) : OpR X (compareOp .NotEq) (r2Of w Pne) := by
  intro pins s σ H x y v u Q I rx ry ⟨G, vs, o, z, le, rr, hp, q⟩
  unfold Pne at hp
  split at hp
  · obtain ⟨_, _, e, r1, r2⟩ := rreps_two rr
    cases e
    split at hp
    · rename_i d e h1 h2
      split at hp
      · rename_i hs
        cases hp
        exact op_neD (by have := c.un; omega) pins s σ H _ _ v u Q I rx ry ⟨d, e, dp_rrep c.K le r1 h1, dp_rrep c.K le r2 h2, hs.1, hs.2, bl_new le q⟩
      · cases hp
    · cases hp
  · cases hp
theorem cmpI_of {op : CmpOp} {f : Int → Int → Bool} (h : OpR X (compareOp op) (rI0 fun i j => .bl (f i j))) : OpR X (compareOp op) (r2Of w (cmpI f)) := by
  intro pins s σ H x y v u Q I rx ry ⟨G, vs, o, z, le, rr, hp, q⟩
  unfold cmpI at hp
  split at hp
  · obtain ⟨_, _, e, r1, r2⟩ := rreps_two rr
    cases e; cases hp
    obtain rfl := rrep_int r1; obtain rfl := rrep_int r2
    exact h pins s σ H _ _ v u Q I rx ry ⟨_, _, rfl, rfl, bl_new le q⟩
  · cases hp
theorem opr_lt : OpR X (compareOp .Lt) (r2Of w Plt) := cmpI_of op_lt
theorem opr_le : OpR X (compareOp .LtE) (r2Of w Ple) := cmpI_of op_le
theorem opr_gt : OpR X (compareOp .Gt) (r2Of w Pgt) := cmpI_of op_gt
theorem opr_ge : OpR X (compareOp .GtE) (r2Of w Pge) := cmpI_of op_ge
theorem rrep_not_non {G H : Hp} {v : Val} {x : V} (h : RRep w G H v x) (hv : v ≠ .non) : x ≠ .non := by
  intro e
  subst e
  rcases h with h | ⟨a, e, _⟩
  · cases v with
    | non => exact hv rfl
    | bl b => cases rep_bl.mp h
    | int i => cases rep_int.mp h
    | str s => cases (rep_str.mp h).1
    | ty n => cases rep_ty.mp h
    | tup ds => obtain ⟨_, _, e, _⟩ := rep_tup.mp h; cases e
    | lst ds => obtain ⟨_, _, e, _⟩ := rep_lst.mp h; cases e
    | dct t ds => rw [Rep] at h; obtain ⟨_, e, _⟩ := h; cases e
    | obj c fs => rw [Rep] at h; obtain ⟨_, _, _, _, e, _⟩ := h; cases e
    | exc c fs => rw [Rep] at h; obtain ⟨_, _, _, e, _⟩ := h; cases e
    | cls c => rw [Rep] at h; obtain ⟨_, _, e⟩ := h; cases e
    | scr ns => rw [Rep] at h; obtain ⟨_, e, _⟩ := h; cases e
  · cases e
theorem opr_is : OpR X (compareOp .Is) (r2Of w Pis) := by
  intro pins s σ H x y v u Q I rx ry ⟨G, vs, o, z, le, rr, hp, q⟩
  unfold Pis at hp
  split at hp
  · obtain ⟨_, _, e, r1, r2⟩ := rreps_two rr
    cases e; cases hp
    obtain rfl := rrep_bl r1; obtain rfl := rrep_bl r2
    exact op_isBl pins s σ H _ _ v u Q I rx ry ⟨_, _, rfl, rfl, bl_new le q⟩
  · obtain ⟨_, _, e, r1, r2⟩ := rreps_two rr
    cases e; cases hp
    obtain rfl := rrep_non r1; obtain rfl := rrep_non r2
    exact op_isN pins s σ H _ _ v u Q I rx ry ⟨rfl, by rw [decide_eq_true rfl]; exact bl_new le q⟩
  · rename_i t ht
    obtain ⟨_, _, e, r1, r2⟩ := rreps_two rr
    cases e; cases hp
    obtain rfl := rrep_non r2
    exact op_isN pins s σ H _ _ v u Q I rx ry ⟨rfl, by rw [decide_eq_false (rrep_not_non r1 ht)]; exact bl_new le q⟩
  · cases hp
theorem opr_isNot : OpR X (compareOp .IsNot) (r2Of w PisNot) := by
  intro pins s σ H x y v u Q I rx ry ⟨G, vs, o, z, le, rr, hp, q⟩
  unfold PisNot at hp
  split at hp
  · obtain ⟨_, _, e, r1, r2⟩ := rreps_two rr
    cases e; cases hp
    obtain rfl := rrep_bl r1; obtain rfl := rrep_bl r2
    exact op_notBl pins s σ H _ _ v u Q I rx ry ⟨_, _, rfl, rfl, bl_new le q⟩
  · obtain ⟨_, _, e, r1, r2⟩ := rreps_two rr
    cases e; cases hp
    obtain rfl := rrep_non r1; obtain rfl := rrep_non r2
    exact op_notN pins s σ H _ _ v u Q I rx ry ⟨rfl, by rw [decide_eq_true rfl]; exact bl_new le q⟩
  · rename_i t ht
    obtain ⟨_, _, e, r1, r2⟩ := rreps_two rr
    cases e; cases hp
    obtain rfl := rrep_non r2
    exact op_notN pins s σ H _ _ v u Q I rx ry ⟨rfl, by rw [decide_eq_false (rrep_not_non r1 ht)]; exact bl_new le q⟩
  · cases hp

/-! ### in, not in -/
theorem flat_V {K : PySem.W.Frag} {H : Hp} {x : V} {d : PyData} (h : Dp K H x d) (f : flatD d = true) : flatV x = true := by
  cases h <;> first | rfl | cases f
theorem eqv_V {K : PySem.W.Frag} {H : Hp} {x y : V} {d e : PyData} (h : Dp K H x d) (g : Dp K H y e) (f : flatD d = true) (f' : flatD e = true) : eqV x y = PyData.eqv d e := by
  cases h <;> cases g <;> first | (cases f; done) | (cases f'; done) | simp only [eqV, PyData.eqv]
theorem in_V {K : PySem.W.Frag} {H : Hp} {x : V} {d : PyData} (h : Dp K H x d) (f : flatD d = true) : ∀ {xs : List V} {ds : List PyData}, DpAll K H xs ds → ds.all flatD = true → xs.all flatV = true ∧ inV x xs = ds.any fun z => PyData.eqv z d
  | _, _, .nil, _ => ⟨rfl, rfl⟩
  | _, _, .cons (v := y) (vs := ys) (d := e) (ds := es) h1 h2, a => by
    rw [List.all_cons, Bool.and_eq_true] at a
    obtain ⟨q1, q2⟩ := in_V h f h2 a.2
    refine ⟨?_, ?_⟩
    · rw [List.all_cons, flat_V h1 a.1, q1]; rfl
    · show (eqV y x || inV x ys) = _
      rw [q2, eqv_V h1 h a.1 f]; rfl
theorem str_one {x : Str} {c : Nat} (h : x.cps.toList = [c]) : x = ⟨#[c]⟩ := by
  cases x with
  | mk a =>
    congr
    exact Array.toList_inj.mp h
theorem in_run (c : Cal X w) {pins : List (Addr × Obj)} {s : Shared} {σ : L2.St} {G H : Hp} {x y : V} {v u : Value} {Q : VK} {a b : Val} {k : Bool} (I : Inv X pins σ H s) (rx : RelV x v) (ry : RelV y u) (le : Le G H) (r1 : RRep w G H a x) (r2 : RRep w G H b y)
    (h : inOf a b = some k ∨ inTup a b = some k) : (Q (.bl k) H → wpAny (model X.prog X.w) X.A (compareOp .In v u) (EP X pins σ Q) X.xe s) ∧ (Q (.bl (!k)) H → wpAny (model X.prog X.w) X.A (compareOp .NotIn v u) (EP X pins σ Q) X.xe s) := by
  rcases h with h | h
  · unfold inOf at h
    split at h
    · split at h
      · rename_i ch hc
        cases h
        obtain ⟨rfl, _⟩ := rrep_str r1; obtain ⟨rfl, _⟩ := rrep_str r2
        rw [str_one hc] at rx
        exact ⟨fun q => op_in_sign pins s σ H _ _ v u Q I rx ry ⟨_, _, rfl, rfl, q⟩, fun q => op_notIn_sign pins s σ H _ _ v u Q I rx ry ⟨_, _, rfl, rfl, q⟩⟩
      · cases h
    · split at h
      · rename_i d' ds' h1 h2
        split at h
        · rename_i hs
          cases h
          have hd := dp_rrep c.K le r1 h1
          have hl := dp_rrep c.K le r2 (d := .list ds') (by rw [toD, h2]; rfl)
          exact ⟨fun q => op_inD (by have := c.un; omega) pins s σ H _ _ v u Q I rx ry ⟨_, _, hd, hl, hs.1, hs.2, q⟩, fun q => op_notInD (by have := c.un; omega) pins s σ H _ _ v u Q I rx ry ⟨_, _, hd, hl, hs.1, hs.2, q⟩⟩
        · cases h
      · cases h
    · cases h
  · unfold inTup at h
    split at h
    · split at h
      · rename_i d' ds' h1 h2
        split at h
        · rename_i hs
          cases h
          have hd := dp_rrep c.K le r1 h1
          obtain ⟨p, xs, rfl, sq, rs⟩ := rrep_tup le r2
          obtain ⟨f2, e2⟩ := in_V hd hs.1 (dps_of c.K le rs h2) hs.2
          have f1 := flat_V hd hs.1
          rw [c.K] at sq
          exact ⟨fun q => op_in_seq pins s σ H _ _ v u Q I rx ry ⟨p, xs, rfl, .inr sq, f1, f2, by simp only [Bool.false_eq_true, if_false]; rw [e2]; exact q⟩,
            fun q => op_notIn_seq pins s σ H _ _ v u Q I rx ry ⟨p, xs, rfl, .inr sq, f1, f2, by simp only [if_true]; rw [e2]; exact q⟩⟩
        · cases h
      · cases h
    · cases h
theorem opr_in (c : Cal X w) : OpR X (compareOp .In) (r2Of w Pin) := by
  intro pins s σ H x y v u Q I rx ry ⟨G, vs, o, z, le, rr, hp, q⟩
  unfold Pin at hp
  split at hp
  · obtain ⟨_, _, e, r1, r2⟩ := rreps_two rr
    cases e
    split at hp
    · rename_i k hk
      cases hp
      exact (in_run c I rx ry le r1 r2 (.inl hk)).1 (bl_new le q)
    · rw [Option.map_eq_some_iff] at hp
      obtain ⟨k, hk, e⟩ := hp
      cases e
      exact (in_run c I rx ry le r1 r2 (.inr hk)).1 (bl_new le q)
  · cases hp
theorem opr_notIn (c : Cal X w) : OpR X (compareOp .NotIn) (r2Of w PnotIn) := by
  intro pins s σ H x y v u Q I rx ry ⟨G, vs, o, z, le, rr, hp, q⟩
  unfold PnotIn at hp
  split at hp
  · obtain ⟨_, _, e, r1, r2⟩ := rreps_two rr
    cases e
    split at hp
    · rename_i k hk
      cases hp
      exact (in_run c I rx ry le r1 r2 (.inl hk)).2 (bl_new le q)
    · rw [Option.map_eq_some_iff] at hp
      obtain ⟨k, hk, e⟩ := hp
      cases e
      exact (in_run c I rx ry le r1 r2 (.inr hk)).2 (bl_new le q)
  · cases hp
end
end M
/-! MPB: built-in functions and types, subscripts, slices, join. -/
namespace M
open PySem L2

/-! ### built-in functions on frozen or owned values -/
def tyOf : Val → Option String
  | .non => some "NoneType"
  | .bl _ => some "bool"
  | .int _ => some "int"
  | .str _ => some "str"
  | .tup _ => some "tuple"
  | .lst _ => some "list"
  | .scr _ => some "list"
  | .dct _ _ => some "dict"
  | _ => none
def Pisi : List Val → Option (Bool × Val)
  | [v, .ty T] => match tyOf v with
    | some a => (kitB a T).map fun b => (false, .bl b)
    | none => none
  | _ => none
def Plen : List Val → Option (Bool × Val)
  | [.str s] => some (false, .int s.length)
  | [.lst ds] => some (false, .int ds.length)
  | [.tup ds] => some (false, .int ds.length)
  | [.scr ns] => some (false, .int ns.length)
  | _ => none
def Pabs : List Val → Option (Bool × Val)
  | [.int i] => some (false, .int (if i < 0 then -i else i))
  | _ => none
def Pint : List Val → Option (Bool × Val)
  | [.int i] => some (false, .int i)
  | [.bl b] => some (false, .int (if b then 1 else 0))
  | _ => none
def Pmax2 : List Val → Option (Bool × Val)
  | [.int i, .int j] => some (false, .int (if j > i then j else i))
  | _ => none
def Pmin2 : List Val → Option (Bool × Val)
  | [.int i, .int j] => some (false, .int (if j < i then j else i))
  | _ => none
def Pstr : List Val → Option (Bool × Val)
  | [.int i] => if i.natAbs.log2 < 1920 ∧ (toString i : Str).length ≤ sizeLine then some (false, .str (toString i)) else none
  | [.str s] => some (false, .str s)
  | _ => none
def Prepr : List Val → Option (Bool × Val)
  | [v] => match toD v with
    | some d => if d.showable = true ∧ d.hasDict = false ∧ d.depth ≤ 60 ∧ d.shown.length ≤ sizeLine then some (false, .str d.shown) else none
    | none => none
  | _ => none
def asBls : List Val → Option (List Bool)
  | [] => some []
  | .bl b :: vs => (asBls vs).map (b :: ·)
  | _ => none
def asStrs : List Val → Option (List Str)
  | [] => some []
  | .str b :: vs => (asStrs vs).map (b :: ·)
  | _ => none
def Pall : List Val → Option (Bool × Val)
  | [.lst ds] => (asBls ds).map fun bs => (false, .bl (bs.all id))
  | _ => none
def Pany : List Val → Option (Bool × Val)
  | [.lst ds] => (asBls ds).map fun bs => (false, .bl (bs.any id))
  | _ => none
def Plist : List Val → Option (Bool × Val)
  | [.lst ds] => some (true, .lst ds)
  | [.tup ds] => some (true, .lst ds)
  | [.scr ns] => some (true, .lst (ns.map .int))
  | _ => none
def Ptuple : List Val → Option (Bool × Val)
  | [.lst ds] => some (false, .tup ds)
  | [.tup ds] => some (false, .tup ds)
  | _ => none
theorem asBls_some : ∀ {vs : List Val} {bs : List Bool}, asBls vs = some bs → vs = bs.map .bl
  | [], _, h => by simp only [asBls, Option.some.injEq] at h; subst h; rfl
  | .bl b :: vs, _, h => by
    simp only [asBls, Option.map_eq_some_iff] at h
    obtain ⟨c, e, rfl⟩ := h
    rw [asBls_some e]; rfl
  | .non :: _, _, h => by cases h
  | .int _ :: _, _, h => by cases h
  | .str _ :: _, _, h => by cases h
  | .tup _ :: _, _, h => by cases h
  | .lst _ :: _, _, h => by cases h
  | .dct _ _ :: _, _, h => by cases h
  | .obj _ _ :: _, _, h => by cases h
  | .ty _ :: _, _, h => by cases h
  | .cls _ :: _, _, h => by cases h
  | .exc _ _ :: _, _, h => by cases h
  | .scr _ :: _, _, h => by cases h
theorem asStrs_some : ∀ {vs : List Val} {bs : List Str}, asStrs vs = some bs → vs = bs.map .str
  | [], _, h => by simp only [asStrs, Option.some.injEq] at h; subst h; rfl
  | .str b :: vs, _, h => by
    simp only [asStrs, Option.map_eq_some_iff] at h
    obtain ⟨c, e, rfl⟩ := h
    rw [asStrs_some e]; rfl
  | .non :: _, _, h => by cases h
  | .int _ :: _, _, h => by cases h
  | .bl _ :: _, _, h => by cases h
  | .tup _ :: _, _, h => by cases h
  | .lst _ :: _, _, h => by cases h
  | .dct _ _ :: _, _, h => by cases h
  | .obj _ _ :: _, _, h => by cases h
  | .ty _ :: _, _, h => by cases h
  | .cls _ :: _, _, h => by cases h
  | .exc _ _ :: _, _, h => by cases h
  | .scr _ :: _, _, h => by cases h

section
variable {X : Cx} {w : Wd}
/-- a list or the script, as it is read -/
theorem rrep_seq (c : Cal X w) {G H : Hp} {v : Val} {x : V} {ds : List Val} (le : Le G H) (r : RRep w G H v x) (h : Plist [v] = some (true, .lst ds)) : ∃ p ys, x = .ref p ∧ (SqL X.K H p ys ∨ SqT X.K H p ys) ∧ Reps w G ds ys := by
  unfold Plist at h
  split at h
  · rename_i e; cases e; cases h
    obtain ⟨a, xs, rfl, q, r⟩ := rrep_lst le r
    exact ⟨a, xs, rfl, .inl (.inl (.inl q)), r⟩
  · rename_i e; cases e; cases h
    obtain ⟨a, xs, rfl, q, r⟩ := rrep_tup le r
    rw [c.K] at q
    exact ⟨a, xs, rfl, .inr q, r⟩
  · rename_i e; cases e; cases h
    obtain ⟨a, rfl, q⟩ := rrep_scr le r
    rw [c.K] at q
    exact ⟨a, _, rfl, .inl q, reps_of_ints⟩
  · cases h
theorem kit_val (c : Cal X w) {pins : List (Addr × Obj)} {s : Shared} {σ : L2.St} {G H : Hp} {v : Val} {x : V} {u : Value} {T : String} (I : Inv X pins σ H s) (rx : RelV x u) (le : Le G H) (r : RRep w G H v x) (h : tyOf v = some T) :
    ∃ P : Heap → Prop, PySem.W.KitX X.K u (.type T) P ∧ P s.heap ∧ u ≠ .builtin "__main__.__loader__#opaque" := by
  cases v with
  | non => cases h; obtain rfl := rrep_non r; exact kit_of I rx (.base .non)
  | bl b => cases h; obtain rfl := rrep_bl r; exact kit_of I rx (.base (.bl b))
  | int i => cases h; obtain rfl := rrep_int r; exact kit_of I rx (.base (.int i))
  | str y => cases h; obtain ⟨rfl, _⟩ := rrep_str r; exact kit_of I rx (.base (.str y))
  | tup ds =>
    cases h
    obtain ⟨a, xs, rfl, q, _⟩ := rrep_tup le r
    rw [c.K] at q
    obtain ⟨its, _, ⟨o, ho, hc, _⟩, _⟩ := I.tuple q
    cases (show u = Value.ref a from rx)
    exact ⟨_, PySem.W.kitx_tuple, ⟨o, ho, hc⟩, fun z => nomatch z⟩
  | lst ds => cases h; obtain ⟨a, xs, rfl, q, _⟩ := rrep_lst le r; exact kit_of I rx (.base (.lst q))
  | scr ns =>
    cases h
    obtain ⟨a, rfl, q⟩ := rrep_scr le r
    rw [c.K] at q
    obtain ⟨its, _, ⟨o, n, ho, hc, _⟩, _⟩ := I.list q
    cases (show u = Value.ref a from rx)
    exact ⟨_, PySem.W.kitx_list, ⟨o, ho, hc⟩, fun z => nomatch z⟩
  | dct t kvs =>
    cases h
    obtain ⟨a, rfl, q⟩ := rrep_dct le r
    cases (show u = Value.ref a from rx)
    have dK : ∀ {kvs : List (Key × V)}, ObjOk X.prog X.w H s.heap a (.dK kvs) → ∃ o, s.heap.get? a = some o ∧ o.cls = .type "dict" := fun {kvs} h => by
      obtain ⟨_, _, vs, _, o, es, ep, h1, h2, _⟩ := h
      exact ⟨o, h1, h2.1⟩
    have dT : ∀ {kvs : List (List Key × V)}, ObjOk X.prog X.w H s.heap a (.dT kvs) → ∃ o, s.heap.get? a = some o ∧ o.cls = .type "dict" := fun {kvs} h => by
      obtain ⟨_, _, xs, _, o, es, ep, h1, h2, _⟩ := h
      exact ⟨o, h1, h2.1⟩
    have : ∃ o, s.heap.get? a = some o ∧ o.cls = .type "dict" := by
      rcases q with ⟨_, kvs, q | ⟨ob, q⟩, _⟩ | ⟨_, kvs, q | ⟨ob, q⟩, _⟩
      · exact dK (I.hok a _ q)
      · exact dK (I.hok a _ q).2
      · exact dT (I.hok a _ q)
      · exact dT (I.hok a _ q).2
    exact ⟨_, PySem.W.kitx_dict, this, fun z => nomatch z⟩
  | _ => cases h
theorem bi_isi (c : Cal X w) : CallR X (.builtin "isinstance") (rOf w Pisi) := by
  intro pins s σ H xs us Q I r ⟨G, vs, o, z, le, rr, hp, q⟩
  unfold Pisi at hp
  split at hp
  · rename_i T
    obtain ⟨x, y, e, r1, r2⟩ := rreps_two rr
    subst e
    split at hp
    · rename_i a ha
      rw [Option.map_eq_some_iff] at hp
      obtain ⟨b, hb, e⟩ := hp
      cases e
      obtain rfl := rrep_ty r2
      obtain ⟨u1, u2, rfl, q1, q2⟩ := vals2 r
      cases (show u2 = Value.type T from q2)
      obtain ⟨P, Z, p, hx⟩ := kit_val c I q1 le r1 ha
      exact PySem.W.kia_one Z I.kIn p (kit_ty hb) hx fun tk => ⟨.bl b, H, I.tok tk, rfl, bl_new le q⟩
    · cases hp
  · cases hp
theorem bi_len (c : Cal X w) : CallR X (.builtin "len") (rOf w Plen) := by
  intro pins s σ H xs us Q I r ⟨G, vs, o, z, le, rr, hp, q⟩
  unfold Plen at hp
  split at hp
  · obtain ⟨x, e, r1⟩ := rreps_one rr
    subst e; cases hp
    obtain ⟨rfl, hz⟩ := rrep_str r1
    exact call_len pins s σ H _ us Q I r ⟨_, _, rfl, ⟨hz, rfl⟩, int_new le q⟩
  · obtain ⟨x, e, r1⟩ := rreps_one rr
    subst e; cases hp
    obtain ⟨a, xs, rfl, h, rs⟩ := rrep_lst le r1
    rw [reps_length rs] at q
    exact call_len pins s σ H _ us Q I r ⟨_, _, rfl, .inl ⟨xs, .inl (.inl h), rfl⟩, int_new le q⟩
  · obtain ⟨x, e, r1⟩ := rreps_one rr
    subst e; cases hp
    obtain ⟨a, xs, rfl, h, rs⟩ := rrep_tup le r1
    rw [c.K] at h
    rw [reps_length rs] at q
    exact call_len pins s σ H _ us Q I r ⟨_, _, rfl, .inr ⟨xs, h, rfl⟩, int_new le q⟩
  · obtain ⟨x, e, r1⟩ := rreps_one rr
    subst e; cases hp
    obtain ⟨a, rfl, h⟩ := rrep_scr le r1
    rw [c.K] at h
    rename_i ns
    have e : ns.length = (ns.map V.int).length := by simp
    rw [e] at q
    exact call_len pins s σ H _ us Q I r ⟨_, _, rfl, .inl ⟨_, h, rfl⟩, int_new le q⟩
  · cases hp
theorem bi_abs : CallR X (.builtin "abs") (rOf w Pabs) := by
  intro pins s σ H xs us Q I r ⟨G, vs, o, z, le, rr, hp, q⟩
  unfold Pabs at hp
  split at hp
  · obtain ⟨x, e, r1⟩ := rreps_one rr
    subst e; cases hp
    obtain rfl := rrep_int r1
    exact call_abs pins s σ H _ us Q I r ⟨_, rfl, int_new le q⟩
  · cases hp
theorem bi_int : CallR X (.type "int") (rOf w Pint) := by
  intro pins s σ H xs us Q I r ⟨G, vs, o, z, le, rr, hp, q⟩
  unfold Pint at hp
  split at hp
  · obtain ⟨x, e, r1⟩ := rreps_one rr
    subst e; cases hp
    obtain rfl := rrep_int r1
    exact call_int1 pins s σ H _ us Q I r (.inl ⟨_, rfl, int_new le q⟩)
  · obtain ⟨x, e, r1⟩ := rreps_one rr
    subst e; cases hp
    obtain rfl := rrep_bl r1
    exact call_int1 pins s σ H _ us Q I r (.inr ⟨_, rfl, int_new le q⟩)
  · cases hp
theorem bi_max2 (c : Cal X w) : CallR X (.builtin "max") (rOf w Pmax2) := by
  intro pins s σ H xs us Q I r ⟨G, vs, o, z, le, rr, hp, q⟩
  unfold Pmax2 at hp
  split at hp
  · obtain ⟨x, y, e, r1, r2⟩ := rreps_two rr
    subst e; cases hp
    obtain rfl := rrep_int r1; obtain rfl := rrep_int r2
    exact call_max2 c.calm pins s σ H _ us Q I r ⟨_, _, rfl, int_new le q⟩
  · cases hp
theorem bi_min2 (c : Cal X w) : CallR X (.builtin "min") (rOf w Pmin2) := by
  intro pins s σ H xs us Q I r ⟨G, vs, o, z, le, rr, hp, q⟩
  unfold Pmin2 at hp
  split at hp
  · obtain ⟨x, y, e, r1, r2⟩ := rreps_two rr
    subst e; cases hp
    obtain rfl := rrep_int r1; obtain rfl := rrep_int r2
    exact call_min2 c.calm pins s σ H _ us Q I r ⟨_, _, rfl, int_new le q⟩
  · cases hp
theorem bi_str : CallR X (.type "str") (rOf w Pstr) := by
  intro pins s σ H xs us Q I r ⟨G, vs, o, z, le, rr, hp, q⟩
  unfold Pstr at hp
  split at hp
  · obtain ⟨x, e, r1⟩ := rreps_one rr
    subst e
    split at hp
    · rename_i hi
      cases hp
      obtain rfl := rrep_int r1
      exact call_str_int pins s σ H _ us Q I r ⟨_, rfl, hi.1, str_new le hi.2 q⟩
    · cases hp
  · obtain ⟨x, e, r1⟩ := rreps_one rr
    subst e; cases hp
    obtain ⟨rfl, hz⟩ := rrep_str r1
    exact SkE.call_str_str pins s σ H _ us Q I r ⟨_, rfl, str_new le hz q⟩
  · cases hp
theorem bi_all (c : Cal X w) : CallR X (.builtin "all") (rOf w Pall) := by
  intro pins s σ H xs us Q I r ⟨G, vs, o, z, le, rr, hp, q⟩
  unfold Pall at hp
  split at hp
  · obtain ⟨x, e, r1⟩ := rreps_one rr
    subst e
    rw [Option.map_eq_some_iff] at hp
    obtain ⟨bs, hb, e⟩ := hp
    cases e
    obtain ⟨a, xs, rfl, h, rs⟩ := rrep_lst le r1
    rw [asBls_some hb] at rs
    rw [reps_bls rs] at h
    exact cr_all c.calm pins s σ H _ us Q I r ⟨a, bs, rfl, .inl (.inl h), bl_new le q⟩
  · cases hp
theorem bi_any (c : Cal X w) : CallR X (.builtin "any") (rOf w Pany) := by
  intro pins s σ H xs us Q I r ⟨G, vs, o, z, le, rr, hp, q⟩
  unfold Pany at hp
  split at hp
  · obtain ⟨x, e, r1⟩ := rreps_one rr
    subst e
    rw [Option.map_eq_some_iff] at hp
    obtain ⟨bs, hb, e⟩ := hp
    cases e
    obtain ⟨a, xs, rfl, h, rs⟩ := rrep_lst le r1
    rw [asBls_some hb] at rs
    rw [reps_bls rs] at h
    exact cr_any c.calm pins s σ H _ us Q I r ⟨a, bs, rfl, .inl (.inl h), bl_new le q⟩
  · cases hp
theorem bi_list (c : Cal X w) : CallR X (.type "list") (rOf w Plist) := by
  intro pins s σ H xs us Q I r ⟨G, vs, o, z, le, rr, hp, q⟩
  have shape : ∃ v ds, vs = [v] ∧ o = true ∧ z = .lst ds := by
    unfold Plist at hp
    split at hp <;> first | (cases hp; exact ⟨_, _, rfl, rfl, rfl⟩) | cases hp
  obtain ⟨v, ds, rfl, rfl, rfl⟩ := shape
  obtain ⟨x, e, r1⟩ := rreps_one rr
  subst e
  obtain ⟨p, ys, rfl, hs, rs⟩ := rrep_seq c le r1 hp
  exact call_list_of pins s σ H _ us Q I r ⟨p, ys, rfl, hs, fun l hl => new_lst le hl rs q⟩
theorem bi_tuple (c : Cal X w) : CallR X (.type "tuple") (rOf w Ptuple) := by
  intro pins s σ H xs us Q I r ⟨G, vs, o, z, le, rr, hp, q⟩
  unfold Ptuple at hp
  split at hp
  · obtain ⟨x, e, r1⟩ := rreps_one rr
    subst e; cases hp
    obtain ⟨a, xs, rfl, h, rs⟩ := rrep_lst le r1
    refine call_tuple_of pins s σ H _ us Q I r ⟨a, xs, rfl, .inl ⟨.inl (.inl h), fun p hp => ?_⟩⟩
    have gr := Grow.laidG (o := .tup xs) le hp
    exact q _ _ _ gr (nrep_f (rep_tup.mpr ⟨p, xs, rfl, SqT.of upd_same, rs.mono gr.g⟩))
  · obtain ⟨x, e, r1⟩ := rreps_one rr
    subst e; cases hp
    have r0 := r1
    obtain ⟨a, xs, rfl, h, rs⟩ := rrep_tup le r1
    rw [c.K] at h
    refine call_tuple_of pins s σ H _ us Q I r ⟨a, xs, rfl, .inr ⟨h, ?_⟩⟩
    refine q _ _ _ (Grow.refl le) (nrep_f ?_)
    rcases r0 with r0 | ⟨_, _, r0⟩
    · exact r0
    · exact r0.elim
  · cases hp
theorem bi_repr (c : Cal X w) : CallR X (.builtin "repr") (rOf w Prepr) := by
  intro pins s σ H xs us Q I r ⟨G, vs, o, z, le, rr, hp, q⟩
  unfold Prepr at hp
  split at hp
  · obtain ⟨x, e, r1⟩ := rreps_one rr
    subst e
    split at hp
    · rename_i d hd
      split at hp
      · rename_i hc
        cases hp
        obtain ⟨h1, h2, h3, h4⟩ := hc
        obtain ⟨u, rfl, ru⟩ := vals1 r
        have dp := dp_rrep c.K le r1 hd
        have fin : ∀ s', Inv X pins σ H s' → ∀ t, EP X pins σ Q (.str d.shown t) s' := fun s' J t => ⟨.str d.shown, H, J, ⟨_, rfl⟩, str_new le h4 q⟩
        cases dp with
        | non => cases ru; exact PySem.P.repr_of_none (by have := fin { s with toks := s.toks + 1 } (I.tok _) s.toks; simpa only [PyData.shown] using this)
        | bl b => cases ru; exact PySem.P.repr_of_bool (by have := fin { s with toks := s.toks + 1 } (I.tok _) s.toks; simpa only [PyData.shown] using this)
        | int i => obtain ⟨t, rfl⟩ := ru; exact PySem.P.repr_of_int (by simpa [PyData.showable] using h1) (by have := fin { s with toks := s.toks + 1 } (I.tok _) s.toks; simpa only [PyData.shown] using this)
        | str y => obtain ⟨t, rfl⟩ := ru; exact PySem.P.repr_of_str (by have := fin { s with toks := s.toks + 1 } (I.tok _) s.toks; simpa only [PyData.shown] using this) (by simpa only [PyData.shown] using h4)
        | @lst a ys ds hs ha =>
          cases ru
          obtain ⟨as, rd⟩ := Dp.reads I _ _ _ (Dp.lst hs ha) (show RelV (.ref a) (.ref a) from rfl)
          refine PySem.repr_of_reads' rd h1 (PyData.noDict_hsm h2) c.gs (by have := c.un; omega) (fun b o e => e) (fun h' u tk hk => fin _ (I.kept (t' := tk) hk) u) h4
        | @tup a ys ds hs ha =>
          cases ru
          obtain ⟨as, rd⟩ := Dp.reads I _ _ _ (Dp.tup hs ha) (show RelV (.ref a) (.ref a) from rfl)
          refine PySem.repr_of_reads' rd h1 (PyData.noDict_hsm h2) c.gs (by have := c.un; omega) (fun b o e => e) (fun h' u tk hk => fin _ (I.kept (t' := tk) hk) u) h4
      · cases hp
    · cases hp
  · cases hp
end
end M
/-! MPD: subscripts, slices, what is walked, dict lookups. -/
namespace M
open PySem L2

/-! ### keys -/
def keyIs : Key → Val → Bool
  | .inl i, .int j => i == j
  | .inr s, .str t => s == t
  | _, _ => false
def keyOf : Val → Option Key
  | .int i => some (.inl i)
  | .str s => some (.inr s)
  | _ => none
def dGet (kvs : List (Val × Val)) (q : Key) : Option Val := (kvs.find? fun p => keyIs q p.1).map (·.2)
def dPut (kvs : List (Val × Val)) (q : Key) (v : Val) : List (Val × Val) := if (kvs.any fun p => keyIs q p.1) = true then kvs.map (fun p => if keyIs q p.1 = true then (p.1, v) else p) else kvs ++ [(kv q, v)]
def dDel (kvs : List (Val × Val)) (q : Key) : List (Val × Val) := kvs.filter fun p => !keyIs q p.1
theorem keyIs_kv (q q' : Key) : keyIs q (kv q') = decide (q' = q) := by
  cases q <;> cases q' <;> simp [keyIs, kv] <;> (rw [Bool.eq_iff_iff]; simp; exact ⟨Eq.symm, Eq.symm⟩)
theorem keyOf_kv {v : Val} {q : Key} (h : keyOf v = some q) : v = kv q := by
  cases v <;> simp [keyOf] at h <;> (subst h; rfl)
section
variable {w : Wd} {G : Hp}
theorem repK_get (q : Key) : ∀ {ds : List (Val × Val)} {kvs : List (Key × V)}, RepK w G ds kvs → (∀ d, dGet ds q = some d → ∃ x, valV kvs q = some x ∧ Rep w G d x) ∧ (dGet ds q = none → valV kvs q = none)
  | [], kvs, r => by
    rw [RepK] at r; subst r
    exact ⟨fun d h => by simp [dGet] at h, fun _ => rfl⟩
  | (k, d) :: ds, kvs, r => by
    rw [RepK] at r
    obtain ⟨q', y, ys, rfl, ⟨rfl, _⟩, r1, r2⟩ := r
    obtain ⟨i1, i2⟩ := repK_get q r2
    by_cases e : q' = q
    · have hk : keyIs q (kv q') = true := by rw [keyIs_kv]; exact decide_eq_true e
      refine ⟨fun d' h => ?_, fun h => ?_⟩
      · simp [dGet, List.find?_cons, hk] at h
        subst h
        exact ⟨y, valV_pos e, r1⟩
      · simp [dGet, List.find?_cons, hk] at h
    · have hk : keyIs q (kv q') = false := by rw [keyIs_kv]; exact decide_eq_false e
      have e2 : dGet ((kv q', d) :: ds) q = dGet ds q := by simp [dGet, List.find?_cons, hk]
      rw [e2, valV_neg e]
      exact ⟨i1, i2⟩
theorem repK_length : ∀ {ds : List (Val × Val)} {kvs : List (Key × V)}, RepK w G ds kvs → ds.length = kvs.length
  | [], _, r => by rw [RepK] at r; subst r; rfl
  | (k, d) :: ds, _, r => by
    rw [RepK] at r
    obtain ⟨q', y, ys, rfl, _, _, r2⟩ := r
    simp [repK_length r2]
theorem repK_any (q : Key) : ∀ {ds : List (Val × Val)} {kvs : List (Key × V)}, RepK w G ds kvs → (ds.any fun p => keyIs q p.1) = kvs.any fun kv => decide (kv.1 = q)
  | [], _, r => by rw [RepK] at r; subst r; rfl
  | (k, d) :: ds, _, r => by
    rw [RepK] at r
    obtain ⟨q', y, ys, rfl, ⟨rfl, _⟩, _, r2⟩ := r
    rw [List.any_cons, List.any_cons, repK_any q r2, keyIs_kv]
theorem repK_map {q : Key} {d : Val} {x : V} (rv : Rep w G d x) : ∀ {ds : List (Val × Val)} {kvs : List (Key × V)}, RepK w G ds kvs → RepK w G (ds.map fun p => if keyIs q p.1 = true then (p.1, d) else p) (kvs.map fun kv => if kv.1 = q then (kv.1, x) else kv)
  | [], _, r => by rw [RepK] at r; subst r; rw [List.map_nil, List.map_nil, RepK]
  | (k, e) :: ds, _, r => by
    rw [RepK] at r
    obtain ⟨q', y, ys, rfl, ⟨rfl, hb⟩, r1, r2⟩ := r
    rw [List.map_cons, List.map_cons]
    by_cases h : q' = q
    · subst h
      have hk : keyIs q' (kv q') = true := by rw [keyIs_kv]; exact decide_eq_true rfl
      simp only [hk, if_true]
      rw [RepK]
      exact ⟨q', x, _, rfl, ⟨rfl, hb⟩, rv, repK_map rv r2⟩
    · have hk : keyIs q (kv q') = false := by rw [keyIs_kv]; exact decide_eq_false h
      simp only [hk, h, Bool.false_eq_true, if_false]
      rw [RepK]
      exact ⟨q', y, _, rfl, ⟨rfl, hb⟩, r1, repK_map rv r2⟩
theorem repK_app : ∀ {ds es : List (Val × Val)} {xs ys : List (Key × V)}, RepK w G ds xs → RepK w G es ys → RepK w G (ds ++ es) (xs ++ ys)
  | [], _, _, _, r, q => by rw [RepK] at r; subst r; simpa using q
  | (k, d) :: ds, _, _, _, r, q => by
    rw [RepK] at r
    obtain ⟨q', y, zs, rfl, hb, r1, r2⟩ := r
    rw [List.cons_append, List.cons_append, RepK]
    exact ⟨q', y, _, rfl, hb, r1, repK_app r2 q⟩
theorem repK_put {q : Key} {d : Val} {x : V} {ds : List (Val × Val)} {kvs : List (Key × V)} (r : RepK w G ds kvs) (hb : kb q) (rv : Rep w G d x) : RepK w G (dPut ds q d) (putK kvs q x) := by
  unfold dPut putK
  rw [repK_any q r]
  split
  · exact repK_map rv r
  · refine repK_app r ?_
    rw [RepK]
    exact ⟨q, x, [], rfl, ⟨rfl, hb⟩, rv, by rw [RepK]⟩
theorem repK_del {q : Key} : ∀ {ds : List (Val × Val)} {kvs : List (Key × V)}, RepK w G ds kvs → RepK w G (dDel ds q) (dropK kvs q)
  | [], _, r => by rw [RepK] at r; subst r; simp [dDel, dropK]; rw [RepK]
  | (k, e) :: ds, _, r => by
    rw [RepK] at r
    obtain ⟨q', y, ys, rfl, ⟨rfl, hb⟩, r1, r2⟩ := r
    have ih := repK_del (q := q) r2
    unfold dDel dropK at ih ⊢
    rw [List.filter_cons, List.filter_cons]
    by_cases h : q' = q
    · subst h
      have hk : keyIs q' (kv q') = true := by rw [keyIs_kv]; exact decide_eq_true rfl
      simp only [hk, Bool.not_true, Bool.false_eq_true, if_false, ne_eq, not_true, decide_false]
      simp only [ne_eq] at ih
      exact ih
    · have hk : keyIs q (kv q') = false := by rw [keyIs_kv]; exact decide_eq_false h
      simp only [hk, h, Bool.not_false, if_true, ne_eq, not_false_eq_true, decide_true]
      simp only [ne_eq] at ih
      rw [RepK]
      exact ⟨q', y, _, rfl, ⟨rfl, hb⟩, r1, ih⟩
theorem rrep_key {H : Hp} {v : Val} {x : V} {q : Key} (r : RRep w G H v x) (h : keyOf v = some q) : x = kV q ∧ kb q := by
  cases v <;> simp [keyOf] at h
  · subst h; exact ⟨rrep_int r, True.intro⟩
  · subst h; exact rrep_str r
end

/-! ### a[i] -/
def Pix : List Val → Option (Bool × Val)
  | [.lst ds, .int i] => (atI ds i).map fun d => (false, d)
  | [.tup ds, .int i] => (atI ds i).map fun d => (false, d)
  | [.str z, .int i] => (atI z.cps.toList i).map fun c => (false, .str ⟨#[c]⟩)
  | [.scr ns, .int i] => (atI ns i).map fun n => (false, .int n)
  | [.dct false kvs, k] => match keyOf k with
    | some q => (dGet kvs q).map fun d => (false, d)
    | none => none
  | _ => none
theorem atI_reps {w : Wd} {G : Hp} {ds : List Val} {xs : List V} {i : Int} {d : Val} (r : Reps w G ds xs) (h : atI ds i = some d) : ∃ x, atI xs i = some x ∧ Rep w G d x := by
  unfold atI at h ⊢
  rw [← reps_length r]
  cases e : ixN ds.length i with
  | none => rw [e] at h; cases h
  | some j => rw [e] at h; exact reps_get r h
theorem atI_map {α β : Type} (f : α → β) (xs : List α) (i : Int) : atI (xs.map f) i = (atI xs i).map f := by
  unfold atI
  rw [List.length_map]
  cases ixN xs.length i with
  | none => rfl
  | some j => simp
theorem ixr_ix {X : Cx} {w : Wd} (c : Cal X w) : IxR X (r2Of w Pix) := by
  intro value slice pins s σ H x y v u Q I rx ry ⟨G, vs, o, z, le, rr, hp, q⟩ hs
  have fz : ∀ {d : Val} {a : V}, Rep w G d a → (∀ u G' H', Grow G H G' H' → NRep w G H G' H' false d u → Q u H') → Q a H := fun r q => q _ G H (Grow.refl le) (nrep_f r)
  unfold Pix at hp
  split at hp
  · obtain ⟨_, _, e, r1, r2⟩ := rreps_two rr
    cases e
    rw [Option.map_eq_some_iff] at hp
    obtain ⟨d, hd, e⟩ := hp
    cases e
    obtain ⟨a, xs, rfl, h, rs⟩ := rrep_lst le r1
    obtain rfl := rrep_int r2
    obtain ⟨b, hb, rb⟩ := atI_reps rs hd
    exact ix_list value slice pins s σ H _ _ v u Q I rx ry ⟨a, xs, _, b, rfl, rfl, .inl (.inl h), hb, fz rb q⟩ hs
  · obtain ⟨_, _, e, r1, r2⟩ := rreps_two rr
    cases e
    rw [Option.map_eq_some_iff] at hp
    obtain ⟨d, hd, e⟩ := hp
    cases e
    obtain ⟨a, xs, rfl, h, rs⟩ := rrep_tup le r1
    obtain rfl := rrep_int r2
    obtain ⟨b, hb, rb⟩ := atI_reps rs hd
    rw [c.K] at h
    exact ix_tup value slice pins s σ H _ _ v u Q I rx ry ⟨a, xs, _, b, rfl, rfl, h, hb, fz rb q⟩ hs
  · obtain ⟨_, _, e, r1, r2⟩ := rreps_two rr
    cases e
    rw [Option.map_eq_some_iff] at hp
    obtain ⟨d, hd, e⟩ := hp
    cases e
    obtain ⟨rfl, hz⟩ := rrep_str r1
    obtain rfl := rrep_int r2
    exact ix_str value slice pins s σ H _ _ v u Q I rx ry ⟨_, _, _, rfl, rfl, hz, hd, fz (rep_str.mpr ⟨rfl, by show 1 ≤ sizeLine; rw [PySem.sizeLine_eq]; decide⟩) q⟩ hs
  · obtain ⟨_, _, e, r1, r2⟩ := rreps_two rr
    cases e
    rw [Option.map_eq_some_iff] at hp
    obtain ⟨d, hd, e⟩ := hp
    cases e
    obtain ⟨a, rfl, h⟩ := rrep_scr le r1
    obtain rfl := rrep_int r2
    rw [c.K] at h
    exact ix_list value slice pins s σ H _ _ v u Q I rx ry ⟨a, _, _, .int d, rfl, rfl, h, by rw [atI_map, hd]; rfl, fz (rep_int.mpr rfl) q⟩ hs
  · obtain ⟨_, _, e, r1, r2⟩ := rreps_two rr
    cases e
    split at hp
    · rename_i k hk
      rw [Option.map_eq_some_iff] at hp
      obtain ⟨d, hd, e⟩ := hp
      cases e
      obtain ⟨rfl, _⟩ := rrep_key r2 hk
      obtain ⟨a, rfl, ⟨_, kvs, h, rk⟩ | ⟨ht, _⟩⟩ := rrep_dct le r1
      · obtain ⟨b, hb, rb⟩ := (repK_get k rk).1 _ hd
        have g : DGet H a (kV k) (some b) := .inl ⟨kvs, k, h, rfl, hb.symm⟩
        cases (show v = Value.ref a from rx)
        exact PyProof.Rows.tail_any (dict_typeIs I g) PySem.F.slot_dict_getitem.lookup (d_getItem (by have := c.un; omega) I g ry fun w' s3 I3 rw' => ⟨b, H, I3, rw', fz rb q⟩) hs
      · cases ht
    · cases hp
  · cases hp

/-! ### a[lo:hi] -/
def cutA {α : Type} (xs : List α) (lo hi : Option Int) : List α := (xs.drop (HT.sIx xs.length 0 lo)).take (HT.sIx xs.length xs.length hi - HT.sIx xs.length 0 lo)
def Psl : Val → Option Int → Option Int → Option (Bool × Val)
  | .str z, lo, hi => some (false, .str (cutS z lo hi))
  | .lst ds, lo, hi => some (true, .lst (cutA ds lo hi))
  | .tup ds, lo, hi => some (false, .tup (cutA ds lo hi))
  | .scr ns, lo, hi => some (true, .lst ((cutA ns lo hi).map .int))
  | _, _, _ => none
inductive PR where
  | ok (i : Option Int) (r : Env) | ex (e : Val) (r : Env) | bad
abbrev PF := Env → PR
def pNo : PF := fun r => .ok none r
def pInt (f : EF) : PF := fun r => match f r with
  | .ok _ v r' => match v with
    | .int i => .ok (some i) r'
    | _ => .bad
  | .ex e r' => .ex e r'
  | .bad => .bad
def tP (A : Act) (W : WX) (f : PF) : TO := fun σ H Q => ∃ r G, Ok A G H σ r ∧ match f r with
  | .ok i r' => ∀ G' H', Ok A G' H' σ r' → Step σ r G H r' G' H' → Q i H'
  | .ex e r' => ExP A W G σ e r'
  | .bad => False
theorem PO.imp {X : Cx} {e : Option Expr} {t t' : TO} (h : PO X e t) (hi : ∀ σ H Q, t' σ H Q → t σ H Q) : PO X e t' := ⟨fun pins s σ H Q I q => h.run pins s σ H Q I (hi _ _ _ q)⟩
def slc (fo : OF) (fl fu : PF) : EF := fun r => match fo r with
  | .ok h r1 => match fl r1 with
    | .ok lo r2 => match fu r2 with
      | .ok hi r3 => match h.get r3 with
        | some v => match Psl v lo hi with
          | some (o, z) => .ok o z r3
          | none => .bad
        | none => .bad
      | .ex e r3 => .ex e r3
      | .bad => .bad
    | .ex e r2 => .ex e r2
    | .bad => .bad
  | .ex e r1 => .ex e r1
  | .bad => .bad
section
variable {X : Cx} {A : Act} {W : WX} {e : Expr} {f : EF} {fo : OF} {fl fu : PF} {lo hi : Option Expr} {p2 pos : Pos}
theorem po_pNo : PO X none (tP A W pNo) := PO.imp po_none fun σ H Q ⟨r, G, k, m⟩ => m G H k Step.refl
theorem po_pInt (h : PE X e (tE A W f)) : PO X (some e) (tP A W (pInt f)) := PO.imp (po_some h) fun σ H Q ⟨r, G, k, m⟩ => ⟨r, G, k, by
  unfold pInt at m
  cases hf : f r with
  | bad => rw [hf] at m; exact m.elim
  | ex e r' => rw [hf] at m; exact m
  | ok o v r' =>
    simp only [hf] at m
    intro x G1 H1 R
    cases v with
    | int i =>
      have ex : x = .int i := by
        have t := R.tr
        cases o with
        | true => obtain ⟨_, _, ro, _⟩ := t; exact ro.elim
        | false => exact rep_int.mp (show Rep A.w G1 (.int i) x from t)
      exact ⟨i, ex, m G1 H1 R.ok R.st⟩
    | _ => exact False.elim m⟩
theorem reps_cut {w : Wd} {G : Hp} {ds : List Val} {xs : List V} (r : Reps w G ds xs) (lo hi : Option Int) : Reps w G (cutA ds lo hi) (cutV xs lo hi) := by
  unfold cutA cutV
  rw [reps_length r]
  exact reps_take _ (reps_drop _ r)
theorem cut_whole {α : Type} (xs : List α) {lo hi : Option Int} (h : HT.sIx xs.length 0 lo = 0 ∧ HT.sIx xs.length xs.length hi = xs.length) : cutA xs lo hi = xs := by
  unfold cutA
  rw [h.1, h.2]
  simp
/-- HandS's reading of a slice, of values -/
def rSl (w : Wd) : V → Option Int → Option Int → Hp → VK → Prop := fun x lo hi H Q => ∃ G v o z, Le G H ∧ RRep w G H v x ∧ Psl v lo hi = some (o, z) ∧ ∀ u G' H', Grow G H G' H' → NRep w G H G' H' o z u → Q u H'
theorem sl_val {w : Wd} (c : Cal X w) : SlR X (rSl w) := by
  intro pins s σ H x v vl vu lo hi sl Q I rx hs pl pu ⟨G, a, o, z, le, r1, hp, q⟩
  unfold Psl at hp
  split at hp
  · cases hp
    obtain ⟨rfl, hz⟩ := rrep_str r1
    exact sl_str pins s σ H _ v vl vu lo hi sl Q I rx hs pl pu ⟨_, rfl, hz, q _ G H (Grow.refl le) (nrep_f (rep_str.mpr ⟨rfl, Nat.le_trans (cutS_length _ _ _) hz⟩))⟩
  · cases hp
    obtain ⟨a, xs, rfl, h, rs⟩ := rrep_lst le r1
    exact sl_list pins s σ H _ v vl vu lo hi sl Q I rx hs pl pu ⟨a, xs, rfl, .inl (.inl h), fun p hp => new_lst le hp (reps_cut rs lo hi) q⟩
  · cases hp
    have r0 := r1
    obtain ⟨a, xs, rfl, h, rs⟩ := rrep_tup le r1
    have hl := reps_length rs
    rw [c.K] at h
    refine sl_tupA pins s σ H _ v vl vu lo hi sl Q I rx hs pl pu ⟨a, xs, rfl, h, fun hw => ?_, fun hw p hp => ?_⟩
    · refine q _ G H (Grow.refl le) (nrep_f ?_)
      rw [← hl] at hw
      rw [cut_whole _ hw]
      rcases r0 with r0 | ⟨_, _, r0⟩
      · exact r0
      · exact r0.elim
    · have gr := Grow.laidG (o := .tup (cutV xs lo hi)) le hp
      exact q _ _ _ gr (nrep_f (rep_tup.mpr ⟨p, _, rfl, SqT.of upd_same, (reps_cut rs lo hi).mono gr.g⟩))
  · cases hp
    obtain ⟨a, rfl, h⟩ := rrep_scr le r1
    rw [c.K] at h
    rename_i ns
    refine sl_list pins s σ H _ v vl vu lo hi sl Q I rx hs pl pu ⟨a, _, rfl, h, fun p hp => new_lst le hp ?_ q⟩
    have e : cutV (ns.map V.int) lo hi = (cutA ns lo hi).map V.int := by
      unfold cutV cutA
      rw [List.length_map, ← List.map_drop, ← List.map_take]
    rw [e]
    exact reps_of_ints
  · cases hp
theorem pe_slc (c : Cal X A.w) (he : PE X e (tO A W fo)) (hl : PO X lo (tP A W fl)) (hu : PO X hi (tP A W fu)) : PE X (.Subscript e (.Slice lo hi none p2) pos) (tE A W (slc fo fl fu)) :=
  PE.imp (pe_slice (sl_val c) he hl hu) fun σ H Q ⟨r, G, k, m⟩ => ⟨r, G, k, by
    unfold slc at m
    cases hf : fo r with
    | bad => rw [hf] at m; exact m.elim
    | ex e r' => rw [hf] at m; exact m
    | ok h r1 =>
      simp only [hf] at m
      intro x G1 H1 k1 st1 t1
      refine ⟨r1, G1, k1, ?_⟩
      cases hg : fl r1 with
      | bad => simp only [hg] at m
      | ex e r2 => simp only [hg] at m ⊢; exact m.mono st1.ex
      | ok l r2 =>
        simp only [hg] at m ⊢
        intro G2 H2 k2 st2
        refine ⟨r2, G2, k2, ?_⟩
        cases hu' : fu r2 with
        | bad => simp only [hu'] at m
        | ex e r3 => simp only [hu'] at m ⊢; exact (m.mono st1.ex).mono st2.ex
        | ok u r3 =>
          simp only [hu'] at m ⊢
          intro G3 H3 k3 st3
          have st := (st1.trans st2).trans st3
          cases hv : h.get r3 with
          | none => simp only [hv] at m
          | some v =>
            simp only [hv] at m
            cases hp : Psl v l u with
            | none => simp only [hp] at m
            | some oz =>
              obtain ⟨o, z⟩ := oz
              simp only [hp] at m
              refine ⟨G3, v, o, z, k3.sub, ((t1.step st2).step st3).get k3 hv, hp, fun u' G4 H4 gr nr => ?_⟩
              refine m u' G4 H4 ⟨k3.grow gr, st.trans gr.step, nr.trep k3, fun eo a ea => ?_⟩
              subst eo
              obtain ⟨b, e1, _, _, n⟩ := nr
              rw [ea] at e1; cases e1
              exact st.fresh n⟩
end

/-! ### what is walked -/
def signs (z : Str) : List Val := z.cps.toList.map fun c => .str ⟨#[c]⟩
def itemsOf : Val → Option (List Val)
  | .lst ds => some ds
  | .tup ds => some ds
  | .scr ns => some (ns.map .int)
  | .str z => some (signs z)
  | .dct false kvs => some (kvs.map (·.1))
  | _ => none
def itV (f : EF) : IF := fun r => match frz f r with
  | .ok _ v r' => match itemsOf v with
    | some vs => .ok vs r'
    | none => .bad
  | .ex e r' => .ex e r'
  | .bad => .bad
def upTo (lo : Int) (n : Nat) : List Val := (List.range n).map fun (k : Nat) => Val.int (lo + (k : Int))
def rng1 : List Val → Option (List Val)
  | [.int j] => if smallI 4000000000000000000 j = true then some (upTo 0 j.toNat) else none
  | _ => none
def rng2 : List Val → Option (List Val)
  | [.int i, .int j] => if smallI 4000000000000000000 i = true ∧ smallI 4000000000000000000 j = true then some (upTo i (j - i).toNat) else none
  | _ => none
def itR (q : List Val → Option (List Val)) (g : AF) : IF := fun r => match g r with
  | .ok vs r' => match q vs with
    | some us => .ok us r'
    | none => .bad
  | .ex e r' => .ex e r'
  | .bad => .bad
section
variable {w : Wd} {K : PySem.W.Frag} {G : Hp}
theorem itok_list {a : Addr} {ds : List Val} {xs : List V} (h : SqL K G a xs) (r : Reps w G ds xs) : ItOk w (Itl K a) G ds where
  go := fun G' H i le le' hi => by
    have : i < xs.length := by rw [← reps_length r]; exact hi
    exact ⟨xs, xs[i], sql_mono (le.trans le') h, by simp [this]⟩
  stop := fun G' H i le le' hi => ⟨xs, sql_mono (le.trans le') h, by rw [← reps_length r]; exact hi⟩
  yld := fun G' H i v x H' le le' hv ⟨e, hx⟩ => by
    subst e
    obtain ⟨y, e1, e2⟩ := reps_get r hv
    have := hx xs (sql_mono (le.trans le') h)
    rw [e1] at this; cases this
    exact ⟨G', Grow.refl le', e2.mono le⟩
theorem itok_tup {a : Addr} {ds : List Val} {xs : List V} (h : SqT K G a xs) (r : Reps w G ds xs) : ItOk w (Itt K a) G ds where
  go := fun G' H i le le' hi => by
    have : i < xs.length := by rw [← reps_length r]; exact hi
    exact ⟨xs, xs[i], sqt_mono (le.trans le') h, by simp [this]⟩
  stop := fun G' H i le le' hi => ⟨xs, sqt_mono (le.trans le') h, by rw [← reps_length r]; exact hi⟩
  yld := fun G' H i v x H' le le' hv ⟨e, hx⟩ => by
    subst e
    obtain ⟨y, e1, e2⟩ := reps_get r hv
    have := hx xs (sqt_mono (le.trans le') h)
    rw [e1] at this; cases this
    exact ⟨G', Grow.refl le', e2.mono le⟩
theorem itok_str (z : Str) : ItOk w (Its z) G (signs z) where
  go := fun G' H i le le' hi => by show i < z.cps.size; simpa [signs] using hi
  stop := fun G' H i le le' hi => by show z.cps.size ≤ i; simpa [signs] using hi
  yld := fun G' H i v x H' le le' hv ⟨e, c, hc, hx⟩ => by
    subst e
    subst hx
    have : z.cps.toList[i]? = some c := by rw [Array.getElem?_toList]; exact hc
    simp only [signs, List.getElem?_map, this, Option.map_some, Option.some.injEq] at hv
    subst hv
    exact ⟨G', Grow.refl le', rep_str.mpr ⟨rfl, by show 1 ≤ sizeLine; rw [PySem.sizeLine_eq]; decide⟩⟩
theorem itok_rng (lo : Int) (n : Nat) : ItOk w (Itr lo n) G (upTo lo n) where
  go := fun G' H i le le' hi => by show i < n; simpa [upTo] using hi
  stop := fun G' H i le le' hi => by show n ≤ i; simpa [upTo] using hi
  yld := fun G' H i v x H' le le' hv ⟨e, hx⟩ => by
    subst e
    subst hx
    have hi : i < n := by
      have := (List.getElem?_eq_some_iff.mp hv).1
      simpa [upTo] using this
    simp only [upTo, List.getElem?_map, List.getElem?_range hi, Option.map_some, Option.some.injEq] at hv
    subst hv
    exact ⟨G', Grow.refl le', rep_int.mpr rfl⟩
theorem repK_at : ∀ {ds : List (Val × Val)} {kvs : List (Key × V)} {i : Nat} {q : Key} {x : V}, RepK w G ds kvs → kvs[i]? = some (q, x) → ∃ d, ds[i]? = some (kv q, d) ∧ kb q ∧ Rep w G d x
  | [], _, _, _, _, r, h => by rw [RepK] at r; subst r; simp at h
  | (k, d) :: ds, _, i, q, x, r, h => by
    rw [RepK] at r
    obtain ⟨q', y, ys, rfl, ⟨rfl, hb⟩, r1, r2⟩ := r
    cases i with
    | zero => simp at h; obtain ⟨rfl, rfl⟩ := h; exact ⟨d, rfl, hb, r1⟩
    | succ i => obtain ⟨d', h1, h2⟩ := repK_at r2 (i := i) (by simpa using h); exact ⟨d', by simpa using h1, h2⟩
theorem rep_kv {q : Key} (hb : kb q) : Rep w G (kv q) (kV q) := by
  cases q with
  | inl i => exact rep_int.mpr rfl
  | inr s => exact rep_str.mpr ⟨rfl, hb⟩
theorem itok_keys {a : Addr} {o : Obj} {ds : List (Val × Val)} {kvs : List (Key × V)} (h : G a = some (.frz o (.dK kvs))) (r : RepK w G ds kvs) : ItOk w (Itk a o kvs) G (ds.map (·.1)) where
  go := fun G' H i le le' hi => ⟨le' _ _ (le _ _ h), by rw [← repK_length r]; simpa using hi⟩
  stop := fun G' H i le le' hi => ⟨le' _ _ (le _ _ h), by rw [← repK_length r]; simpa using hi⟩
  yld := fun G' H i v x H' le le' hv ⟨e, q, y, hk, hx⟩ => by
    subst e
    subst hx
    obtain ⟨d, h1, h2, _⟩ := repK_at r hk
    simp only [List.getElem?_map, h1, Option.map_some, Option.some.injEq] at hv
    subst hv
    exact ⟨G', Grow.refl le', rep_kv h2⟩
end
section
variable {X : Cx} {A : Act} {W : WX} {tg e : Expr} {f : EF} {g : AF}
theorem pi_V (hw : A.w.K = X.K) (he : PE X e (tE A W f)) : PI X tg e (tIt A W (itV f)) := by
  refine ⟨fun pins s σ H R I h => ?_⟩
  obtain ⟨r, G, k, m⟩ := h
  have h2 : tE A W (frz f) σ H fun x H1 => ∃ J, R J H1 ∧ ((∃ a xs, x = .ref a ∧ J = Itl X.K a ∧ SqL X.K H1 a xs) ∨ (∃ a xs, x = .ref a ∧ J = Itt X.K a ∧ SqT X.K H1 a xs) ∨ (∃ z, x = .str z ∧ J = Its z) ∨ ∃ a o kvs, x = .ref a ∧ J = Itk a o kvs ∧ H1 a = some (.frz o (.dK kvs))) := by
    refine ⟨r, G, k, ?_⟩
    unfold itV at m
    cases hf : frz f r with
    | bad => simp only [hf] at m
    | ex e r' => simp only [hf] at m ⊢; exact m
    | ok o v r' =>
      have eo := frz_false hf
      subst eo
      simp only [hf] at m ⊢
      intro x G1 H1 R1
      cases hi : itemsOf v with
      | none => simp only [hi] at m
      | some vs =>
        simp only [hi] at m
        have fin : ∀ J, ItOk A.w J G1 vs → R J H1 := fun J io => m J G1 H1 R1.ok R1.st io
        have rp : Rep A.w G1 v x := R1.tr
        have le := R1.ok.sub
        unfold itemsOf at hi
        split at hi
        · cases hi
          obtain ⟨a, xs, rfl, h, rs⟩ := rep_lst.mp rp
          exact ⟨_, fin _ (itok_list (K := X.K) (.inl (.inl h)) rs), .inl ⟨a, xs, rfl, rfl, .inl (.inl (le _ _ h))⟩⟩
        · cases hi
          obtain ⟨a, xs, rfl, h, rs⟩ := rep_tup.mp rp
          rw [hw] at h
          exact ⟨_, fin _ (itok_tup h rs), .inr (.inl ⟨a, xs, rfl, rfl, sqt_mono le h⟩)⟩
        · cases hi
          rw [Rep] at rp
          obtain ⟨a, rfl, h⟩ := rp
          rw [hw] at h
          exact ⟨_, fin _ (itok_list h reps_of_ints), .inl ⟨a, _, rfl, rfl, sql_mono le h⟩⟩
        · cases hi
          obtain ⟨rfl, _⟩ := rep_str.mp rp
          exact ⟨_, fin _ (itok_str _), .inr (.inr (.inl ⟨_, rfl, rfl⟩))⟩
        · cases hi
          rw [Rep] at rp
          obtain ⟨a, rfl, ⟨_, kvs, o, h, rk⟩ | ⟨ht, _⟩⟩ := rp
          · exact ⟨_, fin _ (itok_keys h rk), .inr (.inr (.inr ⟨a, o, kvs, rfl, rfl, le _ _ h⟩))⟩
          · cases ht
        · cases hi
  refine wpAny_mono ((pe_frz he).run pins s σ H _ I h2) (fun v s1 ⟨x, H1, I1, rx, J, hR, hx⟩ => ?_) fun _ _ z => z
  rcases hx with ⟨a, xs, rfl, rfl, h⟩ | ⟨a, xs, rfl, rfl, h⟩ | ⟨z, rfl, rfl⟩ | ⟨a, o, kvs, rfl, rfl, h⟩
  · cases (show v = Value.ref a from rx)
    obtain ⟨its, _, pl, _⟩ := I1.list h
    exact wpAny_pyIter_list pl.isList (pi_one (tk := s1.toks) I1 _ (turn_list a _) ⟨_, Heap.get?_push_size _ rfl, rfl, rfl⟩ hR)
  · cases (show v = Value.ref a from rx)
    obtain ⟨its, _, pl, _⟩ := I1.tuple h
    exact wpAny_pyIter_tuple (show s1.heap.IsTuple a its.toArray from pl) (pi_one (tk := s1.toks) I1 _ (turn_tuple a _) ⟨_, Heap.get?_push_size _ rfl, rfl, rfl⟩ hR)
  · obtain ⟨t, rfl⟩ := rx
    cases ha : z.cps.all (· < 128) with
    | false => exact wpAny_pyIter_wide ha (pi_one (tk := s1.toks) I1 _ (turn_str _ z t "str_iterator" (.inr rfl)) ⟨_, Heap.get?_push_size _ rfl, rfl, rfl⟩ hR)
    | true => exact wpAny_pyIter_ascii ha (pi_one (tk := s1.toks) I1 _ (turn_str _ z t "str_ascii_iterator" (.inl rfl)) ⟨_, Heap.get?_push_size _ rfl, rfl, rfl⟩ hR)
  · cases (show v = Value.ref a from rx)
    obtain ⟨hs, hgd, hx, es, ep, vs, hdt, hsz, _, _⟩ := I1.frzK h
    refine iter_keys hs hgd hx hdt (pi_one (tk := s1.toks) I1 _ (turn_keys _ hdt) ⟨_, Heap.get?_push_size _ rfl, rfl, ?_⟩ hR)
    rw [hsz] <;> rfl
theorem pi_rng1 {a : Expr} {p pos : Pos} (hg : Gl X "range") (hm : X.mg "range" = none) (ha : PA X [a] (tAs A W g)) (hs : starEach [a] X.env = [(false, eval a X.env)] := by rfl) : PI X tg (.Call (.Name "range" p) [a] [] pos) (tIt A W (itR rng1 g)) :=
  PI.imp (pi_range1 hg hm ha hs) fun σ H R ⟨r, G, k, m⟩ => ⟨r, G, k, by
    unfold itR at m
    cases hf : g r with
    | bad => simp only [hf] at m
    | ex e r' => simp only [hf] at m ⊢; exact m
    | ok vs r' =>
      simp only [hf] at m ⊢
      intro xs G1 H1 k1 st1 rs
      cases hq : rng1 vs with
      | none => simp only [hq] at m
      | some us =>
        simp only [hq] at m
        unfold rng1 at hq
        split at hq
        · split at hq
          · rename_i hb
            cases hq
            have hb2 := smallI_iff.mp hb
            exact ⟨_, reps_ints (ns := [_]) rs, by omega, by omega, m _ G1 H1 k1 st1 (itok_rng 0 _)⟩
          · cases hq
        · cases hq⟩
theorem pi_rng2 {a b : Expr} {p pos : Pos} (hg : Gl X "range") (hm : X.mg "range" = none) (ha : PA X [a, b] (tAs A W g)) (hs : starEach [a, b] X.env = [(false, eval a X.env), (false, eval b X.env)] := by rfl) (hs2 : starEach [b] X.env = [(false, eval b X.env)] := by rfl) :
    PI X tg (.Call (.Name "range" p) [a, b] [] pos) (tIt A W (itR rng2 g)) :=
  PI.imp (pi_range2 hg hm ha hs hs2) fun σ H R ⟨r, G, k, m⟩ => ⟨r, G, k, by
    unfold itR at m
    cases hf : g r with
    | bad => simp only [hf] at m
    | ex e r' => simp only [hf] at m ⊢; exact m
    | ok vs r' =>
      simp only [hf] at m ⊢
      intro xs G1 H1 k1 st1 rs
      cases hq : rng2 vs with
      | none => simp only [hq] at m
      | some us =>
        simp only [hq] at m
        unfold rng2 at hq
        split at hq
        · split at hq
          · rename_i hb
            cases hq
            have hb2 := smallI_iff.mp hb.1
            have hb3 := smallI_iff.mp hb.2
            exact ⟨_, _, reps_ints (ns := [_, _]) rs, ⟨by omega, by omega, by omega, by omega⟩, m _ G1 H1 k1 st1 (itok_rng _ _)⟩
          · cases hq
        · cases hq⟩
end
end M
/-! MPE: rules of expressions in short, methods, containers changed in place, displays of dicts. -/
namespace M
open PySem L2

abbrev bin (P : List Val → Option (Bool × Val)) (fa fb : OF) : EF := prim P (osCons fa (osCons fb osNil))
section
variable {X : Cx} {A : Act} {W : WX} {x y e : Expr} {es : List Expr} {fa fb fc : OF} {g : OsF} {P P' : List Val → Option (Bool × Val)} {pos p : Pos}
theorem pe_bin {op : Operator} (ho : OpR X (binaryOp op) (r2Of A.w P)) (ha : PE X x (tO A W fa)) (hb : PE X y (tO A W fb)) : PE X (.BinOp x op y pos) (tE A W (bin P fa fb)) := PE.imp (pe_op ho ha hb) fun _ _ _ q => prim_os2 q
theorem pe_cmpV {op : CmpOp} (ho : OpR X (compareOp op) (r2Of A.w P)) (ha : PE X x (tO A W fa)) (hb : PE X y (tO A W fb)) (hm : behindInMarks op y = false := by first | exact nobehind _ (by decide) (by decide) | rfl) : PE X (.Compare x [op] [y] pos) (tE A W (bin P fa fb)) := PE.imp (pe_cmpR ho ha hb hm) fun _ _ _ q => prim_os2 q
theorem pt_cmpV {op : CmpOp} (ho : OpR X (compareOp op) (r2Of A.w P)) (ha : PE X x (tO A W fa)) (hb : PE X y (tO A W fb)) (hm : behindInMarks op y = false := by first | exact nobehind _ (by decide) (by decide) | rfl) : PT X (.Compare x [op] [y] pos) (tBo A W (tst (bin P fa fb))) := pt_cmp' ho ha hb hm
theorem pe_idx (c : Cal X A.w) (ha : PE X x (tO A W fa)) (hb : PE X y (tO A W fb)) (hs : PlainIx y := by intro _ _; rfl) : PE X (.Subscript x y pos) (tE A W (bin Pix fa fb)) := PE.imp (pe_ix (ixr_ix c) ha hb hs) fun _ _ _ q => prim_os2 q
/-- f(e, ..), f a built-in function -/
theorem pe_bi {x : Str} {id : String} (hc : CallR X (.builtin id) (rOf A.w P)) (hg : Gl X x) (hm : X.mg x = none) (hv : bootBuiltins x = some (.builtin id)) (ha : PA X (e :: es) (tOs A W g)) (hn : x ≠ "__name__" := by decide) (hdb : (x == ("__debug__" : Str)) = false := by decide)
    (he : NoStar X e es := by rfl) (hpl : NoStars X es pos := by rfl) : PE X (.Call (.Name x p) (e :: es) [] pos) (tE A W (prim P g)) :=
  PE.imp (pe_callB hc hg hm hv ha hn hdb he hpl) fun _ _ _ q => prim_os (rok_rOf _ _) q
theorem pe_bt {x : Str} {T : String} (hc : CallR X (.type T) (rOf A.w P)) (hg : Gl X x) (hm : X.mg x = none) (hv : bootBuiltins x = some (.type T)) (ha : PA X (e :: es) (tOs A W g)) (hn : x ≠ "__name__" := by decide) (hdb : (x == ("__debug__" : Str)) = false := by decide)
    (he : NoStar X e es := by rfl) (hpl : NoStars X es pos := by rfl) : PE X (.Call (.Name x p) (e :: es) [] pos) (tE A W (prim P g)) :=
  PE.imp (pe_callTy hc hg hm hv ha hn hdb he hpl) fun _ _ _ q => prim_os (rok_rOf _ _) q

/-! ### a op b op c -/
def chn (P P' : List Val → Option (Bool × Val)) (fa fb fc : OF) : EF := fun r => match fa r with
  | .ok h1 r1 => match fb r1 with
    | .ok h2 r2 => match getAll r2 [h1, h2] with
      | some vs => match P vs with
        | some (false, .bl true) => match fc r2 with
          | .ok h3 r3 => match getAll r3 [h2, h3] with
            | some us => match P' us with
              | some (false, .bl b) => .ok false (.bl b) r3
              | _ => .bad
            | none => .bad
          | .ex e r3 => .ex e r3
          | .bad => .bad
        | some (false, .bl false) => .ok false (.bl false) r2
        | _ => .bad
      | none => .bad
    | .ex e r2 => .ex e r2
    | .bad => .bad
  | .ex e r1 => .ex e r1
  | .bad => .bad
theorem chn_of {σ : L2.St} {H : Hp} {Q : VK} (h : tE A W (chn P P' fa fb fc) σ H Q) : tChain (r2Of A.w P) (r2Of A.w P') (tO A W fa) (tO A W fb) (tO A W fc) σ H Q := by
  obtain ⟨r, G, k, m⟩ := h
  refine ⟨r, G, k, ?_⟩
  unfold chn at m
  cases hf : fa r with
  | bad => rw [hf] at m; exact m.elim
  | ex e r' => rw [hf] at m; exact m
  | ok h1 r1 =>
    simp only [hf] at m
    intro x G1 H1 k1 st1 t1
    refine ⟨r1, G1, k1, ?_⟩
    cases hg : fb r1 with
    | bad => simp only [hg] at m
    | ex e r2 => simp only [hg] at m ⊢; exact m.mono st1.ex
    | ok h2 r2 =>
      simp only [hg] at m ⊢
      intro y G2 H2 k2 st2 t2
      cases hv : getAll r2 [h1, h2] with
      | none => simp only [hv] at m
      | some vs =>
        simp only [hv] at m
        have rr : RReps A.w G2 H2 vs [x, y] := HReps.get k2 (show HReps A G2 H2 σ r2 [h1, h2] [x, y] from ⟨x, [y], rfl, t1.step st2, y, [], rfl, t2, rfl⟩) hv
        cases hp : P vs with
        | none => simp only [hp] at m
        | some oz =>
          obtain ⟨o, d⟩ := oz
          cases o with
          | true => simp only [hp] at m
          | false =>
            cases d with
            | bl b =>
              cases b with
              | true =>
                simp only [hp] at m
                refine ⟨G2, vs, false, .bl true, k2.sub, rr, hp, fun u G3 H3 gr nr => ?_⟩
                refine ⟨true, rep_bl.mp (show Rep A.w G3 (.bl true) u from nr), ?_⟩
                simp only [if_true]
                refine ⟨r2, G3, k2.grow gr, ?_⟩
                have st3 : Step σ r G H r2 G3 H3 := (st1.trans st2).trans gr.step
                cases hc : fc r2 with
                | bad => simp only [hc] at m
                | ex e r3 => simp only [hc] at m ⊢; exact m.mono st3.ex
                | ok h3 r3 =>
                  simp only [hc] at m ⊢
                  intro z G4 H4 k4 st4 t4
                  cases hu : getAll r3 [h2, h3] with
                  | none => simp only [hu] at m
                  | some us =>
                    simp only [hu] at m
                    have rr2 : RReps A.w G4 H4 us [y, z] := HReps.get k4 (show HReps A G4 H4 σ r3 [h2, h3] [y, z] from ⟨y, [z], rfl, (t2.step gr.step).step st4, z, [], rfl, t4, rfl⟩) hu
                    cases hp' : P' us with
                    | none => simp only [hp'] at m
                    | some oz' =>
                      obtain ⟨o', d'⟩ := oz'
                      cases o' with
                      | true => simp only [hp'] at m
                      | false =>
                        cases d' with
                        | bl b =>
                          simp only [hp'] at m
                          exact ⟨G4, us, false, .bl b, k4.sub, rr2, hp', fun u' G5 H5 gr' nr' => m u' G5 H5 ⟨k4.grow gr', (st3.trans st4).trans gr'.step, nr', no_own⟩⟩
                        | _ => simp only [hp'] at m
              | false =>
                simp only [hp] at m
                refine ⟨G2, vs, false, .bl false, k2.sub, rr, hp, fun u G3 H3 gr nr => ?_⟩
                refine ⟨false, rep_bl.mp (show Rep A.w G3 (.bl false) u from nr), ?_⟩
                simp only [Bool.false_eq_true, if_false]
                exact m (.bl false) G3 H3 ⟨k2.grow gr, (st1.trans st2).trans gr.step, trep_f (rep_bl.mpr rfl), no_own⟩
            | _ => simp only [hp] at m
theorem pe_chn {z : Expr} {op op' : CmpOp} (ho : OpR X (compareOp op) (r2Of A.w P)) (ho' : OpR X (compareOp op') (r2Of A.w P')) (ha : PE X x (tO A W fa)) (hb : PE X y (tO A W fb)) (hc : PE X z (tO A W fc)) (hm : lastMarks [op, op'] [y, z] = false := by with_unfolding_all rfl) :
    PE X (.Compare x [op, op'] [y, z] pos) (tE A W (chn P P' fa fb fc)) := PE.imp (pe_chain ho ho' ha hb hc hm) fun _ _ _ q => chn_of q
theorem pt_chn {z : Expr} {op op' : CmpOp} (ho : OpR X (compareOp op) (r2Of A.w P)) (ho' : OpR X (compareOp op') (r2Of A.w P')) (ha : PE X x (tO A W fa)) (hb : PE X y (tO A W fb)) (hc : PE X z (tO A W fc)) (hm : lastMarks [op, op'] [y, z] = false := by with_unfolding_all rfl) :
    PT X (.Compare x [op, op'] [y, z] pos) (tBo A W (tst (chn P P' fa fb fc))) := PT.imp (pt_chain ho ho' ha hb hc hm) fun _ _ _ q => chn_of (tst_of q)
end

/-! ### o.m(e, ..) that changes nothing -/
def oTy (T : String) (fo : OF) : OF := fun r => match fo r with
  | .ok h r1 => match h.get r1 with
    | some v => if tyOf v = some T then .ok h r1 else .bad
    | none => .bad
  | .ex e r1 => .ex e r1
  | .bad => .bad
def TyAt (w : Wd) (T : String) (x : V) (H : Hp) : Prop := ∃ G v, Le G H ∧ RRep w G H v x ∧ tyOf v = some T
section
variable {X : Cx} {A : Act} {W : WX} {o e : Expr} {es : List Expr} {fo : OF} {g : OsF} {P : List Val → Option (Bool × Val)} {cpos apos : Pos} {T id : String} {name : Str}
theorem oTy_of {σ : L2.St} {H : Hp} {Q : V → Hp → Prop} (h : tO A W (oTy T fo) σ H Q) : tO A W fo σ H fun x H1 => TyAt A.w T x H1 ∧ Q x H1 := by
  obtain ⟨r, G, k, m⟩ := h
  refine ⟨r, G, k, ?_⟩
  unfold oTy at m
  cases hf : fo r with
  | bad => rw [hf] at m; exact m.elim
  | ex e r' => rw [hf] at m; exact m
  | ok h r1 =>
    simp only [hf] at m
    intro x G1 H1 k1 st1 t1
    cases hv : h.get r1 with
    | none => simp only [hv] at m
    | some v =>
      simp only [hv] at m
      by_cases ht : tyOf v = some T
      · simp only [if_pos ht] at m
        exact ⟨⟨G1, v, k1.sub, t1.get k1 hv, ht⟩, m x G1 H1 k1 st1 t1⟩
      · simp only [if_neg ht] at m
theorem ty_run (c : Cal X A.w) {pins : List (Addr × Obj)} {s : Shared} {σ : L2.St} {H : Hp} {x : V} {u : Value} (I : Inv X pins σ H s) (rx : RelV x u) (t : TyAt A.w T x H) (hT : T = "str" ∨ T = "list" ∨ T = "dict") :
    s.TypeIs u T ∧ ∀ a, u = .ref a → ∃ ob, s.heap.get? a = some ob ∧ ob.dict = none := by
  obtain ⟨G, v, le, r, ht⟩ := t
  have ls : ∀ {a : Addr} {xs : List V}, x = .ref a → SqL X.K H a xs → s.TypeIs u "list" ∧ ∀ a, u = .ref a → ∃ ob, s.heap.get? a = some ob ∧ ob.dict = none := fun {a xs} e h => by
    subst e
    exact tyV_is I rx (show tyV X.K "list" (.ref a) H from .inl ⟨rfl, xs, h⟩)
  cases v with
  | str z => cases ht; obtain ⟨rfl, _⟩ := rrep_str r; exact tyV_is I rx (show tyV X.K "str" (.str z) H from rfl)
  | lst ds => cases ht; obtain ⟨a, xs, e, h, _⟩ := rrep_lst le r; exact ls e (.inl (.inl h))
  | scr ns => cases ht; obtain ⟨a, e, h⟩ := rrep_scr le r; rw [c.K] at h; exact ls e h
  | dct t kvs =>
    cases ht
    obtain ⟨a, rfl, q⟩ := rrep_dct le r
    cases (show u = Value.ref a from rx)
    have dK : ∀ {kvs : List (Key × V)}, ObjOk X.prog X.w H s.heap a (.dK kvs) → ∃ o, s.heap.get? a = some o ∧ o.ExactDict := fun {kvs} h => by
      obtain ⟨_, _, vs, _, o, es, ep, h1, h2, _⟩ := h
      exact ⟨o, h1, h2⟩
    have dT : ∀ {kvs : List (List Key × V)}, ObjOk X.prog X.w H s.heap a (.dT kvs) → ∃ o, s.heap.get? a = some o ∧ o.ExactDict := fun {kvs} h => by
      obtain ⟨_, _, xs, _, o, es, ep, h1, h2, _⟩ := h
      exact ⟨o, h1, h2⟩
    have : ∃ o, s.heap.get? a = some o ∧ o.ExactDict := by
      rcases q with ⟨_, kvs, q | ⟨ob, q⟩, _⟩ | ⟨_, kvs, q | ⟨ob, q⟩, _⟩
      · exact dK (I.hok a _ q)
      · exact dK (I.hok a _ q).2
      · exact dT (I.hok a _ q)
      · exact dT (I.hok a _ q).2
    obtain ⟨ob, h1, h2⟩ := this
    exact ⟨⟨ob, h1, h2.1⟩, fun b e => by cases e; exact ⟨ob, h1, h2.2.1⟩⟩
  | non => cases ht; rcases hT with h | h | h <;> exact absurd h (by decide)
  | bl b => cases ht; rcases hT with h | h | h <;> exact absurd h (by decide)
  | int i => cases ht; rcases hT with h | h | h <;> exact absurd h (by decide)
  | tup ds => cases ht; rcases hT with h | h | h <;> exact absurd h (by decide)
  | _ => cases ht
/-- a method's meaning by values -/
def MtP (X : Cx) (w : Wd) (id : String) (P : List Val → Option (Bool × Val)) : Prop := MtR X id fun x xs H Q => rOf w P (x :: xs) H Q
theorem pe_mt (c : Cal X A.w) (hT : T = "str" ∨ T = "list" ∨ T = "dict") (pa : PlainAttrs T) (slot : PySem.Slot T name id) (hty : typeOf (.builtin id) = pure (.type "method_descriptor")) (hm : MtP X A.w id P) (ho : PE X o (tO A W fo)) (ha : PA X (e :: es) (tOs A W g))
    (hbase : AsItIs X o name := by rfl)
    (hfew : FewPlain X (e :: es) cpos := by rfl)
    (hline : (apos.endLine == cpos.line) = true := by rfl) (hs : NoStar X e es := by rfl) (hplain : NoStars X es cpos := by rfl) :
    PE X (.Call (.Attribute o name apos) (e :: es) [] cpos) (tE A W (prim P (osCons (oTy T fo) g))) := by
  refine ⟨fun pins s σ H Q I h => ?_⟩
  have q0 := oTy_of (os_cons (prim_os (rok_rOf A.w P) h))
  refine wpAny_Call_method_late hbase hfew hline rfl (wpAny_mono (ho.run pins s σ H _ I q0) (fun v s1 ⟨x, H1, I1, r1, ty, q1⟩ => ?_) fun _ _ z => z)
  obtain ⟨t1, t2⟩ := ty_run c I1 r1 ty hT
  refine ⟨T, id, pa, slot, hty, t1, t2, ?_⟩
  have run := ha.run cpos pins s1 σ H1 _ I1 q1
  rw [hs] at run ⊢
  refine Calls.callWith_builtin (by show (false || (backTo cpos (starEach es X.env)).any (·.1)) = false; rw [hplain] <;> rfl) (Calls.evalArgs_plain (wpAny_mono run (fun us s2 ⟨vs, H2, I2, r2, q2⟩ => ?_) fun _ _ z => z))
  exact hm pins s2 σ H2 x vs v us Q I2 r1 r2 q2
end
def Pjoin : List Val → Option (Bool × Val)
  | [.str a, .lst ds] => match asStrs ds with
    | some ys => if (ys.map (·.length)).sum + ys.length * a.length ≤ 16777216 ∧ (Txt.join a ys).length ≤ sizeLine then some (false, .str (Txt.join a ys)) else none
    | none => none
  | _ => none
theorem mtp_join {X : Cx} {w : Wd} : MtP X w "str.join" Pjoin := by
  intro pins s σ H x xs v us Q I rx rxs ⟨G, vs, o, z, le, rr, hp, q⟩
  unfold Pjoin at hp
  split at hp
  · split at hp
    · rename_i ys hy
      split at hp
      · rename_i hb
        cases hp
        obtain ⟨_, _, e, r1, r2⟩ := rreps_two rr
        cases e
        obtain ⟨rfl, _⟩ := rrep_str r1
        obtain ⟨a, zs, rfl, h, rs⟩ := rrep_lst le r2
        rw [asStrs_some hy] at rs
        rw [reps_strs rs] at h
        exact mt_join pins s σ H _ _ v us Q I rx rxs ⟨_, a, ys, rfl, rfl, .inl (.inl (.inl h)), hb.1, str_new le hb.2 q⟩
      · cases hp
    · cases hp
  · cases hp
end M
/-! MPF: containers changed in place, displays of dicts. -/
namespace M
open PySem L2

section
variable {A : Act} {G H : Hp} {σ : L2.St} {r : Env} {i : Nat} {v v' : Val} {a : Addr}
/-- slot i's container is rewritten -/
theorem Ok.mut {u : HO} (k : Ok A G H σ r) (h : r[i]? = some (some (true, v))) (hσ : σ[i]? = some (some (.ref a))) (hr : Root A.w G (upd H a u) v' a) : Ok A G (upd H a u) σ (r.set i (some (true, v'))) := by
  obtain ⟨a', e, ro, n, l⟩ := k.ow i v h
  rw [hσ] at e; cases e
  have il : i < r.length := (List.getElem?_eq_some_iff.mp h).1
  refine ⟨k.ex0, k.gr0, fun b o hb nl => ?_, tabs_upd k.tk (.inr ro.con) (hr.ne upd_same), k.nt, fun b o hb => ?_, by rw [List.length_set]; exact k.len, fun j w h1 => ?_, fun j w h1 => ?_, fun p q v1 v2 b h1 h2 h3 h4 => ?_, k.fx⟩
  · have ne : b ≠ a := fun z => by
      subst z
      rcases l with l | l
      · exact nl l
      · rw [l] at hb; cases hb
    rw [upd_ne ne]; exact k.fr0 b o hb nl
  · have ne : b ≠ a := ne_of_none hb n
    rw [upd_ne ne]; exact k.sub b o hb
  · rcases set_some h1 rfl with ⟨e1, e2⟩ | ⟨e1, e2⟩
    · cases e2
    · exact k.fz j w e2
  · rcases set_some h1 rfl with ⟨e1, e2⟩ | ⟨e1, e2⟩
    · subst e1; cases e2; exact ⟨a, hσ, hr, n, l⟩
    · obtain ⟨b, e, q, nb, lb⟩ := k.ow j w e2
      have ne : b ≠ a := fun z => e1 (k.sep j i w v a e2 h (by rw [e, z]) hσ)
      exact ⟨b, e, q.mono (Le.refl _) (fun o ho => by rw [upd_ne ne]; exact ho), nb, lb⟩
  · have own : ∀ {j : Nat} {w : Val}, (r.set i (some (true, v')))[j]? = some (some (true, w)) → ∃ w', r[j]? = some (some (true, w')) := fun {j w} h1 => by
      rcases set_some h1 rfl with ⟨e1, e2⟩ | ⟨e1, e2⟩
      · subst e1; exact ⟨v, h⟩
      · exact ⟨w, e2⟩
    obtain ⟨w1, o1⟩ := own h1
    obtain ⟨w2, o2⟩ := own h2
    exact k.sep p q w1 w2 b o1 o2 h3 h4
theorem step_mut {u : HO} (h : r[i]? = some (some (true, v))) (hσ : σ[i]? = some (some (.ref a))) : Step σ r G H (r.set i (some (true, v'))) G (upd H a u) :=
  ⟨Le.refl _, fun b o hb nb => by
    have ne : b ≠ a := fun z => nb (by subst z; exact ⟨i, v, h, hσ⟩)
    rw [upd_ne ne]; exact KpO.of hb, fun b hb hb' => absurd hb hb', fun b ⟨j, w, h1, h2⟩ => by
    rcases set_some h1 rfl with ⟨e1, e2⟩ | ⟨e1, e2⟩
    · subst e1; exact ⟨j, v, h, h2⟩
    · exact ⟨j, w, e2, h2⟩⟩
end

/-! ### x.m(e, ..) that changes x -/
/-- by values: the container v, the arguments, then the container and the answer (frozen) -/
abbrev MutF := Val → List Val → Option (Val × Val)
def mutE (T : String) (i : Nat) (P : MutF) (g : AF) : EF := fun r => match r[i]? with
  | some (some (true, v0)) => if tyOf v0 = some T then match g r with
      | .ok vs r1 => match r1[i]? with
        | some (some (true, v)) => match P v vs with
          | some (v', z) => .ok false z (r1.set i (some (true, v')))
          | none => .bad
        | _ => .bad
      | .ex e r1 => .ex e r1
      | .bad => .bad
    else .bad
  | _ => .bad
def rMut (w : Wd) (P : MutF) : V → List V → Hp → VK → Prop := fun x xs H Q => ∃ a v vs v' z G, x = .ref a ∧ Le G H ∧ G a = none ∧ Root w G H v a ∧ Reps w G vs xs ∧ P v vs = some (v', z) ∧ ∀ u y, Root w G (upd H a u) v' a → Rep w G z y → Q y (upd H a u)
def MutP (X : Cx) (w : Wd) (id : String) (P : MutF) : Prop := MtR X id (rMut w P)
theorem root_ty {X : Cx} {w : Wd} {G H : Hp} {v : Val} {a : Addr} {T : String} (r : Root w G H v a) (h : tyOf v = some T) : tyV X.K T (.ref a) H := by
  cases v with
  | lst ds => cases h; obtain ⟨xs, e, _⟩ := r; exact .inl ⟨rfl, xs, .inl (.inl e)⟩
  | dct t ds =>
    cases h
    obtain ⟨_, kvs, e, _⟩ | ⟨_, kvs, e, _⟩ := r
    · exact .inr (.inr (.inl ⟨rfl, .inl ⟨kvs, e⟩⟩))
    · exact .inr (.inr (.inl ⟨rfl, .inr ⟨kvs, e⟩⟩))
  | obj c fs => cases h
  | _ => exact r.elim
section
variable {X : Cx} {A : Act} {W : WX} {o e : Expr} {es : List Expr} {g : AF} {P : MutF} {cpos apos : Pos} {T id : String} {name : Str} {i : Nat}
theorem mut_of {σ : L2.St} {H : Hp} {Q : VK} (h : tE A W (mutE T i P g) σ H Q) : tVar i σ H fun x H1 => tyV X.K T x H1 ∧ tAs A W g σ H1 fun xs H2 => rMut A.w P x xs H2 Q := by
  obtain ⟨r, G, k, m⟩ := h
  rcases q : r[i]? with _ | _ | ⟨_ | _, v0⟩
  · simp only [mutE, q] at m
  · simp only [mutE, q] at m
  · simp only [mutE, q] at m
  · simp only [mutE, q] at m
    by_cases ht : tyOf v0 = some T
    · simp only [if_pos ht] at m
      obtain ⟨a, e1, ro, n, l⟩ := k.ow i v0 q
      refine ⟨.ref a, e1, root_ty ro ht, r, G, k, ?_⟩
      cases hg : g r with
      | bad => simp only [hg] at m
      | ex e r1 => simp only [hg] at m ⊢; exact m
      | ok vs r1 =>
        simp only [hg] at m ⊢
        intro xs G1 H1 k1 st1 rs
        rcases q1 : r1[i]? with _ | _ | ⟨_ | _, v⟩
        · simp only [q1] at m
        · simp only [q1] at m
        · simp only [q1] at m
        · simp only [q1] at m
          cases hp : P v vs with
          | none => simp only [hp] at m
          | some vz =>
            obtain ⟨v', z⟩ := vz
            simp only [hp] at m
            obtain ⟨b, e2, ro1, n1, l1⟩ := k1.ow i v q1
            rw [e1] at e2; cases e2
            exact ⟨a, v, vs, v', z, G1, rfl, k1.sub, n1, ro1, rs, hp, fun u y hr hy => m y G1 _ ⟨k1.mut q1 e1 hr, st1.trans (step_mut q1 e1), trep_f hy, no_own⟩⟩
    · simp only [if_neg ht] at m
theorem pe_mut (pa : PlainAttrs T) (slot : PySem.Slot T name id) (hty : typeOf (.builtin id) = pure (.type "method_descriptor")) (hm : MutP X A.w id P) (ho : PE X o (tVar i)) (ha : PA X (e :: es) (tAs A W g))
    (hbase : AsItIs X o name := by rfl)
    (hfew : FewPlain X (e :: es) cpos := by rfl)
    (hline : (apos.endLine == cpos.line) = true := by rfl) (hs : NoStar X e es := by rfl) (hplain : NoStars X es cpos := by rfl) :
    PE X (.Call (.Attribute o name apos) (e :: es) [] cpos) (tE A W (mutE T i P g)) := PE.imp (pe_bm pa slot hty hm ho ha hbase hfew hline hs hplain) fun _ _ _ q => mut_of q
theorem pe_mut0 (pa : PlainAttrs T) (slot : PySem.Slot T name id) (hty : typeOf (.builtin id) = pure (.type "method_descriptor")) (hm : MutP X A.w id P) (ho : PE X o (tVar i))
    (hbase : AsItIs X o name := by rfl) (hline : (apos.endLine == cpos.line) = true := by rfl) : PE X (.Call (.Attribute o name apos) [] [] cpos) (tE A W (mutE T i P asNil)) :=
  PE.imp (pe_bm0 pa slot hty hm ho hbase hline) fun _ _ _ q => by
    obtain ⟨x, e, t, r, G, k, m⟩ := mut_of (X := X) q
    exact ⟨x, e, t, m [] G _ k Step.refl (reps_nil.mpr rfl)⟩
end
def Mappend : MutF
  | .lst ds, [v] => if ds.length < 100000 then some (.lst (ds ++ [v]), .non) else none
  | _, _ => none
def Mextend : MutF
  | .lst ds, [.lst es] => if ds.length + es.length ≤ 100000 then some (.lst (ds ++ es), .non) else none
  | _, _ => none
def Mpop : MutF
  | .lst ds, [] => match ds[ds.length - 1]? with
    | some d => some (.lst ds.dropLast, d)
    | none => none
  | _, _ => none
def MpopAt : MutF
  | .lst ds, [.int i] => match ixN ds.length i with
    | some j => match ds[j]? with
      | some d => if ds.length ≤ 100000 then some (.lst (ds.eraseIdx j), d) else none
      | none => none
    | none => none
  | _, _ => none
theorem reps_dropLast {w : Wd} {G : Hp} {ds : List Val} {xs : List V} (r : Reps w G ds xs) : Reps w G ds.dropLast xs.dropLast := by
  rw [List.dropLast_eq_take, List.dropLast_eq_take, reps_length r]
  exact reps_take _ r
section
variable {X : Cx} {w : Wd}
theorem root_l {G H : Hp} {ds : List Val} {a : Addr} {xs : List V} (r : Reps w G ds xs) : Root w G (upd H a (.lst xs)) (.lst ds) a := ⟨xs, upd_same, r⟩
theorem mutp_append : MutP X w "list.append" Mappend := by
  intro pins s σ H x xs v us Q I rx rxs ⟨a, d, vs, d', z, G, ex, le, n, ro, rs, hp, q⟩
  subst ex
  unfold Mappend at hp
  split at hp
  · split at hp
    · rename_i hl
      cases hp
      obtain ⟨ys, e, r⟩ := ro
      obtain ⟨y, _, rfl, r1, r2⟩ := reps_cons.mp rs
      rw [reps_nil] at r2; subst r2
      exact mt_append pins s σ H _ _ v us Q I rx rxs ⟨a, ys, y, rfl, rfl, e, by rw [← reps_length r]; exact Nat.lt_of_lt_of_le hl (by decide), q _ _ (root_l (reps_append r (reps_one r1))) (rep_non.mpr rfl)⟩
    · cases hp
  · cases hp
theorem mutp_extend : MutP X w "list.extend" Mextend := by
  intro pins s σ H x xs v us Q I rx rxs ⟨a, d, vs, d', z, G, ex, le, n, ro, rs, hp, q⟩
  subst ex
  unfold Mextend at hp
  split at hp
  · split at hp
    · rename_i hl
      cases hp
      obtain ⟨ys, e, r⟩ := ro
      obtain ⟨y, _, rfl, r1, r2⟩ := reps_cons.mp rs
      rw [reps_nil] at r2; subst r2
      obtain ⟨b, zs, rfl, hb, rz⟩ := rep_lst.mp r1
      exact mt_extend pins s σ H _ _ v us Q I rx rxs ⟨a, b, ys, zs, rfl, rfl, e, le _ _ hb, by rw [← reps_length r, ← reps_length rz]; exact Nat.le_trans hl (by decide), q _ _ (root_l (reps_append r rz)) (rep_non.mpr rfl)⟩
    · cases hp
  · cases hp
theorem mutp_pop : MutP X w "list.pop" Mpop := by
  intro pins s σ H x xs v us Q I rx rxs ⟨a, d, vs, d', z, G, ex, le, n, ro, rs, hp, q⟩
  subst ex
  unfold Mpop at hp
  split at hp
  · split at hp
    · rename_i d0 hd
      cases hp
      obtain ⟨ys, e, r⟩ := ro
      rw [reps_nil] at rs; subst rs
      obtain ⟨y, hy, ry⟩ := reps_get r hd
      rw [reps_length r] at hy
      exact mt_pop pins s σ H _ _ v us Q I rx rxs ⟨a, ys, y, rfl, rfl, e, hy, q _ _ (root_l (reps_dropLast r)) ry⟩
    · cases hp
  · cases hp
theorem mutp_popAt : MutP X w "list.pop" MpopAt := by
  intro pins s σ H x xs v us Q I rx rxs ⟨a, d, vs, d', z, G, ex, le, n, ro, rs, hp, q⟩
  subst ex
  unfold MpopAt at hp
  split at hp
  · split at hp
    · rename_i j hj
      split at hp
      · rename_i d0 hd
        split at hp
        · rename_i hl
          cases hp
          obtain ⟨ys, e, r⟩ := ro
          have ei := reps_ints (ns := [_]) rs
          subst ei
          obtain ⟨y, hy, ry⟩ := reps_get r hd
          obtain ⟨h1, h2, h3, h4⟩ := ixN_seq hj
          have hlen := reps_length r
          exact mt_popAt pins s σ H _ _ v us Q I rx rxs ⟨a, ys, _, j, y, rfl, rfl, e, by omega, by omega, by rw [← hlen]; exact h1, hy, q _ _ (root_l (reps_erase j r)) ry⟩
        · cases hp
      · cases hp
    · cases hp
  · cases hp
end

/-! ### x[i] = e, del x[i] -/
def putIx : Val → Val → Val → Option Val
  | .lst ds, .int k, v => (ixN ds.length k).map fun j => .lst (ds.set j v)
  | .dct false kvs, k, v => match keyOf k with
    | some q => if kvs.length < 100000 then some (.dct false (dPut kvs q v)) else none
    | none => none
  | _, _, _ => none
def setIx (i : Nat) (fk fe : EF) : SF := fun r => match frz fe r with
  | .ok _ v r1 => match r1[i]? with
    | some (some (true, _)) => match frz fk r1 with
      | .ok _ k r2 => match r2[i]? with
        | some (some (true, d)) => match putIx d k v with
          | some d' => .nx (r2.set i (some (true, d')))
          | none => .bad
        | _ => .bad
      | .ex e r2 => .ex e r2
      | .bad => .bad
    | _ => .bad
  | .ex e r1 => .ex e r1
  | .bad => .bad
def rPut (w : Wd) : V → V → V → Hp → (Hp → Prop) → Prop := fun o k x H Q => ∃ a d kd v d' G, o = .ref a ∧ Le G H ∧ G a = none ∧ Root w G H d a ∧ Rep w G kd k ∧ Rep w G v x ∧ putIx d kd v = some d' ∧ ∀ u, Root w G (upd H a u) d' a → Q (upd H a u)
theorem set_put {X : Cx} {w : Wd} (c : Cal X w) : PSet X (rPut w) := by
  intro pins s σ H o k x ov kvv u Q I ro rk rx ⟨a, d, kd, v, d', G, eo, le, n, rt, rpk, rpx, hp, q⟩
  subst eo
  unfold putIx at hp
  split at hp
  · rw [Option.map_eq_some_iff] at hp
    obtain ⟨j, hj, e⟩ := hp
    subst e
    obtain ⟨ys, e, r⟩ := rt
    obtain rfl := rep_int.mp rpk
    exact set_list pins s σ H _ _ _ ov kvv u Q I ro rk rx ⟨a, ys, _, j, rfl, rfl, e, by rw [← reps_length r]; exact hj, q _ (root_l (reps_set rpx j r))⟩
  · split at hp
    · rename_i qk hk
      split at hp
      · rename_i hl
        cases hp
        obtain ⟨_, kvs, e, r⟩ | ⟨ht, _⟩ := rt
        · obtain ⟨rfl, hb⟩ := rrep_key (H := H) (.inl rpk) hk
          have g : DPut H a (kV qk) x (upd H a (.dK (putK kvs qk x))) := DPut.k e (by rw [← repK_length r]; exact Nat.lt_of_lt_of_le hl (by decide))
          cases (show ov = Value.ref a from ro)
          exact d_setItem (by have := c.un; omega) I g rk rx fun s' I' => ⟨_, I', q _ (.inl ⟨rfl, _, upd_same, repK_put r hb rpx⟩)⟩
        · cases ht
      · cases hp
    · cases hp
  · cases hp
theorem ps_setIx {X : Cx} {A : Act} {W : WX} {o ke e : Expr} {i : Nat} {fk fe : EF} {pos pos' : Pos} (c : Cal X A.w) (ho : PE X o (tVar i)) (hk : PE X ke (tE A W fk)) (he : PE X e (tE A W fe))
    (hs : swapsWithSole [.Subscript o ke pos'] e pos.line X.env = pure false := by rfl) (hw : swappedStores [.Subscript o ke pos'] e X.env = pure none := by rfl)
    (h1 : (assignEach [.Subscript o ke pos'] X.env).map (·.2) = [assign (.Subscript o ke pos') X.env] := by rfl)
    (ha : ∀ v, assign (.Subscript o ke pos') X.env v = (do
      let ov ← holding [v] (eval o X.env)
      let iv ← holding [v, ov] (eval ke X.env)
      standAt pos'
      holding [v, ov, iv] (setItem ov iv v)
      release [v, ov, iv] []) := by intro _; rfl) : PS X (.Assign [.Subscript o ke pos'] e pos) (tSt A W (setIx i fk fe)) := by
  refine PS.imp (ps_asg (pe_frz he) (pg_sub ho (pe_frz hk) (set_put c) ha) hs hw h1) fun D σ H h => ?_
  obtain ⟨r, G, k, m⟩ := tSt_iff.mp h
  refine ⟨r, G, k, ?_⟩
  unfold setIx at m
  cases hf : frz fe r with
  | bad => rw [hf] at m; exact m.elim
  | ex e r' => rw [hf] at m; exact m σ
  | ok o0 v r1 =>
    have eo := frz_false hf
    subst eo
    simp only [hf] at m ⊢
    intro x G1 H1 R1
    have k1 := R1.ok
    rcases q1 : r1[i]? with _ | _ | ⟨_ | _, d0⟩
    · simp only [q1] at m; exact m.elim
    · simp only [q1] at m; exact m.elim
    · simp only [q1] at m; exact m.elim
    · simp only [q1] at m
      obtain ⟨a, e1, ro, n, l⟩ := k1.ow i d0 q1
      refine ⟨.ref a, e1, r1, G1, k1, ?_⟩
      cases hk' : frz fk r1 with
      | bad => simp only [hk'] at m; exact m.elim
      | ex e r2 => simp only [hk'] at m ⊢; exact (show ExP A W G σ e r2 from m σ).mono R1.st.ex
      | ok o1 kd r2 =>
        have eo := frz_false hk'
        subst eo
        simp only [hk'] at m ⊢
        intro y G2 H2 R2
        have k2 := R2.ok
        rcases q2 : r2[i]? with _ | _ | ⟨_ | _, d⟩
        · simp only [q2] at m; exact m.elim
        · simp only [q2] at m; exact m.elim
        · simp only [q2] at m; exact m.elim
        · simp only [q2] at m
          cases hp : putIx d kd v with
          | none => simp only [hp] at m; exact m.elim
          | some d' =>
            simp only [hp] at m
            obtain ⟨b, e2, ro2, n2, l2⟩ := k2.ow i d q2
            rw [e1] at e2; cases e2
            exact ⟨a, d, kd, v, d', G2, rfl, k2.sub, n2, ro2, R2.tr, Rep.mono R2.st.ex R1.tr, hp, fun u hr => m σ G2 _ (k2.mut q2 e1 hr) (R1.st.ex.trans R2.st.ex)⟩

/-! ### displays of dicts -/
inductive DR where
  | ok (kvs : List (Val × Val)) (r : Env) | ex (e : Val) (r : Env) | bad
def dspL : List (EF × EF) → Env → DR
  | [], r => .ok [] r
  | (fk, fv) :: l, r => match frz fk r with
    | .ok _ k r1 => match frz fv r1 with
      | .ok _ v r2 => match dspL l r2 with
        | .ok kvs r3 => .ok ((k, v) :: kvs) r3
        | x => x
      | .ex e r2 => .ex e r2
      | .bad => .bad
    | .ex e r1 => .ex e r1
    | .bad => .bad
def putAll (acc : List (Val × Val)) : List (Val × Val) → Option (List (Val × Val))
  | [] => some acc
  | (k, v) :: kvs => match keyOf k with
    | some q => putAll (dPut acc q v) kvs
    | none => none
def dsp (l : List (EF × EF)) : EF := fun r => match dspL l r with
  | .ok kvs r1 => if kvs.length ≤ 15 then match putAll [] kvs with
      | some ds => .ok true (.dct false ds) r1
      | none => .bad
    else .bad
  | .ex e r1 => .ex e r1
  | .bad => .bad
def dNew (t : Bool) : EF := fun r => .ok true (.dct t []) r
theorem reps_pairs {w : Wd} {G : Hp} : ∀ {kvs ds : List (Val × Val)} {acc : List (Val × Val)} {ks : List (Key × V)} {ps : List (V × V)}, putAll acc kvs = some ds → RepK w G acc ks → (Paired (fun (p : Val × Val) (q : V × V) => Rep w G p.1 q.1 ∧ Rep w G p.2 q.2) kvs ps) →
    ∃ qs : List (Key × V), ps = qs.map (fun kv => (kV kv.1, kv.2)) ∧ qs.length = kvs.length ∧ RepK w G ds (mergeK ks qs)
  | [], ds, acc, ks, _, h, r, .nil => by
    simp only [putAll, Option.some.injEq] at h
    subst h
    exact ⟨[], rfl, rfl, r⟩
  | (k, v) :: kvs, ds, acc, ks, _ :: _, h, r, .cons (b := b) hb t => by
    simp only [putAll] at h
    split at h
    · rename_i q hq
      obtain ⟨e1, e2⟩ := rrep_key (H := G) (.inl hb.1) hq
      obtain ⟨qs, e3, e4, e5⟩ := reps_pairs h (repK_put r e2 hb.2) t
      refine ⟨(q, b.2) :: qs, ?_, by simp [e4], e5⟩
      rw [List.map_cons, e3, ← e1]
    · cases h
section
variable {X : Cx} {A : Act} {W : WX} {pos : Pos}
def trs (A : Act) (W : WX) (l : List (EF × EF)) : List (TE × TE) := l.map fun p => (tE A W (frz p.1), tE A W (frz p.2))
theorem pps_Nil : PPs X pos [] [] (trs A W []) := pps_nil
theorem pps_Cons {k v : Expr} {ks : List (Option Expr)} {vs : List Expr} {fk fv : EF} {l : List (EF × EF)} (hk : PE X k (tE A W fk)) (hv : PE X v (tE A W fv)) (hr : PPs X pos ks vs (trs A W l)) : PPs X pos (some k :: ks) (v :: vs) (trs A W ((fk, fv) :: l)) :=
  pps_cons (pe_frz hk) (pe_frz hv) hr
theorem dsp_pairs {σ : L2.St} : ∀ {l : List (EF × EF)} {r : Env} {G H : Hp} {Q : List (V × V) → Hp → Prop}, Ok A G H σ r →
    (match dspL l r with
      | .ok kvs r' => ∀ ps G' H', Ok A G' H' σ r' → Step σ r G H r' G' H' → Paired (fun (p : Val × Val) (q : V × V) => Rep A.w G' p.1 q.1 ∧ Rep A.w G' p.2 q.2) kvs ps → Q ps H'
      | .ex e r' => ExP A W G σ e r'
      | .bad => False) → tPairs (trs A W l) σ H Q
  | [], r, G, H, Q, k, m => m [] G H k Step.refl .nil
  | (fk, fv) :: l, r, G, H, Q, k, m => by
    show tE A W (frz fk) σ H fun x H1 => tE A W (frz fv) σ H1 fun y H2 => tPairs (trs A W l) σ H2 fun ps H3 => Q ((x, y) :: ps) H3
    refine ⟨r, G, k, ?_⟩
    simp only [dspL] at m
    cases h1 : frz fk r with
    | bad => simp only [h1] at m
    | ex e r1 => simp only [h1] at m ⊢; exact m
    | ok o1 kd r1 =>
      have eo := frz_false h1
      subst eo
      simp only [h1] at m ⊢
      intro x G1 H1 R1
      refine ⟨r1, G1, R1.ok, ?_⟩
      cases h2 : frz fv r1 with
      | bad => simp only [h2] at m
      | ex e r2 => simp only [h2] at m ⊢; exact m.mono R1.st.ex
      | ok o2 vd r2 =>
        have eo := frz_false h2
        subst eo
        simp only [h2] at m ⊢
        intro y G2 H2 R2
        refine dsp_pairs (l := l) R2.ok ?_
        have st := R1.st.trans R2.st
        cases h3 : dspL l r2 with
        | bad => simp only [h3] at m
        | ex e r3 => simp only [h3] at m ⊢; exact m.mono st.ex
        | ok kvs r3 =>
          simp only [h3] at m ⊢
          intro ps G3 H3 k3 st3 pr
          exact m _ G3 H3 k3 (st.trans st3) (.cons ⟨Rep.mono (R2.st.ex.trans st3.ex) R1.tr, Rep.mono st3.ex R2.tr⟩ pr)
theorem Ok.other {G H : Hp} {σ : L2.St} {r : Env} {p : Addr} {u : HO} (k : Ok A G H σ r) (n : G p = none) (hc : H p = none ∨ ∃ u, H p = some u ∧ Con u) (nr : ¬ Rt r σ p) (l : A.L p ∨ A.H0 p = none) (ho : ∀ ps, u ≠ .tbl ps := by intro _ z; cases z) : Ok A G (upd H p u) σ r := by
  refine ⟨k.ex0, k.gr0, fun b o hb nl => ?_, tabs_upd k.tk hc ho, k.nt, fun b o hb => ?_, k.len, k.fz, fun j w h1 => ?_, k.sep, k.fx⟩
  · have ne : b ≠ p := fun z => by
      subst z
      rcases l with l | l
      · exact nl l
      · rw [l] at hb; cases hb
    rw [upd_ne ne]; exact k.fr0 b o hb nl
  · rw [upd_ne (ne_of_none hb n)]; exact k.sub b o hb
  · obtain ⟨b, e, q, nb, lb⟩ := k.ow j w h1
    have ne : b ≠ p := fun z => nr ⟨j, w, h1, by rw [e, z]⟩
    exact ⟨b, e, q.mono (Le.refl _) (fun o ho => by rw [upd_ne ne]; exact ho), nb, lb⟩
theorem pe_dsp {keys : List (Option Expr)} {values : List Expr} {l : List (EF × EF)} (h : PPs X pos keys values (trs A W l)) (hall : keys.all (·.isSome) = true := by rfl) (hl : keys.length = values.length := by rfl) (h0 : keys ≠ [] := by simp) (h15 : keys.length ≤ 15 := by decide) :
    PE X (.Dict keys values pos) (tE A W (dsp l)) := by
  refine PE.imp (pe_disp h hall hl h0 h15) fun σ H Q ⟨r, G, k, m⟩ p hp => ?_
  have gr0 := Grow.laidH (o := .dK []) k.sub hp
  have k0 := k.grow gr0
  refine dsp_pairs k0 ?_
  unfold dsp at m
  cases hd : dspL l r with
  | bad => simp only [hd] at m
  | ex e r1 => simp only [hd] at m ⊢; exact m
  | ok kvs r1 =>
    simp only [hd] at m ⊢
    intro ps G1 H1 k1 st1 pr
    by_cases hlen : kvs.length ≤ 15
    · simp only [if_pos hlen] at m
      cases hpa : putAll [] kvs with
      | none => simp only [hpa] at m
      | some ds =>
        simp only [hpa] at m
        have nr := k.notRt hp
        have there : H1 p = some (.dK []) := st1.keep p _ upd_same nr
        obtain ⟨qs, e1, e2, e3⟩ := reps_pairs (ks := []) hpa (by rw [RepK]) pr
        have n1 : G1 p = none := by
          cases z : G1 p with
          | none => rfl
          | some u =>
            rcases st1.grow p (k.sub.back hp) (by rw [z]; simp) with y | y
            · rw [upd_same] at y; cases y
            · exact absurd y nr
        have nr1 : ¬ Rt r1 σ p := fun z => nr (st1.rts p z)
        refine ⟨there, qs, e1, by rw [e2]; exact hlen, ?_⟩
        refine m _ G1 _ ⟨k1.other n1 (.inr ⟨_, there, True.intro⟩) nr1 (k.fresh hp), ⟨st1.ex, fun b o hb nb => ?_, fun b hb hb' => ?_, st1.rts⟩, trep_t (.inl ⟨rfl, _, upd_same, e3⟩) n1 nr1 (k.fresh hp), fun _ a e => by cases e; exact .inl hp⟩
        · have ne : b ≠ p := ne_of_none hb hp
          rw [upd_ne ne]
          exact st1.keep b o (by rw [upd_ne ne]; exact hb) nb
        · have ne : b ≠ p := fun z => hb' (by rw [z]; exact n1)
          have := st1.grow b hb hb'
          rw [upd_ne ne] at this
          exact this
    · simp only [if_neg hlen] at m
theorem pe_dNewK : PE X (.Dict [] [] pos) (tE A W (dNew false)) := PE.imp pe_dnewK fun σ H Q ⟨r, G, k, m⟩ p hp => by
  have gr := Grow.laidH (o := .dK []) k.sub hp
  exact m _ G _ ⟨k.grow gr, gr.step, trep_t (.inl ⟨rfl, _, upd_same, by rw [RepK]⟩) (k.sub.back hp) (k.notRt hp) (k.fresh hp), fun _ a e => by cases e; exact .inl hp⟩
end
end M
/-! MPS: set(t), t a tuple of texts, and how many it holds. -/
namespace M
open PySem PySem.Spec PyProof.Rows L2

/-- what stood in h stands in h' -/
abbrev Below (h h' : Heap) : Prop := ∀ b o, b < h.objs.size → h.get? b = some o → h'.get? b = some o
/-! ### each text once, the first i looked at -/
def metS (ss : List Str) : Nat → List Str
  | 0 => []
  | i + 1 => match ss[i]? with
    | some x => if (metS ss i).any (· == x) = true then metS ss i else metS ss i ++ [x]
    | none => metS ss i
theorem metS_le (ss : List Str) : ∀ i, (metS ss i).length ≤ i
  | 0 => Nat.le_refl _
  | i + 1 => by
    have ih := metS_le ss i
    rw [metS]
    split
    · split
      · omega
      · simp; omega
    · omega
theorem metS_any {ss : List Str} {i : Nat} {x : Str} (h : ss[i]? = some x) (k : Str) : (metS ss (i + 1)).any (· == k) = ((metS ss i).any (· == k) || decide (k = x)) := by
  rw [metS, h]
  simp only
  by_cases hx : (metS ss i).any (· == x) = true
  · rw [if_pos hx]
    by_cases e : k = x
    · rw [e, hx]; simp
    · simp [e]
  · rw [if_neg hx, List.any_append]
    by_cases e : k = x
    · rw [e]; simp
    · have : (x == k) = false := beq_eq_false_iff_ne.mpr fun z => e z.symm
      simp [this, e]
theorem metS_len {ss : List Str} {i : Nat} {x : Str} (h : ss[i]? = some x) : (metS ss (i + 1)).length = if (metS ss i).any (· == x) = true then (metS ss i).length else (metS ss i).length + 1 := by
  rw [metS, h]
  simp only
  split <;> simp

section
variable {P : Program} {w : World} {A : Around} {J : Addr} {fp wr : List Addr} {G : Array GenState → Array GenState → Prop} {items : Array Value} {St : Nat → Shared → Prop} {ss : List Str}
theorem set_grow {R : Result → Shared → Prop} (W : WalksS P w A.in1 J fp wr G items.size (fun i v => items[i]? = some v) St) (S : Addr) (out : S ∉ fp) (hz : items.size = ss.length)
    (tx : ∀ (i : Nat) (v : Value), items[i]? = some v → ∃ x t, ss[i]? = some x ∧ v = .str x t) (few : ss.length + 1 < scanBound) :
    ∀ (left i : Nat) (s : Shared), items.size - i = left → i ≤ items.size → St i s → s.heap.SetOf (PySem.strKind P w) S (fun k => (metS ss i).any (· == k)) (metS ss i).length →
      (∀ s', Moved (S :: wr) G s s' → s'.heap.SetOf (PySem.strKind P w) S (fun k => (metS ss ss.length).any (· == k)) (metS ss ss.length).length → R (.ok (.ret .none)) s') →
      codeAny (model P w) A (.builtin "set.update.loop" ⟨[.ref S, .ref J], []⟩) R s := by
  have sw : S ∉ wr := fun z => out (W.sub _ z)
  have wide : ∀ b ∈ wr, b ∈ S :: wr := fun b z => List.mem_cons_of_mem _ z
  have same : ∀ {s1 s2 : Shared} {T : Str → Bool} {n : Nat}, Moved wr G s1 s2 → s1.heap.SetOf (PySem.strKind P w) S T n → s2.heap.SetOf (PySem.strKind P w) S T n := by
    rintro s1 s2 T n mv ⟨o, es, ep, tb, ho, rest⟩
    exact ⟨o, es, ep, tb, mv.heap S _ sw ho, rest⟩
  intro left
  induction left with
  | zero =>
    intro i s hk hi st hS fin
    have hin : i = items.size := by omega
    subst hin
    refine codeAny_builtin F.entry_set_update_loop ?_
    rw [Around.under_plainId F.plain_set_update_loop _]
    show wpAny _ A.in1 (pyNext (.ref J) >>= _) _ _ s
    refine wpAny_bind (W.done s _ _ st fun s' mv => ?_)
    show wpAny _ A.in1 (PySem.ret Value.none) _ _ s'
    rw [hz] at hS
    exact wpAny_pure (fin s' (mv.mono wide) (same mv hS))
  | succ left ih =>
    intro i s hk hi st hS fin
    have lt : i < items.size := by omega
    refine codeAny_builtin F.entry_set_update_loop ?_
    rw [Around.under_plainId F.plain_set_update_loop _]
    show wpAny _ A.in1 (pyNext (.ref J) >>= _) _ _ s
    refine wpAny_bind (W.item i s _ _ lt st fun v s' hv st' mv => ?_)
    obtain ⟨x, t, hx, rfl⟩ := tx i v hv
    have hS' := same mv hS
    show wpAny _ A.in1 (holding [Value.str x t] (setAdd S (.str x t)) >>= _) _ _ s'
    refine wpAny_bind (wpAny_holding ?_)
    unfold setAdd
    refine wpAny_holding ?_
    refine wpAny_bind ((PySem.strKind P w).pyHash (k := x) (strKind_is _ _ _ _) ?_)
    have room : (metS ss i).length + 1 < scanBound := by
      have := metS_le ss i
      omega
    refine wpAny_setAddHashed_of (knd := PySem.strKind P w) (s := { s' with toks := s'.toks + 1 }) (strKind_is _ _ _ _) rfl hS' room fun h' sb hS2 => ?_
    have hS3 : h'.SetOf (PySem.strKind P w) S (fun k => (metS ss (i + 1)).any (· == k)) (metS ss (i + 1)).length :=
      SetOf_congr hS2 (fun k => (metS_any hx k).symm) (metS_len hx).symm
    refine wpAny_pure ⟨plainId_quiet F.plain_set_update_loop _, ih (i + 1) _ (by omega) lt (W.frame _ s' _ _ st' (Nat.le_succ _) fun b hb o e => ?_) hS3 fun s2 mv2 hS4 => ?_⟩
    · rw [sb.2 b (fun z : b = S => out (by rw [← z]; exact hb))]
      exact e
    · refine fin s2 (Moved.trans W.gtrans ((mv.mono wide).then_heap (Nat.le_succ _) fun b o hb e => ?_) mv2) hS4
      rw [sb.2 b (fun z : b = S => hb (by rw [z]; exact List.mem_cons_self))]
      exact e
end
end M
namespace PySem
set_option maxHeartbeats 8000000 in
/-- set(t) -/
theorem set_tupTexts {prog : Program} {w : World} {A : Around} {E : Value → Shared → Prop} {s : Shared} {t : Addr} {items : Array Value} {ss : List Str} {Q : Value → Shared → Prop}
    (calm : A.handled = none) (ht : s.heap.IsTuple t items) (hz : items.size = ss.length) (tx : ∀ (i : Nat) (v : Value), items[i]? = some v → ∃ x k, ss[i]? = some x ∧ v = .str x k) (few : ss.length + 1 < scanBound)
    (fin : ∀ (h' : Heap) (tk : Nat), h'.SetOf (PySem.strKind prog w) s.heap.objs.size (fun k => (M.metS ss ss.length).any (· == k)) (M.metS ss ss.length).length →
      M.Below s.heap h' → Q (.ref s.heap.objs.size) { s with heap := h', toks := tk }) :
    wpAny (model prog w) A (call (.type "set") [.ref t]) Q E s := by
  obtain ⟨c, tl, hmro⟩ := F.called_set.mro
  have made := F.called_set.made
  have subs := F.called_set.sub
  refine wpAny_call (codeAny_of_tree ?_)
  show wpAny _ _ (callAny (.type "set") _) _ _ _
  refine wpAny_pure ⟨Code.quiet_builtin _ (by decide +kernel), codeAny_builtin F.entry_type_call ?_⟩
  rw [Around.under_plain (weight_type_call_type "set" [.ref t] []) rfl]
  have nt := F.called_set.notType
  have cc := F.called_set.canCreate
  have tc := F.typeCall_set_1 (.ref t)
  repeat (any_goals (first | assumption | wp_step))
  let fresh : Bool → Obj := fun led => { cls := .type "set", dict := none, data := .set #[] 0 (.fresh 0 0 led) }
  refine codeAny_mono (code_set_new_1 (.ref t) (E := E) (Q₁ := fun ob s₁ => ∃ led : Bool, ob = .ref s.heap.objs.size ∧ s₁ = { s with heap := s.heap.push (fresh led) }) fun led => ⟨led, rfl, rfl⟩) fun r s₁ hr => ?_
  cases r with
  | error e => exact hr
  | ok fl =>
    cases fl with
    | ret ob =>
      obtain ⟨led, rfl, rfl⟩ := hr
      have hS : (s.heap.push (fresh led)).get? s.heap.objs.size = some (fresh led) := Heap.get?_push_size _ rfl
      have hT : Shared.TypeIs { s with heap := s.heap.push (fresh led) } (.ref s.heap.objs.size) "set" := ⟨_, hS, rfl⟩
      have il := F.called_set.init.lookup
      have ib := F.called_set.init.bind (.ref s.heap.objs.size)
      repeat (any_goals (first | assumption | wp_step))
      refine codeAny_mono (codeAny_call_builtin (R := wants (fun r s₂ => r = .none ∧ ∃ h' tk, s₂ = { s with heap := h', toks := tk } ∧
          h'.SetOf (PySem.strKind prog w) s.heap.objs.size (fun k => (M.metS ss ss.length).any (· == k)) (M.metS ss ss.length).length ∧
          M.Below s.heap h') E) F.called_set.init.plain F.entry_set_init (check_set_init_1 hT ?_)) fun r₂ s₂ hr₂ => ?_
      · obtain ⟨ot, hot, hct, nt', hdt⟩ := ht
        obtain ⟨ocls, odict, odata, oslots⟩ := ot
        simp only at hct hdt
        subst hct; subst hdt
        have tt : (s.heap.push (fresh led)).get? t = some { cls := .type "tuple", dict := odict, data := .seq items nt', slots := oslots } := Heap.get?_push_of_some _ hot
        have u1 := F.sub_tuple_set
        have u2 := F.sub_tuple_frozenset
        have ne : (Value.type "tuple" == Value.type "dict") = false := by decide
        have tup1 : (s.heap.push (fresh led)).IsTuple t items := ⟨_, tt, rfl, nt', rfl⟩
        unfold Builtin.«set.__init__» noKeywords Builtin.Frozenset.updateFrom
        generalize hPI : pyIter = PI
        wp_walk
        subst hPI
        refine wpAny_pyIter_tuple tup1 ?_
        refine wpAny_bind (wpAny_runValue ?_)
        have below : t < s.heap.objs.size := Heap.lt_size hot
        have calm3 : A.in1.in1.in1.handled = none := by simp [calm]
        have z1 : (s.heap.push (fresh led)).objs.size = s.heap.objs.size + 1 := Heap.size_push ..
        have away : t ≠ (s.heap.push (fresh led)).objs.size := by
          rw [z1]
          exact Nat.ne_of_lt (Nat.lt_succ_of_lt below)
        have out : s.heap.objs.size ∉ [(s.heap.push (fresh led)).objs.size, t] := by
          rw [z1]
          simp only [List.mem_cons, List.not_mem_nil, or_false, not_or]
          exact ⟨Nat.ne_of_lt (Nat.lt_succ_self _), Nat.ne_of_gt below⟩
        refine M.set_grow ((Walks.tuple calm3 _ t away items).toS) s.heap.objs.size out hz tx few (items.size - 0) 0 _ (by omega) (Nat.zero_le _) ⟨⟨_, Heap.get?_push_size _ rfl, rfl, rfl⟩, (tup1.push _)⟩ ?start ?stop
        case start =>
          have got : ((s.heap.push (fresh led)).push { cls := .type "tuple_iterator", data := .fields #[.ref t, .int 0 0] }).get? s.heap.objs.size = some (fresh led) := Heap.get?_push_of_some _ hS
          exact PyProof.Rows.SetOf_congr ((PyProof.Rows.setObjOf_fresh (knd := PySem.strKind prog w) led).setOf got (by unfold scanBound; omega)) (fun _ => rfl) rfl
        case stop =>
          intro s' mv hS'
          obtain ⟨h', g', d', tk', os'⟩ := s'
          have e1 : g' = s.gens := mv.gens
          have e2 : d' = s.drawn := mv.drawn
          have e3 : os' = s.os := mv.os
          subst e1 e2 e3
          show wpAny _ _ _ _ _ _
          refine wpAny_pure ?_
          show wpAny _ _ (ret Value.none) _ _ _
          refine wpAny_pure ⟨rfl, h', tk', rfl, hS', fun b o hb e => ?_⟩
          refine mv.heap b o ?_ (Heap.get?_push_of_some _ (Heap.get?_push_of_some _ e))
          simp only [List.mem_cons, List.not_mem_nil, or_false, not_or]
          rw [z1]
          exact ⟨Nat.ne_of_lt hb, Nat.ne_of_lt (Nat.lt_succ_of_lt hb)⟩
      · cases r₂ with
        | error e => exact hr₂
        | ok fl₂ =>
          cases fl₂ with
          | ret r =>
            obtain ⟨rfl, h', tk, rfl, hS', hk'⟩ := hr₂
            repeat (any_goals (first | assumption | wp_step))
            exact fin _ _ hS' hk'
          | _ => exact hr₂.elim
    | _ => exact hr.elim
end PySem
namespace M
open PySem L2
/-! ### len(set(t)) as one operation -/
def lenSet (f : EF) : EF := fun r => match frz f r with
  | .ok _ v r' => match v with
    | .tup ds => match asStrs ds with
      | some ss => if ss.length ≤ 1000 then .ok false (.int (metS ss ss.length).length) r' else .bad
      | none => .bad
    | _ => .bad
  | .ex e r' => .ex e r'
  | .bad => .bad
section
variable {X : Cx} {A : Act} {W : WX} {a : Expr} {f : EF} {p p2 q pos : Pos}
theorem vals_texts : ∀ {ss : List Str} {us : List Value}, Vals (ss.map V.str) us → ∀ (i : Nat) (v : Value), us[i]? = some v → ∃ x k, ss[i]? = some x ∧ v = .str x k
  | [], _, .nil, i, v, h => by simp at h
  | s :: ss, _ :: _, .cons r rs, 0, v, h => by
    obtain ⟨t, rfl⟩ := r
    simp at h
    exact ⟨s, t, rfl, h.symm⟩
  | s :: ss, _ :: _, .cons r rs, i + 1, v, h => by
    obtain ⟨x, k, h1, h2⟩ := vals_texts rs i v (by simpa using h)
    exact ⟨x, k, by simpa using h1, h2⟩
theorem pe_lenSet (c : Cal X A.w) (hg : Gl X "len") (hm : X.mg "len" = none) (hg2 : Gl X "set") (hm2 : X.mg "set" = none) (ha : PE X a (tE A W f)) (na : starEach [a] X.env = (false, eval a X.env) :: starEach [] X.env := by rfl) :
    PE X (.Call (.Name "len" p) [.Call (.Name "set" p2) [a] [] q] [] pos) (tE A W (lenSet f)) := by
  refine ⟨fun pins s σ H Q I h => ?_⟩
  have h2 : tE A W (frz f) σ H fun x H1 => ∃ (t : Addr) (ss : List Str), x = .ref t ∧ SqT X.K H1 t (ss.map V.str) ∧ ss.length ≤ 1000 ∧ Q (.int ((metS ss ss.length).length : Nat)) H1 := by
    obtain ⟨r, G, k, m⟩ := h
    refine ⟨r, G, k, ?_⟩
    unfold lenSet at m
    cases hf : frz f r with
    | bad => simp only [hf] at m
    | ex e r' => simp only [hf] at m ⊢; exact m
    | ok o v r' =>
      have eo := frz_false hf
      subst eo
      simp only [hf] at m ⊢
      intro x G1 H1 R
      cases v with
      | tup ds =>
        simp only at m
        cases hs : asStrs ds with
        | none => simp only [hs] at m
        | some ss =>
          simp only [hs] at m
          by_cases hl : ss.length ≤ 1000
          · simp only [if_pos hl] at m
            obtain ⟨t, xs, rfl, sq, rs⟩ := rep_tup.mp (show Rep A.w G1 (.tup ds) x from R.tr)
            rw [asStrs_some hs] at rs
            rw [reps_strs rs, c.K] at sq
            exact ⟨t, ss, rfl, sqt_mono R.ok.sub sq, hl, m _ G1 H1 ⟨R.ok, R.st, trep_f (rep_int.mpr rfl), no_own⟩⟩
          · simp only [if_neg hl] at m
      | _ => exact m.elim
  refine PyProof.Rows.Call_ (ld_blt I hg hm PySem.boot_len ?_)
  refine PyProof.Rows.callWith_builtin1 (PyProof.Rows.args_cons ?_ rfl) rfl rfl
  refine PyProof.Rows.Call_ (ld_blt I hg2 hm2 PyProof.Rows.boot_set ?_)
  refine PyProof.Rows.callWith_type1 (PyProof.Rows.args_cons (wpAny_mono ((pe_frz ha).run pins s σ H _ I h2) (fun v s1 ⟨x, H1, I1, r1, t, ss, ex, sq, hl, q1⟩ => PyProof.Rows.args_nil ?_) fun _ _ z => z) na) na rfl
  subst ex
  cases r1
  obtain ⟨its, rv, pl, _⟩ := I1.tuple sq
  have hz : its.toArray.size = ss.length := by
    rw [List.size_toArray, ← rv.length, List.length_map]
  refine PySem.set_tupTexts (ss := ss) (I1.ok.hd c.calm) (show s1.heap.IsTuple t its.toArray from pl) hz (fun i v hv => vals_texts rv i v (by simpa using hv)) (by unfold scanBound; omega) fun h' tk hS hk => ?_
  refine PyProof.Rows.args_nil ?_
  obtain ⟨o, es, ep, tb, ho, hex, hd, _, _, _, hfr, hn⟩ := hS
  have I2 : Inv X pins σ H1 { s1 with heap := h', toks := tk } := I1.kept fun b o e => hk b o (Heap.lt_size e) e
  have le := metS_le ss ss.length
  exact call_len_set ho hex hd hfr (by rw [hn]; omega) ⟨.int _, H1, I2.tok _, ⟨_, by rw [hn]⟩, q1⟩
end
end M
/-! MPI: in of a dict, index, reversed lists, several targets, zip, star, repr of a dict. -/
namespace M
open PySem L2

/-! ### one operation or another -/
def orP (P P' : List Val → Option (Bool × Val)) : List Val → Option (Bool × Val) := fun vs => match P vs with
  | some r => some r
  | none => P' vs
theorem rOf_or {w : Wd} {P P' : List Val → Option (Bool × Val)} {xs : List V} {H : Hp} {Q : VK} (h : rOf w (orP P P') xs H Q) : rOf w P xs H Q ∨ rOf w P' xs H Q := by
  obtain ⟨G, vs, o, z, le, rr, hp, q⟩ := h
  unfold orP at hp
  cases e : P vs with
  | none => rw [e] at hp; exact .inr ⟨G, vs, o, z, le, rr, hp, q⟩
  | some r => rw [e] at hp; exact .inl ⟨G, vs, o, z, le, rr, by rw [e]; exact hp, q⟩
section
variable {X : Cx} {w : Wd}
theorem opr_or {f : Value → Value → Sem Value} {P P' : List Val → Option (Bool × Val)} (h : OpR X f (r2Of w P)) (h' : OpR X f (r2Of w P')) : OpR X f (r2Of w (orP P P')) := fun pins s σ H x y v u Q I rx ry q =>
  (rOf_or (xs := [x, y]) q).elim (fun q => h pins s σ H x y v u Q I rx ry q) fun q => h' pins s σ H x y v u Q I rx ry q
theorem cr_or {f : Value} {P P' : List Val → Option (Bool × Val)} (h : CallR X f (rOf w P)) (h' : CallR X f (rOf w P')) : CallR X f (rOf w (orP P P')) := fun pins s σ H xs us Q I r q =>
  (rOf_or q).elim (fun q => h pins s σ H xs us Q I r q) fun q => h' pins s σ H xs us Q I r q

/-! ### k in d -/
def PinD : List Val → Option (Bool × Val)
  | [k, .dct false kvs] => match keyOf k with
    | some q => some (false, .bl (dGet kvs q).isSome)
    | none => none
  | _ => none
def PnotInD : List Val → Option (Bool × Val)
  | [k, .dct false kvs] => match keyOf k with
    | some q => some (false, .bl (!(dGet kvs q).isSome))
    | none => none
  | _ => none
theorem dget_rel {G H : Hp} {a : Addr} {q : Key} {ds : List (Val × Val)} {kvs : List (Key × V)} (h : Rd H a (.dK kvs)) (rk : RepK w G ds kvs) : ∃ o, DGet H a (kV q) o ∧ o.isSome = (dGet ds q).isSome := by
  obtain ⟨g1, g2⟩ := repK_get (w := w) (G := G) q rk
  refine ⟨valV kvs q, .inl ⟨kvs, q, h, rfl, rfl⟩, ?_⟩
  cases e : dGet ds q with
  | none => rw [g2 e]; rfl
  | some d => obtain ⟨x, e1, _⟩ := g1 d e; rw [e1]; rfl
theorem opr_inD (c : Cal X w) : OpR X (compareOp .In) (r2Of w PinD) := by
  intro pins s σ H x y v u Q I rx ry ⟨G, vs, o, z, le, rr, hp, q⟩
  unfold PinD at hp
  split at hp
  · obtain ⟨_, _, e, r1, r2⟩ := rreps_two rr
    cases e
    split at hp
    · rename_i qk hk
      cases hp
      obtain ⟨rfl, _⟩ := rrep_key r1 hk
      obtain ⟨a, rfl, ⟨_, kvs, h, rk⟩ | ⟨ht, _⟩⟩ := rrep_dct le r2
      · obtain ⟨ov, g, e⟩ := dget_rel (q := qk) h rk
        cases (show u = Value.ref a from ry)
        exact d_in (by have := c.un; omega) I g rx fun s3 I3 => ⟨.bl ov.isSome, H, I3, rfl, by rw [e]; exact bl_new le q⟩
      · cases ht
    · cases hp
  · cases hp
theorem opr_notInD (c : Cal X w) : OpR X (compareOp .NotIn) (r2Of w PnotInD) := by
  intro pins s σ H x y v u Q I rx ry ⟨G, vs, o, z, le, rr, hp, q⟩
  unfold PnotInD at hp
  split at hp
  · obtain ⟨_, _, e, r1, r2⟩ := rreps_two rr
    cases e
    split at hp
    · rename_i qk hk
      cases hp
      obtain ⟨rfl, _⟩ := rrep_key r1 hk
      obtain ⟨a, rfl, ⟨_, kvs, h, rk⟩ | ⟨ht, _⟩⟩ := rrep_dct le r2
      · obtain ⟨ov, g, e⟩ := dget_rel (q := qk) h rk
        cases (show u = Value.ref a from ry)
        exact d_notIn (by have := c.un; omega) I g rx fun s3 I3 => ⟨.bl (!ov.isSome), H, I3, rfl, by rw [e]; exact bl_new le q⟩
      · cases ht
    · cases hp
  · cases hp
def PinX := orP PinD Pin
def PnotInX := orP PnotInD PnotIn
theorem opr_inX (c : Cal X w) : OpR X (compareOp .In) (r2Of w PinX) := opr_or (opr_inD c) (opr_in c)
theorem opr_notInX (c : Cal X w) : OpR X (compareOp .NotIn) (r2Of w PnotInX) := opr_or (opr_notInD c) (opr_notIn c)

/-! ### xs.index(v) -/
def Pindex : List Val → Option (Bool × Val)
  | [.lst ds, v] => match toDs ds, toD v with
    | some es, some d => if shp (.list es) = true ∧ shp d = true then (es.findIdx? fun z => PyData.eqv z d).map fun j => (false, .int (j : Nat)) else none
    | _, _ => none
  | _ => none
theorem mtp_index (c : Cal X w) : MtP X w "list.index" Pindex := by
  intro pins s σ H x xs v us Q I rx rxs ⟨G, vs, o, z, le, rr, hp, q⟩
  unfold Pindex at hp
  split at hp
  · obtain ⟨_, _, e, r1, r2⟩ := rreps_two rr
    cases e
    split at hp
    · rename_i es d h1 h2
      split at hp
      · rename_i hs
        rw [Option.map_eq_some_iff] at hp
        obtain ⟨j, hj, e⟩ := hp
        cases e
        obtain ⟨a, ys, rfl, h, rs⟩ := rrep_lst le r1
        have hl : Dp X.K H (.ref a) (.list es) := .lst (.inl (.inl h)) (dps_of c.K le rs h1)
        obtain ⟨jl, e1, e2⟩ := List.findIdx?_eq_some_iff_getElem.mp hj
        exact mt_indexD (by have := c.un; omega) pins s σ H _ _ v us Q I rx rxs ⟨a, _, d, es, j, es[j], rfl, rfl, hl, dp_rrep c.K le r2 h2, hs.1, hs.2, by simp [jl], e1, fun m z' hm hz => by
          have hm' : m < es.length := Nat.lt_trans hm jl
          rw [List.getElem?_eq_getElem hm'] at hz
          cases hz
          exact Bool.eq_false_iff.mpr (e2 m hm), int_new le q⟩
      · cases hp
    · cases hp
  · cases hp
end

/-! ### xs[::-1] -/
def Prev : List Val → Option (Bool × Val)
  | [.lst ds] => some (true, .lst ds.reverse)
  | _ => none
section
variable {X : Cx} {A : Act} {W : WX} {x : Expr} {fo : OF} {k0 : Nat} {p1 p2 p3 pos : Pos}
theorem pe_rev (c : Cal X A.w) (h : PE X x (tO A W fo)) : PE X (.Subscript x (.Slice none none (some (.UnaryOp .USub (.Constant (.int 1) k0 p1) p2)) p3) pos) (tE A W (prim Prev (osCons fo osNil))) :=
  PE.imp (pe_revL h) fun σ H Q q => by
    obtain ⟨r, G, k, m⟩ := prim_os1 q
    refine ⟨r, G, k, ?_⟩
    cases hf : fo r with
    | bad => simp only [hf] at m
    | ex e r' => simp only [hf] at m ⊢; exact m
    | ok h r1 =>
      simp only [hf] at m ⊢
      intro x G1 H1 k1 st1 t1
      obtain ⟨G2, vs, o, z, le, rr, hp, q2⟩ := m x G1 H1 k1 st1 t1
      unfold Prev at hp
      split at hp
      · obtain ⟨y, e, r1⟩ := rreps_one rr
        cases e; cases hp
        obtain ⟨a, xs, rfl, h, rs⟩ := rrep_lst le r1
        exact ⟨a, xs, rfl, .inl (.inl h), fun p hp => new_lst le hp (reps_reverse rs) q2⟩
      · cases hp
end

/-! ### a, b = x, y; a, b = e -/
def asg2 (i j : Nat) (g : AF) : SF := fun r => match g r with
  | .ok [v, u] r1 => .nx ((r1.set i (some (false, v))).set j (some (false, u)))
  | .ok _ _ => .bad
  | .ex e r1 => .ex e r1
  | .bad => .bad
def asgT (t : TF) (f : EF) : SF := fun r => match frz f r with
  | .ok _ v r1 => match t v r1 with
    | some r2 => .nx r2
    | none => .bad
  | .ex e r1 => .ex e r1
  | .bad => .bad
section
variable {X : Cx} {A : Act} {W : WX} {e tg a b : Expr} {f : EF} {g : AF} {t : TF} {sl : List Nat} {pos px py pt : Pos} {i j : Nat} {x y : Str} {kt k2 : Nat} {pt2 : Pos}
theorem ps_asgT (he : PE X e (tE A W f)) (hg : PG X tg (tTg A sl t)) (hs : swapsWithSole [tg] e pos.line X.env = pure false := by rfl) (hw : swappedStores [tg] e X.env = pure none := by rfl) (h1 : (assignEach [tg] X.env).map (·.2) = [assign tg X.env] := by rfl) :
    PS X (.Assign [tg] e pos) (tSt A W (asgT t f)) :=
  PS.imp (ps_asg (pe_frz he) hg hs hw h1) fun D σ H h => by
    obtain ⟨r, G, k, m⟩ := tSt_iff.mp h
    refine ⟨r, G, k, ?_⟩
    unfold asgT at m
    cases hf : frz f r with
    | bad => rw [hf] at m; exact m.elim
    | ex e r' => rw [hf] at m; exact m σ
    | ok o v r1 =>
      have eo := frz_false hf
      subst eo
      simp only [hf] at m ⊢
      intro x G1 H1 R
      refine ⟨r1, G1, v, R.ok, R.tr, ?_⟩
      cases ht : t v r1 with
      | none => simp only [ht] at m; exact m.elim
      | some r2 => simp only [ht] at m ⊢; exact fun σ' k' _ _ => m σ' G1 H1 k' R.st.ex
theorem ps_asg2 (hc : X.calm = true) (hN : X.N.Nodup) (hi : X.N[i]? = some x) (hj : X.N[j]? = some y) (hij : i ≠ j) (hx : X.env.scope.names.lookup x = some .local) (hy : X.env.scope.names.lookup y = some .local) (hii : i ∉ A.io) (hjj : j ∉ A.io) (ha : PA X [a, b] (tAs A W g))
    (hw : swappedStores [.Tuple [.Name x px, .Name y py] kt pt] (.Tuple [a, b] k2 pt2) X.env = pure (some [x, y]) := by rfl)
    (hs : swapsWithSole [.Tuple [.Name x px, .Name y py] kt pt] (.Tuple [a, b] k2 pt2) pos.line X.env = pure false := by rfl) :
    PS X (.Assign [.Tuple [.Name x px, .Name y py] kt pt] (.Tuple [a, b] k2 pt2) pos) (tSt A W (asg2 i j g)) :=
  PS.imp (ps_par hc hN hi hj hij hx hy ha hw hs) fun D σ H h => by
    obtain ⟨r, G, k, m⟩ := tSt_iff.mp h
    refine ⟨r, G, k, ?_⟩
    unfold asg2 at m
    cases hf : g r with
    | bad => simp only [hf] at m; exact m.elim
    | ex e r' => simp only [hf] at m ⊢; exact m σ
    | ok vs r1 =>
      simp only [hf] at m ⊢
      intro xs G1 H1 k1 st1 rs
      split at m
      · rename_i v u r2 e
        cases e
        obtain ⟨x1, ys, rfl, q1, rs⟩ := reps_cons.mp rs
        obtain ⟨x2, zs, rfl, q2, rs⟩ := reps_cons.mp rs
        rw [reps_nil] at rs; subst rs
        refine ⟨x1, x2, rfl, m _ G1 H1 ?_ st1.ex⟩
        exact (k1.store (o := false) q1 hii).store (o := false) q2 hjj
      · exact m.elim
      · rename_i e; cases e
      · exact m.elim
end

/-! ### *xs in a display -/
def asStar (f : EF) (g : AF) : AF := fun r => match frz f r with
  | .ok _ v r1 => match Plist [v] with
    | some (true, .lst ds) => match g r1 with
      | .ok vs r2 => .ok (ds ++ vs) r2
      | .ex e r2 => .ex e r2
      | .bad => .bad
    | _ => .bad
  | .ex e r1 => .ex e r1
  | .bad => .bad
section
variable {X : Cx} {A : Act} {W : WX} {e : Expr} {es : List Expr} {f : EF} {g : AF} {p : Pos}
theorem pa_asStar (c : Cal X A.w) (he : PE X e (tE A W f)) (hr : PA X es (tAs A W g)) (hs : starEach (.Starred e p :: es) X.env = (true, eval e X.env) :: starEach es X.env := by rfl) : PA X (.Starred e p :: es) (tAs A W (asStar f g)) :=
  PA.imp (StX.pa_star (pe_frz he) hr hs) fun σ H Q ⟨r, G, k, m⟩ => ⟨r, G, k, by
    unfold asStar at m
    cases hf : frz f r with
    | bad => simp only [hf] at m
    | ex e r' => simp only [hf] at m ⊢; exact m
    | ok o v r1 =>
      have eo := frz_false hf
      subst eo
      simp only [hf] at m ⊢
      intro x G1 H1 R1
      cases hp : Plist [v] with
      | none => simp only [hp] at m
      | some oz =>
        obtain ⟨o, z⟩ := oz
        cases o with
        | false => simp only [hp] at m
        | true =>
          cases z with
          | lst ds =>
            simp only [hp] at m
            obtain ⟨a, xs, rfl, hsq, rs⟩ := rrep_seq c R1.ok.sub (.inl R1.tr) hp
            refine ⟨a, xs, rfl, hsq.symm, r1, G1, R1.ok, ?_⟩
            cases hg : g r1 with
            | bad => simp only [hg] at m
            | ex e r2 => simp only [hg] at m ⊢; exact m.mono R1.st.ex
            | ok vs r2 =>
              simp only [hg] at m ⊢
              intro ys G2 H2 k2 st2 rs2
              exact m (xs ++ ys) G2 H2 k2 (R1.st.trans st2) (reps_append (rs.mono st2.ex) rs2)
          | _ => simp only [hp] at m⟩
end

/-! ### zip -/
def zipV : List Val → List Val → List Val
  | u :: us, v :: vs => .tup [u, v] :: zipV us vs
  | _, _ => []
def zipOf : List Val → Option (List Val)
  | [.tup us, .tup vs] => some (zipV us vs)
  | [.lst us, .lst vs] => some (zipV us vs)
  | _ => none
def itZip (g : AF) : IF := itR zipOf g
theorem zipV_length : ∀ us vs : List Val, (zipV us vs).length = min us.length vs.length
  | [], vs => by simp [zipV]
  | u :: us, [] => by simp [zipV]
  | u :: us, v :: vs => by simp [zipV, zipV_length us vs]
theorem zipV_get : ∀ {us vs : List Val} {i : Nat} {z : Val}, (zipV us vs)[i]? = some z → ∃ u v, us[i]? = some u ∧ vs[i]? = some v ∧ z = .tup [u, v]
  | [], vs, i, z, h => by simp [zipV] at h
  | u :: us, [], i, z, h => by simp [zipV] at h
  | u :: us, v :: vs, 0, z, h => by simp [zipV] at h; exact ⟨u, v, rfl, rfl, h.symm⟩
  | u :: us, v :: vs, i + 1, z, h => by
    obtain ⟨u', v', e1, e2, e3⟩ := zipV_get (us := us) (vs := vs) (i := i) (by simpa [zipV] using h)
    exact ⟨u', v', by simpa using e1, by simpa using e2, e3⟩
section
variable {w : Wd} {K : PySem.W.Frag} {G : Hp} {us vs : List Val} {xs ys : List V} {a b : Addr}
theorem pair_laid {G' H : Hp} {T : Addr} {u v : Val} {x y : V} (le : Le G' H) (hT : H T = none) (r1 : Rep w G' u x) (r2 : Rep w G' v y) : Grow G' H (upd G' T (.tup [x, y])) (upd H T (.tup [x, y])) ∧ Rep w (upd G' T (.tup [x, y])) (.tup [u, v]) (.ref T) := by
  have gr := Grow.laidG (o := .tup [x, y]) le hT
  exact ⟨gr, rep_tup.mpr ⟨T, _, rfl, SqT.of upd_same, reps_cons.mpr ⟨_, _, rfl, r1.mono gr.g, reps_one (r2.mono gr.g)⟩⟩⟩
theorem itok_zipT (ha : SqT K G a xs) (hb : SqT K G b ys) (r1 : Reps w G us xs) (r2 : Reps w G vs ys) : ItOk w (RZ.ItzT K a b) G (zipV us vs) where
  go := fun G' H i le le' hi => by
    rw [zipV_length] at hi
    have l1 : i < xs.length := by rw [← reps_length r1]; omega
    have l2 : i < ys.length := by rw [← reps_length r2]; omega
    exact ⟨xs, ys, xs[i], ys[i], sqt_mono (le.trans le') ha, sqt_mono (le.trans le') hb, by simp [l1], by simp [l2]⟩
  stop := fun G' H i le le' hi => by
    rw [zipV_length, reps_length r1, reps_length r2] at hi
    exact ⟨xs, ys, sqt_mono (le.trans le') ha, sqt_mono (le.trans le') hb, by omega⟩
  yld := fun G' H i z x H' le le' hv ⟨T, p, q, ex, hT, eH, f1, f2⟩ => by
    obtain ⟨u, v, e1, e2, rfl⟩ := zipV_get hv
    obtain ⟨p', g1, g2⟩ := reps_get r1 e1
    obtain ⟨q', g3, g4⟩ := reps_get r2 e2
    rw [f1 xs (sqt_mono (le.trans le') ha)] at g1
    rw [f2 ys (sqt_mono (le.trans le') hb)] at g3
    cases g1; cases g3
    subst ex eH
    exact ⟨_, pair_laid le' hT (g2.mono le) (g4.mono le)⟩
theorem itok_zipL (ha : SqL K G a xs) (hb : SqL K G b ys) (r1 : Reps w G us xs) (r2 : Reps w G vs ys) : ItOk w (Itz K a b) G (zipV us vs) where
  go := fun G' H i le le' hi => by
    rw [zipV_length] at hi
    have l1 : i < xs.length := by rw [← reps_length r1]; omega
    have l2 : i < ys.length := by rw [← reps_length r2]; omega
    exact ⟨xs, ys, xs[i], ys[i], sql_mono (le.trans le') ha, sql_mono (le.trans le') hb, by simp [l1], by simp [l2]⟩
  stop := fun G' H i le le' hi => by
    rw [zipV_length, reps_length r1, reps_length r2] at hi
    exact ⟨xs, ys, sql_mono (le.trans le') ha, sql_mono (le.trans le') hb, by omega⟩
  yld := fun G' H i z x H' le le' hv ⟨T, p, q, ex, hT, eH, f1, f2⟩ => by
    obtain ⟨u, v, e1, e2, rfl⟩ := zipV_get hv
    obtain ⟨p', g1, g2⟩ := reps_get r1 e1
    obtain ⟨q', g3, g4⟩ := reps_get r2 e2
    rw [f1 xs (sql_mono (le.trans le') ha)] at g1
    rw [f2 ys (sql_mono (le.trans le') hb)] at g3
    cases g1; cases g3
    subst ex eH
    exact ⟨_, pair_laid le' hT (g2.mono le) (g4.mono le)⟩
end
section
variable {X : Cx} {A : Act} {W : WX} {e e2 : Expr} {g : AF} {p pos tpos : Pos} {elts : List Expr} {kk : Nat}
theorem pi_zip2 (hw : A.w.K = X.K) (hg : Gl X "zip") (hm : X.mg "zip" = none) (ha : PA X [e, e2] (tAs A W g)) (hs : starEach [e, e2] X.env = (false, eval e X.env) :: starEach [e2] X.env := by rfl) (hpl : (backTo pos (starEach [e2] X.env)).any (·.1) = false := by rfl) :
    PI X (.Tuple elts kk tpos) (.Call (.Name "zip" p) [e, e2] [] pos) (tIt A W (itZip g)) :=
  PI.imp (RZ.pi_zipA hg hm ha hs hpl) fun σ H R ⟨r, G, k, m⟩ => ⟨r, G, k, by
    unfold itZip itR at m
    cases hf : g r with
    | bad => simp only [hf] at m
    | ex e r' => simp only [hf] at m ⊢; exact m
    | ok vs r' =>
      simp only [hf] at m ⊢
      intro xs G1 H1 k1 st1 rs
      have le := k1.sub
      cases hz : zipOf vs with
      | none => simp only [hz] at m
      | some zs =>
        simp only [hz] at m
        unfold zipOf at hz
        split at hz
        · cases hz
          obtain ⟨x1, ys, rfl, q1, rs⟩ := reps_cons.mp rs
          obtain ⟨x2, zs, rfl, q2, rs⟩ := reps_cons.mp rs
          rw [reps_nil] at rs; subst rs
          obtain ⟨a, xs, rfl, sa, ra⟩ := rep_tup.mp q1
          obtain ⟨b, ys, rfl, sb, rb⟩ := rep_tup.mp q2
          rw [hw] at sa sb
          exact ⟨a, b, xs, ys, rfl, .inr ⟨sqt_mono le sa, sqt_mono le sb, m _ G1 H1 k1 st1 (itok_zipT sa sb ra rb)⟩⟩
        · cases hz
          obtain ⟨x1, ys, rfl, q1, rs⟩ := reps_cons.mp rs
          obtain ⟨x2, zs, rfl, q2, rs⟩ := reps_cons.mp rs
          rw [reps_nil] at rs; subst rs
          obtain ⟨a, xs, rfl, sa, ra⟩ := rep_lst.mp q1
          obtain ⟨b, ys, rfl, sb, rb⟩ := rep_lst.mp q2
          exact ⟨a, b, xs, ys, rfl, .inl ⟨.inl (.inl (le _ _ sa)), .inl (.inl (le _ _ sb)), m _ G1 H1 k1 st1 (itok_zipL (K := X.K) (.inl (.inl sa)) (.inl (.inl sb)) ra rb)⟩⟩
        · cases hz⟩
end

/-! ### repr of a dict of scalars and tuples of them -/
mutual
def noLst : PyData → Bool
  | .none => true
  | .bool _ => true
  | .int _ => true
  | .str _ => true
  | .tuple xs => noLsts xs
  | _ => false
def noLsts : List PyData → Bool
  | [] => true
  | x :: xs => noLst x && noLsts xs
end
mutual
theorem reads_free {h : Heap} : ∀ {d : PyData} {u : Value} {as : List Addr}, noLst d = true → Reads h u d as → as = []
  | .none, _, _, _, r => by cases r; rfl
  | .bool _, _, _, _, r => by cases r; rfl
  | .int _, _, _, _, r => by cases r; rfl
  | .str _, _, _, _, r => by cases r; rfl
  | .tuple xs, _, _, f, r => by
    cases r with
    | tuple _ _ _ ra => exact reads_frees (by simpa [noLst] using f) ra
  | .list _, _, _, f, _ => by simp [noLst] at f
  | .dict _, _, _, f, _ => by simp [noLst] at f
theorem reads_frees {h : Heap} : ∀ {ds : List PyData} {us : List Value} {as : List Addr}, noLsts ds = true → ReadsAll h us ds as → as = []
  | [], _, _, _, r => by cases r; rfl
  | d :: ds, _, _, f, r => by
    rw [noLsts, Bool.and_eq_true] at f
    cases r with
    | cons r1 r2 => rw [reads_free f.1 r1, reads_frees f.2 r2]; rfl
end
def keyD : Val → Option PyData
  | .int i => some (.int i)
  | .str s => some (.str s)
  | _ => none
def toDkv : List (Val × Val) → Option (List (PyData × PyData))
  | [] => some []
  | (k, v) :: kvs => match keyD k, toD v, toDkv kvs with
    | some a, some b, some r => some ((a, b) :: r)
    | _, _, _ => none
def PreprD : List Val → Option (Bool × Val)
  | [.dct false kvs] => match toDkv kvs with
    | some ds => if (ds.all fun p => noLst p.2) = true ∧ PyData.showable (.dict ds) = true ∧ (PyData.dict ds).depth ≤ 60 ∧ (PyData.dict ds).shown.length ≤ sizeLine then some (false, .str (PyData.dict ds).shown) else none
    | none => none
  | _ => none
theorem kv_reads {X : Cx} {w : Wd} (c : Cal X w) {pins : List (Addr × Obj)} {s : Shared} {σ : L2.St} {G H : Hp} (I : Inv X pins σ H s) (le : Le G H) : ∀ {kvs : List (Val × Val)} {ds : List (PyData × PyData)} {ks : List (Key × V)} {vs : List (Key × Value)} {es : List DictEntry},
    toDkv kvs = some ds → (ds.all fun p => noLst p.2) = true → RepK w G kvs ks → KV ks vs → PySem.Pairs (mixKind X.prog X.w) es vs → ReadsAll s.heap (es.map (·.key)) (ds.map (·.1)) [] ∧ ReadsAll s.heap (es.map (·.val)) (ds.map (·.2)) []
  | [], ds, ks, vs, es, h, _, r, rel, pr => by
    simp only [toDkv, Option.some.injEq] at h
    subst h
    rw [RepK] at r
    subst r
    cases rel
    cases pr
    exact ⟨.nil, .nil⟩
  | (k, v) :: kvs, ds, ks, vs, es, h, f, r, rel, pr => by
    simp only [toDkv] at h
    split at h
    · rename_i a b rest h1 h2 h3
      cases h
      rw [RepK] at r
      obtain ⟨q, y, ys, rfl, ⟨rfl, _⟩, r1, r2⟩ := r
      rw [List.all_cons, Bool.and_eq_true] at f
      cases rel with
      | @cons _ kvp _ vs' h4 t =>
        cases pr with
        | @cons e _ es' _ hk hv pr' =>
          obtain ⟨i1, i2⟩ := kv_reads c I le h3 f.2 r2 t pr'
          obtain ⟨e4, e5⟩ := h4
          have hk' : L2.keyIs kvp.1 e.key = true := hk
          have rk : Reads s.heap e.key a [] := by
            have e4' : q = kvp.1 := e4
            rw [← e4'] at hk'
            rcases keyIs_shape hk' with ⟨i, t, rfl, e6⟩ | ⟨x, t, rfl, e6⟩
            · rw [e6]
              simp only [kv, keyD, Option.some.injEq] at h1
              subst h1
              exact .int i t
            · rw [e6]
              simp only [kv, keyD, Option.some.injEq] at h1
              subst h1
              exact .str x t
          obtain ⟨as, rv⟩ := Dp.reads I b y e.val (dp_of c.K le r1 h2) (by rw [hv]; exact e5)
          have ea := reads_free f.1 rv
          subst ea
          exact ⟨.cons rk i1, .cons rv i2⟩
    · cases h
theorem bi_reprD {X : Cx} {w : Wd} (c : Cal X w) : CallR X (.builtin "repr") (rOf w PreprD) := by
  intro pins s σ H xs us Q I r ⟨G, vs, o, z, le, rr, hp, q⟩
  unfold PreprD at hp
  split at hp
  · obtain ⟨x, e, r1⟩ := rreps_one rr
    subst e
    split at hp
    · rename_i ds hd
      split at hp
      · rename_i hc
        cases hp
        obtain ⟨h1, h2, h3, h4⟩ := hc
        obtain ⟨a, rfl, ⟨_, ks, hks, rk⟩ | ⟨ht, _⟩⟩ := rrep_dct le r1
        · obtain ⟨u, rfl, ru⟩ := vals1 r
          cases (show u = Value.ref a from ru)
          obtain ⟨_, hsys, vs, rel, ob, es, ep, ho, hx, hdat, _, pr, _⟩ := dk_rd I.hok hks
          obtain ⟨i1, i2⟩ := kv_reads c I le hd h1 rk rel pr
          have rd : Reads s.heap (.ref a) (.dict ds) (a :: [] ++ []) := .dict ho hx.1 hdat i1 i2
          refine PySem.repr_of_reads' rd h2 (fun _ hm => ?_) c.gs (by have := c.un; omega) (fun b o e => e) (fun h' u tk hk => ⟨.str _, H, I.kept (t' := tk) hk, ⟨_, rfl⟩, str_new le h4 q⟩) h4
          have e : sysModules = a := by simpa using hm
          subst e
          simp at hsys
        · cases ht
      · cases hp
    · cases hp
  · cases hp
/-! ### repr of data at any depth, dicts within too -/
mutual
def toE : Val → Option PyData
  | .non => some .none
  | .bl b => some (.bool b)
  | .int i => some (.int i)
  | .str s => some (.str s)
  | .tup ds => (toEs ds).map .tuple
  | .lst ds => (toEs ds).map .list
  | .dct false kvs => (toEk kvs).map .dict
  | _ => none
def toEs : List Val → Option (List PyData)
  | [] => some []
  | v :: vs => match toE v, toEs vs with
    | some d, some ds => some (d :: ds)
    | _, _ => none
def toEk : List (Val × Val) → Option (List (PyData × PyData))
  | [] => some []
  | (k, v) :: kvs => match keyD k, toE v, toEk kvs with
    | some a, some b, some r => some ((a, b) :: r)
    | _, _, _ => none
end
theorem Cal.noSys {X : Cx} {w : Wd} {pins : List (Addr × Obj)} {s : Shared} {σ : L2.St} {H : Hp} (c : Cal X w) (I : Inv X pins σ H s) {a : Addr} {o : HO} (h : H a = some o) : sysModules ≠ a := fun e => by
  subst e
  obtain ⟨ob, e⟩ := Option.isSome_iff_exists.mp c.sy
  have := (I.bs _ _ (I.mod.kin _ _ e)).2
  rw [h] at this; cases this
section
variable {X : Cx} {w : Wd} {pins : List (Addr × Obj)} {s : Shared} {σ : L2.St} {G H : Hp}
mutual
theorem reads_e (c : Cal X w) (I : Inv X pins σ H s) (le : Le G H) : ∀ {v : Val} {x : V} {d : PyData} {u : Value}, toE v = some d → Rep w G v x → RelV x u → ∃ as, Reads s.heap u d as ∧ sysModules ∉ as
  | .non, _, _, _, e, r, ru => by rw [toE] at e; cases e; rw [rep_non.mp r] at ru; cases ru; exact ⟨_, .none, by simp⟩
  | .bl b, _, _, _, e, r, ru => by rw [toE] at e; cases e; rw [rep_bl.mp r] at ru; cases ru; exact ⟨_, .bool b, by simp⟩
  | .int i, _, _, _, e, r, ru => by rw [toE] at e; cases e; rw [rep_int.mp r] at ru; obtain ⟨t, rfl⟩ := ru; exact ⟨_, .int i t, by simp⟩
  | .str y, _, _, _, e, r, ru => by rw [toE] at e; cases e; rw [(rep_str.mp r).1] at ru; obtain ⟨t, rfl⟩ := ru; exact ⟨_, .str y t, by simp⟩
  | .tup ds, _, _, _, e, r, ru => by
    rw [toE, Option.map_eq_some_iff] at e
    obtain ⟨es, e, rfl⟩ := e
    obtain ⟨a, xs, rfl, q, r⟩ := rep_tup.mp r
    cases ru
    obtain ⟨its, rv, ⟨o, ho, hc, n, hd⟩, _⟩ := I.tuple (by rw [← c.K]; exact sqt_mono le q)
    obtain ⟨as, hr, hs⟩ := reads_es c I le e r rv
    exact ⟨_, .tuple ho hc hd hr, hs⟩
  | .lst ds, _, _, _, e, r, ru => by
    rw [toE, Option.map_eq_some_iff] at e
    obtain ⟨es, e, rfl⟩ := e
    obtain ⟨a, xs, rfl, q, r⟩ := rep_lst.mp r
    cases ru
    obtain ⟨its, rv, ⟨o, n, ho, hc, _, hd⟩, _⟩ := I.list (.inl (.inl (le _ _ q)))
    obtain ⟨as, hr, hs⟩ := reads_es c I le e r rv
    exact ⟨_, .list ho hc hd hr, by rw [List.mem_cons, not_or]; exact ⟨c.noSys I (le _ _ q), hs⟩⟩
  | .dct true _, _, _, _, e, _, _ => by simp [toE] at e
  | .dct false kvs, _, _, _, e, r, ru => by
    rw [toE, Option.map_eq_some_iff] at e
    obtain ⟨es, e, rfl⟩ := e
    rw [Rep] at r
    obtain ⟨a, rfl, ⟨_, ks, oo, hks, rk⟩ | ⟨ht, _⟩⟩ := r
    · cases ru
      obtain ⟨_, hsys, vs, rel, ob, es, ep, ho, hx, hdat, _, pr, _⟩ := dk_rd I.hok (.inr ⟨oo, le _ _ hks⟩)
      obtain ⟨as, bs, i1, i2, n1, n2⟩ := reads_ek c I le e rk rel pr
      refine ⟨_, .dict ho hx.1 hdat i1 i2, ?_⟩
      rw [List.mem_append, List.mem_cons]
      rintro ((z | z) | z)
      · subst z; simp at hsys
      · exact n1 z
      · exact n2 z
    · cases ht
  | .scr _, _, _, _, e, _, _ => by simp [toE] at e
  | .obj _ _, _, _, _, e, _, _ => by simp [toE] at e
  | .ty _, _, _, _, e, _, _ => by simp [toE] at e
  | .cls _, _, _, _, e, _, _ => by simp [toE] at e
  | .exc _ _, _, _, _, e, _, _ => by simp [toE] at e
theorem reads_es (c : Cal X w) (I : Inv X pins σ H s) (le : Le G H) : ∀ {ds : List Val} {xs : List V} {es : List PyData} {us : List Value}, toEs ds = some es → Reps w G ds xs → Vals xs us → ∃ as, ReadsAll s.heap us es as ∧ sysModules ∉ as
  | [], _, _, _, e, r, ru => by
    rw [toEs] at e; cases e
    rw [reps_nil] at r; subst r
    cases ru
    exact ⟨_, .nil, by simp⟩
  | v :: vs, _, _, _, e, r, ru => by
    rw [toEs] at e
    split at e
    · rename_i d ds h1 h2
      cases e
      obtain ⟨y, ys, rfl, r1, r2⟩ := reps_cons.mp r
      cases ru with
      | cons q1 q2 =>
        obtain ⟨as, i1, n1⟩ := reads_e c I le h1 r1 q1
        obtain ⟨bs, i2, n2⟩ := reads_es c I le h2 r2 q2
        exact ⟨_, .cons i1 i2, by rw [List.mem_append]; rintro (z | z); exact n1 z; exact n2 z⟩
    · cases e
theorem reads_ek (c : Cal X w) (I : Inv X pins σ H s) (le : Le G H) : ∀ {kvs : List (Val × Val)} {ds : List (PyData × PyData)} {ks : List (Key × V)} {vs : List (Key × Value)} {es : List DictEntry},
    toEk kvs = some ds → RepK w G kvs ks → KV ks vs → PySem.Pairs (mixKind X.prog X.w) es vs → ∃ as bs, ReadsAll s.heap (es.map (·.key)) (ds.map (·.1)) as ∧ ReadsAll s.heap (es.map (·.val)) (ds.map (·.2)) bs ∧ sysModules ∉ as ∧ sysModules ∉ bs
  | [], ds, ks, vs, es, h, r, rel, pr => by
    rw [toEk, Option.some.injEq] at h
    subst h
    rw [RepK] at r
    subst r
    cases rel
    cases pr
    exact ⟨_, _, .nil, .nil, by simp, by simp⟩
  | (k, v) :: kvs, ds, ks, vs, es, h, r, rel, pr => by
    rw [toEk] at h
    split at h
    · rename_i a b rest h1 h2 h3
      cases h
      rw [RepK] at r
      obtain ⟨q, y, ys, rfl, ⟨rfl, _⟩, r1, r2⟩ := r
      cases rel with
      | @cons _ kvp _ vs' h4 t =>
        cases pr with
        | @cons e _ es' _ hk hv pr' =>
          obtain ⟨as, bs, i1, i2, n1, n2⟩ := reads_ek c I le h3 r2 t pr'
          obtain ⟨e4, e5⟩ := h4
          have hk' : L2.keyIs kvp.1 e.key = true := hk
          have rk : Reads s.heap e.key a [] := by
            have e4' : q = kvp.1 := e4
            rw [← e4'] at hk'
            rcases keyIs_shape hk' with ⟨i, t, rfl, e6⟩ | ⟨x, t, rfl, e6⟩
            · rw [e6]
              simp only [kv, keyD, Option.some.injEq] at h1
              subst h1
              exact .int i t
            · rw [e6]
              simp only [kv, keyD, Option.some.injEq] at h1
              subst h1
              exact .str x t
          obtain ⟨cs, rv, n3⟩ := reads_e c I le (u := e.val) h2 r1 (by rw [hv]; exact e5)
          exact ⟨_, _, .cons rk i1, .cons rv i2, by simpa using n1, by rw [List.mem_append]; rintro (z | z); exact n3 z; exact n2 z⟩
    · cases h
end
end
def isBox : Val → Bool
  | .tup _ => true
  | .lst _ => true
  | .dct _ _ => true
  | _ => false
def PreprG : List Val → Option (Bool × Val)
  | [v] => match toE v with
    | some d => if isBox v = true ∧ d.showable = true ∧ d.depth ≤ 60 ∧ d.shown.length ≤ sizeLine then some (false, .str d.shown) else none
    | none => none
  | _ => none
/-- what can be read, may be read as frozen -/
theorem reads_r {X : Cx} {w : Wd} {pins : List (Addr × Obj)} {s : Shared} {σ : L2.St} {G H : Hp} (c : Cal X w) (I : Inv X pins σ H s) (le : Le G H) {v : Val} {x : V} {d : PyData} {u : Value} (hb : isBox v = true) (e : toE v = some d) (r : RRep w G H v x) (ru : RelV x u) : ∃ a as, u = .ref a ∧ Reads s.heap (.ref a) d as ∧ sysModules ∉ as := by
  cases v with
  | tup ds =>
    have r' : Rep w G (.tup ds) x := r.elim id fun ⟨_, _, z⟩ => z.elim
    obtain ⟨as, q, n⟩ := reads_e c I le e r' ru
    obtain ⟨a, xs, rfl, _⟩ := rep_tup.mp r'
    cases ru
    exact ⟨a, as, rfl, q, n⟩
  | lst ds =>
    rw [toE, Option.map_eq_some_iff] at e
    obtain ⟨es, e, rfl⟩ := e
    obtain ⟨a, xs, rfl, q, r⟩ := rrep_lst le r
    cases ru
    obtain ⟨its, rv, ⟨o, n, ho, hc, _, hd⟩, _⟩ := I.list (.inl (.inl q))
    obtain ⟨as, hr, hs⟩ := reads_es c I le e r rv
    exact ⟨a, _, rfl, .list ho hc hd hr, by rw [List.mem_cons, not_or]; exact ⟨c.noSys I q, hs⟩⟩
  | dct t kvs =>
    cases t with
    | true => simp [toE] at e
    | false =>
      rw [toE, Option.map_eq_some_iff] at e
      obtain ⟨es, e, rfl⟩ := e
      obtain ⟨a, rfl, ⟨_, ks, hks, rk⟩ | ⟨ht, _⟩⟩ := rrep_dct le r
      · cases ru
        obtain ⟨_, hsys, vs, rel, ob, es, ep, ho, hx, hdat, _, pr, _⟩ := dk_rd I.hok hks
        obtain ⟨as, bs, i1, i2, n1, n2⟩ := reads_ek c I le e rk rel pr
        refine ⟨a, _, rfl, .dict ho hx.1 hdat i1 i2, ?_⟩
        rw [List.mem_append, List.mem_cons]
        rintro ((z | z) | z)
        · subst z; simp at hsys
        · exact n1 z
        · exact n2 z
      · cases ht
  | _ => cases hb
theorem bi_reprG {X : Cx} {w : Wd} (c : Cal X w) : CallR X (.builtin "repr") (rOf w PreprG) := by
  intro pins s σ H xs us Q I r ⟨G, vs, o, z, le, rr, hp, q⟩
  unfold PreprG at hp
  split at hp
  · obtain ⟨x, e, r1⟩ := rreps_one rr
    subst e
    split at hp
    · rename_i d hd
      split at hp
      · rename_i hc
        cases hp
        obtain ⟨h0, h1, h3, h4⟩ := hc
        obtain ⟨u, rfl, ru⟩ := vals1 r
        obtain ⟨a, as, rfl, rd, ns⟩ := reads_r c I le h0 hd r1 ru
        exact PySem.repr_of_reads' rd h1 (fun _ => ns) c.gs (by have := c.un; omega) (fun b o e => e) (fun h' u tk hk => ⟨.str _, H, I.kept (t' := tk) hk, ⟨_, rfl⟩, str_new le h4 q⟩) h4
      · cases hp
    · cases hp
  · cases hp
def PreprX := orP PreprD (orP Prepr PreprG)
theorem bi_reprX {X : Cx} {w : Wd} (c : Cal X w) : CallR X (.builtin "repr") (rOf w PreprX) := cr_or (bi_reprD c) (cr_or (bi_repr c) (bi_reprG c))

/-! ### == of two texts, of two numbers: no condition -/
def PeqS : List Val → Option (Bool × Val)
  | [.str a, .str b] => some (false, .bl (a == b))
  | [.int a, .int b] => some (false, .bl (a == b))
  | _ => none
def PneS : List Val → Option (Bool × Val)
  | [.str a, .str b] => some (false, .bl (!(a == b)))
  | [.int a, .int b] => some (false, .bl (!(a == b)))
  | _ => none
section
variable {X : Cx} {w : Wd}
theorem opr_eqS : OpR X (compareOp .Eq) (r2Of w PeqS) := by
  intro pins s σ H x y v u Q I rx ry ⟨G, vs, o, z, le, rr, hp, q⟩
  unfold PeqS at hp
  split at hp
  · obtain ⟨_, _, e, r1, r2⟩ := rreps_two rr
    cases e; cases hp
    obtain ⟨rfl, _⟩ := rrep_str r1; obtain ⟨rfl, _⟩ := rrep_str r2
    exact op_eq pins s σ H _ _ v u Q I rx ry ⟨rfl, by rw [dec_str]; exact bl_new le q⟩
  · obtain ⟨_, _, e, r1, r2⟩ := rreps_two rr
    cases e; cases hp
    obtain rfl := rrep_int r1; obtain rfl := rrep_int r2
    exact op_eq pins s σ H _ _ v u Q I rx ry ⟨rfl, by rw [dec_int]; exact bl_new le q⟩
  · cases hp
theorem opr_neS : OpR X (compareOp .NotEq) (r2Of w PneS) := by
  intro pins s σ H x y v u Q I rx ry ⟨G, vs, o, z, le, rr, hp, q⟩
  unfold PneS at hp
  split at hp
  · obtain ⟨_, _, e, r1, r2⟩ := rreps_two rr
    cases e; cases hp
    obtain ⟨rfl, _⟩ := rrep_str r1; obtain ⟨rfl, _⟩ := rrep_str r2
    exact op_ne pins s σ H _ _ v u Q I rx ry ⟨rfl, by rw [dec_str]; exact bl_new le q⟩
  · obtain ⟨_, _, e, r1, r2⟩ := rreps_two rr
    cases e; cases hp
    obtain rfl := rrep_int r1; obtain rfl := rrep_int r2
    exact op_ne pins s σ H _ _ v u Q I rx ry ⟨rfl, by rw [dec_int]; exact bl_new le q⟩
  · cases hp
def PeqX := orP PeqS Peq
def PneX := orP PneS Pne
theorem opr_eqX (c : Cal X w) : OpR X (compareOp .Eq) (r2Of w PeqX) := opr_or opr_eqS (opr_eq c)
theorem opr_neX (c : Cal X w) : OpR X (compareOp .NotEq) (r2Of w PneX) := opr_or opr_neS (opr_ne c)
end
end M
/-! MPL: plain lemmas over values. -/
namespace M
open PySem L2
theorem toDs_ints : ∀ cs : List Int, toDs (cs.map .int) = some (cs.map .int)
  | [] => rfl
  | c :: cs => by rw [List.map_cons, toDs, toDs_ints cs]; rfl
theorem shp_ints (cs : List Int) : shp (.list (cs.map .int)) = true := by
  have h1 : ∀ cs : List Int, PyData.canLayAll0 (cs.map .int) = true := fun cs => by
    induction cs with
    | nil => simp [PyData.canLayAll0]
    | cons c cs ih => simp [PyData.canLayAll0, PyData.canLay0]; simpa using ih
  have h2 : ∀ cs : List Int, PyData.depthAll (cs.map .int) = 0 := fun cs => by
    induction cs with
    | nil => simp [PyData.depthAll]
    | cons c cs ih => simp [PyData.depthAll, PyData.depth]; simpa using ih
  show SeqAt.shaped _ = true
  unfold SeqAt.shaped
  simp only [PyData.canLay0, PyData.depth, h1, h2]
  decide
theorem pne_nil (cs : List Int) : Pne [.lst (cs.map .int), .lst []] = some (false, .bl (decide (cs ≠ []))) := by
  have h1 := shp_ints cs
  have h2 := shp_ints []
  simp only [List.map_nil] at h2
  cases cs with
  | nil => simp [Pne, toD, toDs, h2, PyData.eqv, PyData.eqvAll]
  | cons c cs =>
    simp only [List.map_cons] at h1
    simp [Pne, toD, toDs, toDs_ints, h1, h2, PyData.eqv, PyData.eqvAll]
theorem ix_mod (cs : List Int) (t : Int) (h : cs ≠ []) (ht : 0 ≤ t) : ∃ c, Pix [.lst (cs.map .int), .int (t % (cs.length : Int))] = some (false, .int c) := by
  have hl : 0 < cs.length := List.length_pos_iff.mpr h
  have h1 : 0 ≤ t % (cs.length : Int) := Int.emod_nonneg _ (by omega)
  have h2 : t % (cs.length : Int) < cs.length := Int.emod_lt_of_pos _ (by omega)
  have h3 : (t % (cs.length : Int)).toNat < cs.length := by omega
  exact ⟨cs[(t % (cs.length : Int)).toNat], by simp [Pix, atI, ixN, h1, h2, h3]⟩
theorem mul_ok {i j : Int} (h0 : 0 ≤ j) (h : j < 2 ^ 64 - 1) : mulOk i j = true := mulOk_iff.mpr (.inr ⟨by omega, h⟩)
theorem mul_okL {i j : Int} (h0 : 0 ≤ i) (h : i < 2 ^ 64 - 1) : mulOk i j = true := mulOk_iff.mpr (.inl ⟨by omega, h⟩)
theorem small_ok {n : Nat} {j : Int} (h0 : 0 ≤ j) (h : j ≤ (n : Int)) : smallI n j = true := smallI_iff.mpr ⟨by omega, h⟩
def good (s : Str) : Prop := s.length ≤ 100000 ∧ ∀ c ∈ s.cps.toList, c < 0x110000
def one (c : Nat) : Str := ⟨#[c]⟩
theorem len_list (s : Str) : s.cps.toList.length = s.length := by rw [Array.length_toList]; rfl
/-- a comprehension whose turns leave the slots as they were -/
theorem lcL_map {α : Type} {t : TF} {c : BF} {f : EF} {sl : List Nat} {env : M.Env} (y z : α → Val) (p : α → Bool) : ∀ (xs : List α) (acc : List Val),
    (∀ x ∈ xs, ∃ r1, t (y x) env = some r1 ∧ c r1 = .ok (p x) r1 ∧ wipeR r1 sl = env ∧ (p x = true → ∃ o r3, frz f r1 = .ok o (z x) r3 ∧ wipeR r3 sl = env)) → acc.length + xs.length ≤ 100000 →
    lcL t c f sl (xs.map y) acc env = .ok (acc ++ (xs.filter p).map z) env
  | [], acc, _, _ => by simp [lcL]
  | x :: xs, acc, h, hl => by
    obtain ⟨r1, e1, e2, e3, e4⟩ := h x (by simp)
    have hx := fun x' hx' => h x' (List.mem_cons_of_mem _ hx')
    rw [List.length_cons] at hl
    rw [List.map_cons, lcL]
    cases hp : p x with
    | false =>
      rw [hp] at e2
      simp only [e1, e2, e3]
      rw [lcL_map y z p xs acc hx (by omega), List.filter_cons_of_neg (by simp [hp])]
    | true =>
      rw [hp] at e2
      obtain ⟨o, r3, e5, e6⟩ := e4 hp
      have ha : acc.length < 100000 := by omega
      simp only [e1, e2, e5, e6, if_pos ha]
      rw [lcL_map y z p xs (acc ++ [z x]) hx (by simp; omega), List.filter_cons_of_pos (by simp [hp])]
      simp
theorem asBls_map : ∀ bs : List Bool, asBls (bs.map Val.bl) = some bs
  | [] => rfl
  | b :: bs => by simp [asBls, asBls_map bs]
theorem asBls_comp {α : Type} (f : α → Bool) (xs : List α) : asBls (xs.map (Val.bl ∘ f)) = some (xs.map f) := by
  rw [← List.map_map, asBls_map]
theorem toDs_strs : ∀ ss : List Str, toDs (ss.map Val.str) = some (ss.map PyData.str)
  | [] => rfl
  | s :: ss => by simp [toDs, toD, toDs_strs ss]
theorem shp_strs (ss : List Str) (h : ∀ s ∈ ss, ∀ c ∈ s.cps.toList, c < 0x110000) : shp (.list (ss.map .str)) = true := by
  have h1 : ∀ ss : List Str, (∀ s ∈ ss, ∀ c ∈ s.cps.toList, c < 0x110000) → PyData.canLayAll0 (ss.map .str) = true := fun ss => by
    induction ss with
    | nil => intro _; simp [PyData.canLayAll0]
    | cons s ss ih =>
      intro h
      have hs : PyData.strOk s = true := by
        unfold PyData.strOk
        rw [Array.all_eq_true_iff_forall_mem]
        intro c hc
        exact decide_eq_true (h s (by simp) c (by simpa using hc))
      simp [PyData.canLayAll0, PyData.canLay0, hs, ih fun s' hs' => h s' (by simp [hs'])]
  have h2 : ∀ ss : List Str, PyData.depthAll (ss.map .str) = 0 := fun ss => by
    induction ss with
    | nil => simp [PyData.depthAll]
    | cons s ss ih => simp [PyData.depthAll, PyData.depth, ih]
  show SeqAt.shaped _ = true
  unfold SeqAt.shaped
  simp only [PyData.canLay0, PyData.depth, h1 ss h, h2]
  decide
theorem peq_nil (ss : List Str) (h : ∀ s ∈ ss, ∀ c ∈ s.cps.toList, c < 0x110000) : Peq [.lst (ss.map .str), .lst []] = some (false, .bl (decide (ss = []))) := by
  have h1 := shp_strs ss h
  have h2 := shp_strs [] (by simp)
  simp only [List.map_nil] at h2
  cases ss with
  | nil => simp [Peq, toD, toDs, h2, PyData.eqv, PyData.eqvAll]
  | cons c cs =>
    simp only [List.map_cons] at h1
    simp [Peq, toD, toDs, toDs_strs, h1, h2, PyData.eqv, PyData.eqvAll]
theorem shp_int (i : Int) : shp (.int i) = true := by
  show SeqAt.shaped _ = true
  simp [SeqAt.shaped, PyData.canLay0, PyData.depth]
theorem peq_int (i j : Int) : Peq [.int i, .int j] = some (false, .bl (i == j)) := by simp [Peq, toD, shp_int, PyData.eqv]
theorem signs_one (s : Str) : signs s = s.cps.toList.map fun c => .str (one c) := rfl
theorem toDs_strsC {α : Type} (f : α → Str) (xs : List α) : toDs (xs.map (Val.str ∘ f)) = some (xs.map (PyData.str ∘ f)) := by
  rw [← List.map_map, toDs_strs, List.map_map]
theorem good_of {s : Str} (h : (decide (s.length ≤ 100000) && s.cps.toList.all fun c => decide (c < 0x110000)) = true) : good s := by
  rw [Bool.and_eq_true, List.all_eq_true] at h
  exact ⟨of_decide_eq_true h.1, fun c hc => of_decide_eq_true (h.2 c hc)⟩
theorem good_app {s t : Str} (hs : good s) (ht : good t) (h : s.length + t.length ≤ 100000) : good (s ++ t) := by
  refine ⟨by rw [str_len_app]; exact h, fun c hc => ?_⟩
  have : (s ++ t).cps.toList = s.cps.toList ++ t.cps.toList := by
    show (s.cps ++ t.cps).toList = _
    simp
  rw [this, List.mem_append] at hc
  exact hc.elim (hs.2 c) (ht.2 c)
theorem good_cut {s : Str} (lo hi : Option Int) (hs : good s) : good (cutS s lo hi) := by
  refine ⟨Nat.le_trans (cutS_length s lo hi) hs.1, fun c hc => hs.2 c ?_⟩
  have hc' : c ∈ (s.cps.toList.drop (HT.sIx s.length 0 lo)).take (HT.sIx s.length s.length hi - HT.sIx s.length 0 lo) := hc
  exact List.mem_of_mem_drop (List.mem_of_mem_take hc')
theorem good_one {c : Nat} (h : c < 0x110000) : good (one c) := ⟨by show 1 ≤ 100000; decide, fun d hd => by
  have : d = c := by simpa [one] using hd
  rw [this]; exact h⟩
theorem good_rep {s : Str} (n : Nat) (hs : good s) (h : s.length * n ≤ 100000) : good (repS s n) := by
  refine ⟨by rw [repS_length]; exact h, fun c hc => ?_⟩
  have hc' : c ∈ (List.replicate n s.cps.toList).flatten := by simpa [repS] using hc
  obtain ⟨l, hl, hcl⟩ := List.mem_flatten.mp hc'
  rw [List.eq_of_mem_replicate hl] at hcl
  exact hs.2 c hcl
theorem joinL_nil : ∀ l : List (List Nat), TL.joinL [] l = l.flatten
  | [] => rfl
  | [p] => by simp [TL.joinL]
  | p :: q :: r => by
    have ih := joinL_nil (q :: r)
    rw [TL.joinL, ih]; simp
theorem join_tl (ys : List Str) : (Txt.join "" ys).cps.toList = (ys.map fun y => y.cps.toList).flatten := by
  have e : Txt.join "" ys = Str.join "" ys := PySem.StrLaws.glued_eq_join "" ys
  rw [e]
  have := TL.tl_join "" ys
  rw [← joinL_nil]
  exact this

theorem pix_str (A : Str) (d : Int) (h0 : 0 ≤ d) (h1 : d < A.length) (hA : ∀ c ∈ A.cps.toList, c < 0x110000) : ∃ c, Pix [.str A, .int d] = some (false, .str (one c)) ∧ c < 0x110000 := by
  have hl := len_list A
  have h2 : d.toNat < A.cps.toList.length := by omega
  have h3 : d < (A.cps.toList.length : Int) := by omega
  refine ⟨A.cps.toList[d.toNat], ?_, hA _ (List.getElem_mem h2)⟩
  show Option.map _ (atI A.cps.toList d) = _
  unfold atI ixN
  rw [if_pos h0, if_pos h3]
  simp only [Option.bind_some, List.getElem?_eq_getElem h2, Option.map_some]
  rfl
theorem shown_bl (b : Bool) : ∃ x : Str, Prepr [.bl b] = some (false, .str x) ∧ Pne [.str x, .str x] = some (false, .bl false) := by
  have key : ∀ x : Str, PyData.strOk x = true → Pne [.str x, .str x] = some (false, .bl false) := fun x hx => by
    have : shp (.str x) = true := by
      show SeqAt.shaped _ = true
      simp [SeqAt.shaped, PyData.canLay0, PyData.depth, hx]
    simp [Pne, toD, this, PyData.eqv]
  cases b with
  | true => exact ⟨"True", by simp [Prepr, toD, PyData.showable, PyData.hasDict, PyData.depth, PyData.shown]; decide +kernel, key _ (by decide +kernel)⟩
  | false => exact ⟨"False", by simp [Prepr, toD, PyData.showable, PyData.hasDict, PyData.depth, PyData.shown]; decide +kernel, key _ (by decide +kernel)⟩
theorem asStrs_one (ys : List Nat) : asStrs (ys.map fun c => .str (one c)) = some (ys.map one) := by
  induction ys with
  | nil => rfl
  | cons c ys ih => rw [List.map_cons, asStrs, ih]; rfl
theorem flat_one (ys : List Nat) : ((ys.map one).map fun y => y.cps.toList).flatten = ys := by
  induction ys with
  | nil => rfl
  | cons c ys ih => simp only [List.map_cons, List.flatten_cons, ih]; rfl
theorem pjoin_ok (ys : List Nat) (h : ys.length ≤ 10) (hc : ∀ c ∈ ys, c < 0x110000) : ∃ w : Str, Pjoin [.str "", .lst (ys.map fun c => .str (one c))] = some (false, .str w) ∧ w.length = ys.length ∧ good w := by
  have e := join_tl (ys.map one)
  rw [flat_one] at e
  have l1 : (Txt.join "" (ys.map one)).length = ys.length := by rw [← len_list, e]
  have l2 : ((ys.map one).map (·.length)).sum = ys.length := by
    clear e l1 h hc
    induction ys with
    | nil => rfl
    | cons c ys ih => simp only [List.map_cons, List.sum_cons, ih, List.length_cons]; show 1 + ys.length = _; omega
  have l3 : ("" : Str).length = 0 := by decide
  refine ⟨_, ?_, l1, by rw [l1]; omega, fun c hc' => hc c (by rw [e] at hc'; exact hc')⟩
  unfold Pjoin
  simp only [asStrs_one]
  rw [if_pos]
  refine ⟨by rw [l2, l3]; omega, by rw [l1]; exact Nat.le_trans h (by decide)⟩
theorem padd_str (a b : Str) (h : a.length + b.length ≤ 100000) : Padd [.str a, .str b] = some (false, .str (a ++ b)) := by
  have : a.length + b.length ≤ sizeLine := line_of h
  simp [Padd, this]
end M
/-! MPC: calls of the program's own defs, with keywords too. -/
namespace M
open PySem L2

/-! ### operands behind operands, in another order -/
def osApp (f g : OsF) : OsF := fun r => match f r with
  | .ok hs r1 => match g r1 with
    | .ok ks r2 => .ok (hs ++ ks) r2
    | .ex e r2 => .ex e r2
    | .bad => .bad
  | .ex e r1 => .ex e r1
  | .bad => .bad
/-- the places ix of a list -/
def pick {α : Type} (ix : List Nat) (l : List α) : Option (List α) := match ix with
  | [] => some []
  | i :: ix => match l[i]?, pick ix l with
    | some x, some xs => some (x :: xs)
    | _, _ => none
def osN (n : Nat) (f : OsF) : OsF := fun r => match f r with
  | .ok hs r1 => if hs.length = n then .ok hs r1 else .bad
  | .ex e r1 => .ex e r1
  | .bad => .bad
def osPick (ix : List Nat) (f : OsF) : OsF := fun r => match f r with
  | .ok hs r1 => match pick ix hs with
    | some ks => .ok ks r1
    | none => .bad
  | .ex e r1 => .ex e r1
  | .bad => .bad
section
variable {A : Act} {W : WX} {G H : Hp} {σ : L2.St} {r : Env} {f g : OsF}
theorem hreps_app : ∀ {hs ks : List Hd} {xs ys : List V}, HReps A G H σ r hs xs → HReps A G H σ r ks ys → HReps A G H σ r (hs ++ ks) (xs ++ ys)
  | [], _, _, _, h, q => by have h' : _ = [] := h; subst h'; exact q
  | h :: hs, ks, _, ys, ⟨y, zs, e, a, b⟩, q => by subst e; exact ⟨y, zs ++ ys, rfl, a, hreps_app b q⟩
theorem hreps_get : ∀ {hs : List Hd} {xs : List V} {i : Nat} {h : Hd}, HReps A G H σ r hs xs → hs[i]? = some h → ∃ x, xs[i]? = some x ∧ HRep A G H σ r h x
  | [], _, _, _, _, e => by simp at e
  | h :: hs, _, 0, _, ⟨y, zs, e, a, b⟩, q => by subst e; simp at q; subst q; exact ⟨y, rfl, a⟩
  | h :: hs, _, i + 1, _, ⟨y, zs, e, a, b⟩, q => by subst e; obtain ⟨x, h1, h2⟩ := hreps_get b (i := i) (by simpa using q); exact ⟨x, by simpa using h1, h2⟩
theorem hreps_pick {hs : List Hd} {xs : List V} (q : HReps A G H σ r hs xs) : ∀ {ix : List Nat} {ks : List Hd}, pick ix hs = some ks → ∃ ys, pick ix xs = some ys ∧ HReps A G H σ r ks ys
  | [], ks, e => by simp only [pick, Option.some.injEq] at e; subst e; exact ⟨[], rfl, rfl⟩
  | i :: ix, ks, e => by
    simp only [pick] at e
    split at e
    · rename_i h hs' h1 h2
      cases e
      obtain ⟨x, e1, e2⟩ := hreps_get q h1
      obtain ⟨ys, e3, e4⟩ := hreps_pick q h2
      exact ⟨x :: ys, by simp only [pick, e1, e3], x, ys, rfl, e2, e4⟩
    · cases e
theorem os_app {H : Hp} {Q : List V → Hp → Prop} (h : tOs A W (osApp f g) σ H Q) : tOs A W f σ H fun xs H1 => tOs A W g σ H1 fun ys H2 => Q (xs ++ ys) H2 := by
  obtain ⟨r, G, k, m⟩ := h
  refine ⟨r, G, k, ?_⟩
  unfold osApp at m
  cases hf : f r with
  | bad => rw [hf] at m; exact m.elim
  | ex e r' => rw [hf] at m; exact m
  | ok hs r1 =>
    simp only [hf] at m
    intro xs G1 H1 k1 st1 t1
    refine ⟨r1, G1, k1, ?_⟩
    cases hg : g r1 with
    | bad => simp only [hg] at m
    | ex e r2 => simp only [hg] at m ⊢; exact m.mono st1.ex
    | ok ks r2 =>
      simp only [hg] at m ⊢
      intro ys G2 H2 k2 st2 t2
      exact m (xs ++ ys) G2 H2 k2 (st1.trans st2) (hreps_app (t1.step st2) t2)
theorem hreps_len : ∀ {hs : List Hd} {xs : List V}, HReps A G H σ r hs xs → xs.length = hs.length
  | [], _, h => by have h' : _ = [] := h; subst h'; rfl
  | h :: hs, _, ⟨y, zs, e, a, b⟩ => by subst e; simp [hreps_len b]
theorem os_N {n : Nat} {H : Hp} {Q : List V → Hp → Prop} (h : tOs A W (osN n f) σ H Q) : tOs A W f σ H fun xs H1 => xs.length = n ∧ Q xs H1 := by
  obtain ⟨r, G, k, m⟩ := h
  refine ⟨r, G, k, ?_⟩
  unfold osN at m
  cases hf : f r with
  | bad => rw [hf] at m; exact m.elim
  | ex e r' => rw [hf] at m; exact m
  | ok hs r1 =>
    simp only [hf] at m
    by_cases hn : hs.length = n
    · simp only [if_pos hn] at m
      intro xs G1 H1 k1 st1 t1
      exact ⟨(hreps_len t1).trans hn, m xs G1 H1 k1 st1 t1⟩
    · simp only [if_neg hn] at m
theorem os_pick {ix : List Nat} {H : Hp} {Q : List V → Hp → Prop} (h : tOs A W (osPick ix f) σ H Q) : tOs A W f σ H fun xs H1 => ∃ ys, pick ix xs = some ys ∧ Q ys H1 := by
  obtain ⟨r, G, k, m⟩ := h
  refine ⟨r, G, k, ?_⟩
  unfold osPick at m
  cases hf : f r with
  | bad => rw [hf] at m; exact m.elim
  | ex e r' => rw [hf] at m; exact m
  | ok hs r1 =>
    simp only [hf] at m
    intro xs G1 H1 k1 st1 t1
    cases hp : pick ix hs with
    | none => simp only [hp] at m
    | some ks =>
      simp only [hp] at m
      obtain ⟨ys, e, q⟩ := hreps_pick t1 hp
      exact ⟨ys, e, m ys G1 H1 k1 st1 q⟩
end

/-- how the keywords ks go to the parameters: the values us of the positional ones and ws of the keywords, picked by ix -/
structure BindK (K : PySem.W.Frag) (fd : FuncData) (ps ks : List Str) (ix : List Nat) (n : Nat) : Prop where
  to : ∀ (s : Shared) (us ws zs : List Value), K.In s.heap → us.length = n → pick ix (us ++ ws) = some zs → zs.length = ps.length → ws.length = ks.length → BindsTo s fd ⟨us, ks.zip ws⟩ (ps.zip zs)

theorem vals_pick : ∀ {ix : List Nat} {xs ys : List V} {us : List Value}, Vals xs us → pick ix xs = some ys → ∃ zs, pick ix us = some zs ∧ Vals ys zs
  | [], _, _, _, _, e => by simp only [pick, Option.some.injEq] at e; subst e; exact ⟨[], rfl, .nil⟩
  | i :: ix, xs, ys, us, r, e => by
    simp only [pick] at e
    split at e
    · rename_i x xs' h1 h2
      cases e
      obtain ⟨zs, e1, e2⟩ := vals_pick r h2
      have : ∀ {xs : List V} {us : List Value} {i : Nat} {x : V}, Vals xs us → xs[i]? = some x → ∃ u, us[i]? = some u ∧ RelV x u := by
        intro xs
        induction xs with
        | nil => intro us i x _ h; simp at h
        | cons y ys ih =>
          intro us i x r h
          cases r with
          | cons a b =>
            cases i with
            | zero => simp at h; subst h; exact ⟨_, rfl, a⟩
            | succ i => obtain ⟨u, e, q⟩ := ih b (i := i) (by simpa using h); exact ⟨u, by simpa using e, q⟩
      obtain ⟨u, e3, e4⟩ := this r h1
      exact ⟨u :: zs, by simp only [pick, e3, e1], .cons e4 e2⟩
    · cases e

section
variable {X : Cx} {A : Act} {W : WX} {k n : Nat} {f : Addr} {fd : FuncData} {ps ks : List Str} {g : GF} {x : Str} {p pos kpos : Pos} {e : Expr} {es : List Expr} {kws : List Keyword} {fo fk : OsF} {fe : OF} {nm : Option Str}
theorem pk_osNil : PK X [] (tOs A W osNil) := ⟨fun pos pins s σ H Q I ⟨r, G, kk, m⟩ => pk_nil.run pos pins s σ H Q I (m [] G H kk Step.refl rfl)⟩
theorem pk_osCons (he : PE X e (tO A W fe)) (hr : PK X kws (tOs A W fk)) : PK X (⟨nm, e, kpos⟩ :: kws) (tOs A W (osCons fe fk)) :=
  ⟨fun pos pins s σ H Q I h => (pk_cons he hr).run pos pins s σ H Q I (os_cons h)⟩
/-- f(e, ..) -/
theorem pe_cG (F : FnG X.prog X.w X.K X.mg X.base (L2.CX X.prog X.w) k f fd ps (spF A.w n g)) (hr : RoomG k X.A) (hg : Gl X x) (hm : X.mg x = some (.ref f)) (hk : PySem.W.keepIn X.K (.ref f) = true) (hb : Binds X.K fd ps []) (tk : Takes X W)
    (ha : PA X (e :: es) (tOs A W fo)) (hdb : (x == ("__debug__" : Str)) = false := by decide) (he : NoStar X e es := by rfl) (hpl : NoStars X es pos := by rfl) :
    PE X (.Call (.Name x p) (e :: es) [] pos) (tE A W (callG n g fo)) := by
  refine ⟨fun pins s σ H Q I h => ?_⟩
  have h2 := call_of h
  refine wpAny_Call_Name_kw (ld_glob I hg hm ?_ hdb)
  refine PySem.W.callWith_K (h₀ := X.base) I.ok.mod.kin hk (wpAny_mono (ha.run pos pins s σ H _ I h2) (fun us s1 ⟨vs, H1, I1, r, q⟩ => ⟨I1.kIn, ?_⟩) fun _ _ z => z) he hpl
  have hl : us.length = ps.length := by rw [← r.length]; exact F.len _ _ _ _ q
  have b0 := hb s1 us I1.kIn (by simpa using hl)
  simp only [List.append_nil] at b0
  exact run_G F hr (fun e s' z => tk e s' (XE.of_call I1 (fun _ _ _ y => y) z)) I1 (args := ⟨us, []⟩) b0 r q
/-- f() -/
theorem pe_cG0 (F : FnG X.prog X.w X.K X.mg X.base (L2.CX X.prog X.w) k f fd ps (spF A.w n g)) (hr : RoomG k X.A) (hg : Gl X x) (hm : X.mg x = some (.ref f)) (hk : PySem.W.keepIn X.K (.ref f) = true) (hb : Binds X.K fd ps []) (tk : Takes X W)
    (hdb : (x == ("__debug__" : Str)) = false := by decide) : PE X (.Call (.Name x p) [] [] pos) (tE A W (callG n g osNil)) := by
  refine ⟨fun pins s σ H Q I h => ?_⟩
  obtain ⟨r, G, kk, m⟩ := call_of h
  have q := m [] G H kk Step.refl rfl
  refine wpAny_Call_Name_kw (ld_glob I hg hm ?_ hdb)
  have b0 := hb s [] I.kIn (by have := F.len _ _ _ _ q; simpa using this)
  exact PySem.W.callWith_K0 I.kIn hk (run_G F hr (fun e s' z => tk e s' (XE.of_call I (fun _ _ _ y => y) z)) I (args := ⟨[], []⟩) b0 .nil q)
/-- the values of positional arguments and of keywords, bound -/
theorem run_GK {pins : List (Addr × Obj)} {σ : L2.St} {H : Hp} {s : Shared} {Q : VK} {us ws : List Value} {vs zs ys : List V} {ix : List Nat} {m : Nat} (F : FnG X.prog X.w X.K X.mg X.base (L2.CX X.prog X.w) k f fd ps (spF A.w n g)) (hr : RoomG k X.A)
    (hb : BindK X.K fd ps ks ix m) (tk : Takes X W) (I : Inv X pins σ H s) (r : Vals vs us) (rz : Vals zs ws) (hm : us.length = m) (hw : ws.length = ks.length) (hp : pick ix (vs ++ zs) = some ys) (h : spF A.w n g ys H Q fun cls d H2 => W cls d σ H2) :
    wpAny (model X.prog X.w) X.A (call (.ref f) us (ks.zip ws)) (EP X pins σ Q) X.xe s := by
  obtain ⟨us', e, rv⟩ := vals_pick (r.append rz) hp
  have hl : us'.length = ps.length := by rw [← rv.length]; exact F.len _ _ _ _ h
  exact run_G F hr (fun e s' z => tk e s' (XE.of_call I (fun _ _ _ y => y) z)) I (args := ⟨us, ks.zip ws⟩) (hb.to s us ws us' I.kIn hm e hl hw) rv h
/-- f(e, .., k = v, ..) -/
theorem pe_cGK {ix : List Nat} (F : FnG X.prog X.w X.K X.mg X.base (L2.CX X.prog X.w) k f fd ps (spF A.w n g)) (hr : RoomG k X.A) (hg : Gl X x) (hm : X.mg x = some (.ref f)) (hk : PySem.W.keepIn X.K (.ref f) = true)
    (hb : BindK X.K fd ps ks ix (es.length + 1)) (tk : Takes X W)
    (ha : PA X (e :: es) (tOs A W fo)) (hkw : PK X kws (tOs A W fk)) (hall : (backToKw pos (keywordEach kws X.env)).all (·.1.isSome) = true := by rfl) (hks : (backToKw pos (keywordEach kws X.env)).filterMap (·.1) = ks := by rfl)
    (hdb : (x == ("__debug__" : Str)) = false := by decide) (he : NoStar X e es := by rfl)
    (hpl : KPlain X (e :: es) kws pos := by rfl) :
    PE X (.Call (.Name x p) (e :: es) kws pos) (tE A W (callG n g (osPick ix (osApp (osN (es.length + 1) fo) (osN ks.length fk))))) := by
  refine ⟨fun pins s σ H Q I h => ?_⟩
  have h2 := os_N (os_app (os_pick (call_of h)))
  refine wpAny_Call_Name_kw (ld_glob I hg hm ?_ hdb)
  refine PySem.W.callWith_KW (h₀ := X.base) I.ok.mod.kin hk hall (wpAny_mono (ha.run pos pins s σ H _ I h2) (fun us s1 ⟨vs, H1, I1, r, l1, q⟩ => ?_) fun _ _ z => z) hpl he
  refine wpAny_mono (hkw.run pos pins s1 σ H1 _ I1 (os_N q)) (fun ws s2 ⟨zs, H2, I2, rz, l2, ys, hp, q2⟩ => ⟨I2.kIn, ?_⟩) fun _ _ z => z
  rw [hks]
  exact run_GK (us := us) F hr hb tk I2 r rz (by rw [← r.length]; exact l1) (by rw [← rz.length]; exact l2) hp q2
/-- f(k = v, ..) -/
theorem pe_cGK0 {ix : List Nat} (F : FnG X.prog X.w X.K X.mg X.base (L2.CX X.prog X.w) k f fd ps (spF A.w n g)) (hr : RoomG k X.A) (hg : Gl X x) (hm : X.mg x = some (.ref f)) (hk : PySem.W.keepIn X.K (.ref f) = true)
    (hb : BindK X.K fd ps ks ix 0) (tk : Takes X W)
    (hkw : PK X kws (tOs A W fk)) (hall : (backToKw pos (keywordEach kws X.env)).all (·.1.isSome) = true := by rfl) (hks : (backToKw pos (keywordEach kws X.env)).filterMap (·.1) = ks := by rfl)
    (hdb : (x == ("__debug__" : Str)) = false := by decide)
    (hpl : KPlain X [] kws pos := by rfl) (hne : KCall X x kws p pos := by rfl) :
    PE X (.Call (.Name x p) [] kws pos) (tE A W (callG n g (osPick ix (osN ks.length fk)))) := by
  refine ⟨fun pins s σ H Q I h => ?_⟩
  have h2 := os_N (os_pick (call_of h))
  rw [hne]
  refine wpAny_bind (ld_glob I hg hm ?_ hdb)
  refine PySem.W.callWith_KW0 (h₀ := X.base) I.ok.mod.kin hk hall (wpAny_mono (hkw.run pos pins s σ H _ I h2) (fun ws s2 ⟨zs, H2, I2, rz, l2, ys, hp, q2⟩ => ⟨I2.kIn, ?_⟩) fun _ _ z => z) hpl
  rw [hks]
  exact run_GK F hr hb tk I2 .nil rz rfl (by rw [← rz.length]; exact l2) hp q2
end
end M
/-! MPH: a law's end: what stands behind the top, the call of the law with its script. -/
namespace M
open PySem L2 PyProof.Rows

/-- the heap that tracks the script at a, where the written part doesn't hold it -/
def onlyAt (K : PySem.W.Frag) (a : Addr) (o : Obj) (xs : List V) : Hp := fun b => if b = a ∧ K.lookup a = none then some (.frz o (.lst xs)) else none
theorem onlyAt_some {K : PySem.W.Frag} {a b : Addr} {o : Obj} {xs : List V} {u : HO} (h : onlyAt K a o xs b = some u) : b = a ∧ K.lookup a = none ∧ u = .frz o (.lst xs) := by
  unfold onlyAt at h
  split at h
  · rename_i c; cases h; exact ⟨c.1, c.2, rfl⟩
  · cases h
theorem onlyAt_none {K : PySem.W.Frag} {a b : Addr} {o : Obj} {xs : List V} (h : b ≠ a ∨ K.lookup a ≠ none) : onlyAt K a o xs b = none := by
  unfold onlyAt
  rw [if_neg]
  rintro ⟨h1, h2⟩
  exact h.elim (fun z => z h1) fun z => z h2

section
variable {P : Program} {w : World} {K : PySem.W.Frag} {mg mb : Str → Option Value} {CM : Str → Option Addr} {k : Nat} {fa a : Addr} {fd : FuncData} {x : Str} {g : GF} {st : Shared} {us : List Value} {ns : List Int}
theorem law_run (kin : K.In st.heap) (gl : st.heap.Ns mainGlobals mg) (bl : st.heap.Ns builtinsNs mb) (bb : ∀ y : Str, y ≠ "__name__" → mb y = bootBuiltins y) (nl : st.heap.NoLimit) (hg : st.gens = #[])
    (ha : st.heap.get? a = some { cls := .type "list", data := .seq us.toArray }) (hi : IntsAre us ns) (sz : ns.length ≤ sizeLine) (hr : RoomG k callerA)
    (F : ∀ base : Heap, K.In base → base.Ns mainGlobals mg → FnG P w K mg base (L2.CX P w) k fa fd [x] (spF ⟨K, CM, []⟩ 1 g)) (hbind : ∀ (s : Shared) (u : Value), BindsTo s fd ⟨[u], []⟩ [(x, u)])
    (hv : g [(false, .scr ns)] = .ok false (.bl true) none) :
    codeAny (model P w) callerA (.call (.ref fa) ⟨[.ref a], []⟩) (fun r s' => r = .ok (.ret (.bool true)) ∧ OldK st.heap s'.heap ∧ s'.os = st.os ∧ AllBare s'.gens) st := by
  have ln := hi.length
  have rv := vals_ints hi
  obtain ⟨ob, hob⟩ : ∃ ob : Obj, ob = { cls := .type "list", data := .seq us.toArray } := ⟨_, rfl⟩
  obtain ⟨H, hH⟩ : ∃ H : Hp, H = onlyAt K a ob (ns.map V.int) := ⟨_, rfl⟩
  have tracked : ∀ {b : Addr} {u : HO}, H b = some u → b = a ∧ K.lookup a = none ∧ u = .frz ob (.lst (ns.map V.int)) := fun {b u} e => by rw [hH] at e; exact onlyAt_some e
  have untracked : ∀ {b : Addr}, (b ≠ a ∨ K.lookup a ≠ none) → H b = none := fun {b} e => by rw [hH]; exact onlyAt_none e
  have hok : HOk P w H st.heap := fun b u e => by
    obtain ⟨rfl, _, rfl⟩ := tracked e
    rw [hob]
    exact ⟨ha, by rw [List.length_map]; exact sz, us, _, rv, ha⟩
  have sq : SqL K H a (ns.map V.int) := by
    cases hk : K.lookup a with
    | none => exact .inl (.inr ⟨ob, by rw [hH]; unfold onlyAt; rw [if_pos ⟨rfl, hk⟩]⟩)
    | some o =>
      have e := kin a o hk
      rw [ha] at e
      cases e
      exact .inr ⟨_, us.toArray, _, hk, rfl, rfl, rfl, by rw [List.size_toArray, ln]; exact sz, by simpa using rv⟩
  -- what isn't tracked stands in the base
  have nodict : ∀ {b : Addr} {o : Obj} {es : Array DictEntry} {ep : Nat}, st.heap.get? b = some o → o.data = .dict es ep → H b = none := fun {b o es ep} e d => by
    cases q : H b with
    | none => rfl
    | some u =>
      obtain ⟨rfl, _, _⟩ := tracked q
      rw [ha] at e; cases e
      have d' : Data.seq us.toArray _ = Data.dict es ep := d
      cases d'
  have ns' : ∀ {b : Addr} {m : Str → Option Value}, st.heap.Ns b m → (hidT st.heap H).Ns b m := fun {b m} ⟨o, es, ep, e, d, r⟩ => ⟨o, es, ep, hidT_get e (nodict e d), d, r⟩
  have kb : K.In (hidT st.heap H) := fun b o e => hidT_get (kin b o e) (by
    cases q : H b with
    | none => rfl
    | some u =>
      obtain ⟨rfl, z, _⟩ := tracked q
      rw [z] at e; cases e)
  have md : Mod K mg (hidT st.heap H) := ⟨kb, ns' gl, ⟨mb, ns' bl, bb⟩, let ⟨mc, h1, h2⟩ := nl; ⟨mc, ns' h1, h2⟩⟩
  have nof : ∀ {b : Addr}, b ∉ frs [] := fun {b} z => absurd (show b ∈ ([] : List Addr) from z) (by simp)
  have e0 : Env0 P w K mg (hidT st.heap H) callerA [] st H := ⟨rfl, md, fun b o e => of_hidT e, Nat.le_of_eq (hidT_size _ _), trivial, fun b hb => absurd hb nof, hok, .of_eq hg⟩
  have pre : spF ⟨K, CM, []⟩ 1 g [.ref a] H (fun v _ => v = .bl true) (fun _ _ _ => False) := by
    refine ⟨H, [(false, .scr ns)], rfl, ⟨Le.refl _, ⟨(fun p hp => nomatch hp), (fun b ps e => nomatch (tracked e).2.2)⟩, fun b ps e => nomatch (tracked e).2.2⟩, ⟨_, [], rfl, ?_, rfl⟩, by simp [lents], ?_⟩
    · rw [Rep]; exact ⟨a, rfl, sq⟩
    · rw [hv]; exact fun u G' H' _ nr => rep_bl.mp (show Rep ⟨K, CM, []⟩ G' (.bl true) u from nr)
  refine codeAny_mono ((F _ kb (ns' gl)).go callerA [] st H ⟨[.ref a], []⟩ [.ref a] [.ref a] _ _ hr e0 (hbind st (.ref a)) (.cons rfl .nil) pre) fun r s' h => ?_
  match r, h with
  | .error e, h =>
    obtain ⟨_, _, _, _, _, _, _, _, _, _, _, _, z⟩ := h
    exact z.elim
  | .ok .next, h => exact False.elim h
  | .ok .brk, h => exact False.elim h
  | .ok .cont, h => exact False.elim h
  | .ok (.ret u), h =>
    obtain ⟨v, H', os, bare, un, hok', r', q⟩ := h
    obtain rfl : v = .bl true := q
    obtain rfl : u = Value.bool true := r'
    refine ⟨rfl, OldK.of_keep fun b o e => ?_, os, bare⟩
    cases q : H b with
    | none => exact un.keep b o e q nof (by simp)
    | some t =>
      obtain ⟨rfl, _, rfl⟩ := tracked q
      have z := (hok b _ q).1
      rw [e] at z; cases z
      exact (hok' b _ (un.frzs b ob _ q)).1
end

/-- the goal that a head leaves, from the law's promise -/
theorem walk_end {l : PySem.W.OpenLaw} {n k : Nat} {q : Program} {loose : List Str} {XP : (Str → Option Value) → Heap → Prop} {YP : World → Heap → Prop} {d : DefRec} {x : Str}
    (hn : l.most = some n) (hn2 : n ≤ sizeLine) (hdf : d.params.defaults = []) (hr : RoomG k callerA)
    (F : ∀ (w : World) (mg : Str → Option Value) (fa : Addr) (h : Heap), YP w h → h.Ns mainGlobals mg → mg d.name = some (.ref fa) →
      ∃ (K : PySem.W.Frag) (CM : Str → Option Addr) (fd : FuncData) (g : GF), K.In h ∧ (∀ (s : Shared) (u : Value), BindsTo s fd ⟨[u], []⟩ [(x, u)]) ∧ (∀ ns : List Int, ns.length ≤ n → g [(false, .scr ns)] = .ok false (.bl true) none) ∧
        ∀ base : Heap, K.In base → base.Ns mainGlobals mg → FnG l.prog w K mg base (L2.CX l.prog w) k fa fd [x] (spF ⟨K, CM, []⟩ 1 g)) :
    PySem.W.WalkO q loose XP YP l.row.toRowW d [] (fun f vs => PySem.call f vs) := by
  refine Att.attach_call hn hdf fun w s₀ st mg mb fa o pm cd doc a us ns G Y ho hd hcd hmg hobj hints hlen hg => ?_
  obtain ⟨K, CM, fd, g, kin, hb, hv, hF⟩ := F w mg fa _ Y G.T.g hmg
  exact law_run kin G.T.g G.T.b G.T.builtins G.T.nolimit hg hobj hints (Nat.le_trans hlen hn2) hr hF hb (hv ns hlen)
theorem roomG_top : RoomG 12 callerA := ⟨⟨rfl, by decide, by decide⟩, rfl⟩
end M
/-! MPX: comprehensions in short, defs as they stand behind the top. -/
namespace M
open PySem L2

section
variable {X : Cx} {A : Act} {W : WX} {elt tg iter : Expr} {ifs : List Expr} {scope : Scope} {own : List (Str × Nat)} {pos spos : Pos} {fi : IF} {t : TF} {c : BF} {f : EF} {st' sl : List Nat}
abbrev W0 : WX := fun _ _ _ _ => False
theorem PTs.imp {ifs : List Expr} {t t' : TT} (h : PTs X ifs t) (hi : ∀ σ H Q, t' σ H Q → t σ H Q) : PTs X ifs t' := ⟨fun pins s σ H Q I q => h.run pins s σ H Q I (hi _ _ _ q)⟩
theorem pts_no : PTs X [] (tBo A W yesB) := PTs.imp pts_nil fun σ H Q ⟨r, G, k, m⟩ => m G H k Step.refl
theorem pts_1 {x : Expr} (h : PT X x (tBo A W c)) : PTs X [x] (tBo A W c) := pts_one h
theorem pe_lcM (hc : X.calm = true) (hN : X.N.Nodup) (hi : PI X tg iter (tIt A W fi)) (ok : BlkOk X.N X.env.scope scope own)
    (hg : ∀ (s : Shared) (H : Hp) (C : Addr) (cl : List (Str × Addr)) (fp : List Addr), PG (X.blk s H scope (compEnvC scope cl C X.env) fp) tg (tTg A st' t))
    (ht : ∀ (s : Shared) (H : Hp) (C : Addr) (cl : List (Str × Addr)) (fp : List Addr), PTs (X.blk s H scope (compEnvC scope cl C X.env) fp) ifs (tBo A W0 c))
    (he : ∀ (s : Shared) (H : Hp) (C : Addr) (cl : List (Str × Addr)) (fp : List Addr), PE (X.blk s H scope (compEnvC scope cl C X.env) fp) elt (tE A W0 f))
    (tok : TOk st' t) (hs' : ∀ j ∈ st', j ∈ sl) (hio : ∀ i ∈ A.io, i ∉ sl) (hsl : own.map (·.2) = sl := by rfl) (hs : ∀ x, foldedSetIterable iter X.env x = pure x := by intro _; rfl) :
    PE X (.ListComp elt [⟨tg, iter, ifs, 0⟩] scope pos) (tE A W (lc fi t c f sl)) := by
  subst hsl
  exact PE.imp (pe_lc hc hN hi ok hg ht (fun s H C cl fp => pe_frz (he s H C cl fp)) hs) fun _ _ _ q => lc_of tok hs' hio q
/-- name = [..] on one line -/
theorem ps_asgLc {i : Nat} {y : Str} {py : Pos} (hc : X.calm = true) (hN : X.N.Nodup) (hy : X.N[i]? = some y) (hyl : X.env.scope.names.lookup y = some .local) (hyi : i ∉ A.io)
    (hsw : swapsWith (.ListComp elt [⟨tg, iter, ifs, 0⟩] scope pos) (some (.Name y py)) spos.line X.env = pure true) (hi : PI X tg iter (tIt A W fi)) (ok : BlkOk X.N X.env.scope scope own)
    (hg : ∀ (s : Shared) (H : Hp) (C : Addr) (cl : List (Str × Addr)) (fp : List Addr), PG (X.blk s H scope (compEnvC scope cl C X.env) fp) tg (tTg A st' t))
    (ht : ∀ (s : Shared) (H : Hp) (C : Addr) (cl : List (Str × Addr)) (fp : List Addr), PTs (X.blk s H scope (compEnvC scope cl C X.env) fp) ifs (tBo A W0 c))
    (he : ∀ (s : Shared) (H : Hp) (C : Addr) (cl : List (Str × Addr)) (fp : List Addr), PE (X.blk s H scope (compEnvC scope cl C X.env) fp) elt (tE A W0 f))
    (tok : TOk st' t) (hs' : ∀ j ∈ st', j ∈ sl) (hio : ∀ i ∈ A.io, i ∉ sl) (hsl : own.map (·.2) = sl := by rfl) (hs : ∀ x, foldedSetIterable iter X.env x = pure x := by intro _; rfl) :
    PS X (.Assign [.Name y py] (.ListComp elt [⟨tg, iter, ifs, 0⟩] scope pos) spos) (tSt A W (asg i (lc fi t c f sl))) := by
  subst hsl
  exact PS.imp (ps_setLc hc hN hy hyl hsw hi ok hg ht (fun s H C cl fp => pe_frz (he s H C cl fp)) hs) fun D σ H h => by
    obtain ⟨r, G, k, m⟩ := tSt_iff.mp h
    refine lc_of tok hs' hio ⟨r, G, k, ?_⟩
    unfold asg at m
    cases hf : lc fi t c f (own.map (·.2)) r with
    | bad => rw [hf] at m; exact m.elim
    | ex e r' => simp only [hf] at m ⊢; exact m σ
    | ok o v r' => simp only [hf] at m ⊢; exact fun x G' H' R => m _ G' H' (R.ok.store R.tr hyi) R.st.ex
end

/-! ### defs -/
section
variable {P : Program} {w : World} {K : PySem.W.Frag} {mg : Str → Option Value} {base : Heap}
abbrev FunP (K : PySem.W.Frag) (x : Str) (st : Stmt) (f : Addr) (fd : FuncData) : Prop := FunD K x x (defArgs st) (defBody st) (defScope st) [] [] f fd
/-- the def of the module named x keeps its promise g -/
structure DefP (P : Program) (w : World) (K : PySem.W.Frag) (mg : Str → Option Value) (base : Heap) (wd : Wd) (lvl : Nat) (x : Str) (st : Stmt) (ps : List Str) (g : GF) : Prop where
  ex : ∃ f fd, mg x = some (.ref f) ∧ FunP K x st f fd ∧ Binds K fd ps [] ∧ FnG P w K mg base (L2.CX P w) lvl f fd ps (spF wd ps.length g)
theorem def_mk {x : Str} {st : Stmt} {f : Addr} {fd : FuncData} {N ps : List Str} {k : Nat} {wd : Wd} {ios : List Nat} {body : SF} (hm : mg x = some (.ref f)) (F : FunP K x st f fd) (S : FnScope N ps (defScope st))
    (hb : ∀ (cdv : Value) (A : Around) (outer : List PySem.Env) (s : Shared) (H : Hp) (E : XK), RoomG k (A.deeper (PyProof.Rows.envOfC x (defScope st) s.heap.objs.size f cdv)) →
      SV (cxOf (L2.CX P w) P w K mg base N x (defScope st) f cdv A outer s H E) wd ios (defBody st) body)
    (hbind : ∀ (kV doc pm : Value) (an : Option Addr) (cdv ct : Value) (us : List Value), us.length = ps.length → bindArgs (PySem.W.fnOf x x (defArgs st) (defBody st) (defScope st) .none kV doc pm an cdv ct) ⟨us, []⟩ = pure (ps.zip us)) :
    DefP P w K mg base wd (k + 1) x st ps (runDef ios ps.length N.length body) := by
  refine ⟨f, fd, hm, F, FunD.bindsN F hbind, ?_⟩
  obtain ⟨oc, od, dV, kV, doc, pm, an, cdv, ct, osl, e, lk, hcd, hD, _⟩ := F.ex
  have F' : Fun K x x st f fd := by
    refine ⟨⟨oc, od, kV, doc, pm, an, cdv, ct, osl, ?_, lk, hcd⟩, F.kp⟩
    rcases hD with ⟨_, rfl⟩ | ⟨z, _⟩
    · exact e
    · exact absurd rfl z
  exact def_ok F' S hb fun as => .inr rfl
theorem DefP.eqg {wd : Wd} {lvl : Nat} {x : Str} {st : Stmt} {ps : List Str} {g g' : GF} (d : DefP P w K mg base wd lvl x st ps g) (h : ∀ as, g' as = .bad ∨ g' as = g as) : DefP P w K mg base wd lvl x st ps g' := by
  obtain ⟨f, fd, h1, h2, h3, F⟩ := d.ex
  refine ⟨f, fd, h1, h2, h3, F.weak fun vs H Q E ⟨G, as, a1, a2, a3, a4, m⟩ => ⟨G, as, a1, a2, a3, a4, ?_⟩⟩
  rcases h as with e | e
  · rw [e] at m; exact m.elim
  · rw [e] at m; exact m
end
section
variable {X : Cx} {A : Act} {W : WX} {lvl : Nat} {x : Str} {st : Stmt} {ps ks : List Str} {g : GF} {p pos : Pos} {e : Expr} {es : List Expr} {kws : List Keyword} {fo fk : OsF}
theorem pe_cD {n : Nat} (d : DefP X.prog X.w X.K X.mg X.base A.w lvl x st ps g) (hr : RoomG lvl X.A) (hg : Gl X x) (tk : Takes X W) (ha : PA X (e :: es) (tOs A W fo)) (hn : ps.length = n := by rfl) (hdb : (x == ("__debug__" : Str)) = false := by decide)
    (he : NoStar X e es := by rfl) (hpl : NoStars X es pos := by rfl) : PE X (.Call (.Name x p) (e :: es) [] pos) (tE A W (callG n g fo)) := by
  subst hn
  obtain ⟨f, fd, hm, F, hb, G⟩ := d.ex
  exact pe_cG G hr hg hm F.kp hb tk ha hdb he hpl
theorem pe_cD0 {n : Nat} (d : DefP X.prog X.w X.K X.mg X.base A.w lvl x st ps g) (hr : RoomG lvl X.A) (hg : Gl X x) (tk : Takes X W) (hn : ps.length = n := by rfl) (hdb : (x == ("__debug__" : Str)) = false := by decide) : PE X (.Call (.Name x p) [] [] pos) (tE A W (callG n g osNil)) := by
  subst hn
  obtain ⟨f, fd, hm, F, hb, G⟩ := d.ex
  exact pe_cG0 G hr hg hm F.kp hb tk hdb
/-- how a call with keywords binds: seen of the text -/
def KwB (x : Str) (st : Stmt) (ps ks : List Str) (ix : List Nat) (n : Nat) : Prop := ∀ (kV doc pm : Value) (an : Option Addr) (cdv ct : Value) (us ws zs : List Value), us.length = n → ws.length = ks.length → pick ix (us ++ ws) = some zs → zs.length = ps.length →
  bindArgs (PySem.W.fnOf x x (defArgs st) (defBody st) (defScope st) .none kV doc pm an cdv ct) ⟨us, ks.zip ws⟩ = pure (ps.zip zs)
theorem bindK_of {K : PySem.W.Frag} {f : Addr} {fd : FuncData} {ix : List Nat} {n : Nat} (F : FunP K x st f fd) (h : KwB x st ps ks ix n) : BindK K fd ps ks ix n := by
  obtain ⟨oc, od, dV, kV, doc, pm, an, cdv, ct, osl, rfl, lk, hcd, hD, _⟩ := F.ex
  rcases hD with ⟨_, rfl⟩ | ⟨z, _⟩
  · exact ⟨fun s us ws zs _ h1 h2 h3 h4 => .of_eq (h kV doc pm an cdv ct us ws zs h1 h4 h2 h3)⟩
  · exact absurd rfl z
theorem pe_cDK {n n1 n2 : Nat} {ix : List Nat} (d : DefP X.prog X.w X.K X.mg X.base A.w lvl x st ps g) (hr : RoomG lvl X.A) (hg : Gl X x) (tk : Takes X W) (hb : KwB x st ps ks ix (es.length + 1)) (ha : PA X (e :: es) (tOs A W fo)) (hkw : PK X kws (tOs A W fk)) (hn : ps.length = n := by rfl) (hn1 : es.length + 1 = n1 := by rfl) (hn2 : ks.length = n2 := by rfl)
    (hall : (backToKw pos (keywordEach kws X.env)).all (·.1.isSome) = true := by rfl) (hks : (backToKw pos (keywordEach kws X.env)).filterMap (·.1) = ks := by rfl)
    (hdb : (x == ("__debug__" : Str)) = false := by decide) (he : NoStar X e es := by rfl)
    (hpl : KPlain X (e :: es) kws pos := by rfl) :
    PE X (.Call (.Name x p) (e :: es) kws pos) (tE A W (callG n g (osPick ix (osApp (osN n1 fo) (osN n2 fk))))) := by
  subst hn hn1 hn2
  obtain ⟨f, fd, hm, F, _, G⟩ := d.ex
  exact pe_cGK G hr hg hm F.kp (bindK_of F hb) tk ha hkw hall hks hdb he hpl
theorem pe_cDK0 {n n2 : Nat} {ix : List Nat} (d : DefP X.prog X.w X.K X.mg X.base A.w lvl x st ps g) (hr : RoomG lvl X.A) (hg : Gl X x) (tk : Takes X W) (hb : KwB x st ps ks ix 0) (hkw : PK X kws (tOs A W fk)) (hn : ps.length = n := by rfl) (hn2 : ks.length = n2 := by rfl)
    (hall : (backToKw pos (keywordEach kws X.env)).all (·.1.isSome) = true := by rfl) (hks : (backToKw pos (keywordEach kws X.env)).filterMap (·.1) = ks := by rfl)
    (hdb : (x == ("__debug__" : Str)) = false := by decide)
    (hpl : KPlain X [] kws pos := by rfl) (hne : KCall X x kws p pos := by rfl) :
    PE X (.Call (.Name x p) [] kws pos) (tE A W (callG n g (osPick ix (osN n2 fk)))) := by
  subst hn hn2
  obtain ⟨f, fd, hm, F, _, G⟩ := d.ex
  exact pe_cGK0 G hr hg hm F.kp (bindK_of F hb) tk hkw hall hks hdb hpl hne
end
/-- constants of the text and of the module -/
theorem pe_ci {X : Cx} {A : Act} {W : WX} {i : Int} {j : Nat} {pos : Pos} : PE X (.Constant (.int i) j pos) (tE A W (cst (.int i))) := pe_cst pe_int fun _ => rep_int.mpr rfl
theorem pe_cs {X : Cx} {A : Act} {W : WX} {x : Str} {j : Nat} {pos : Pos} (hx : x.length ≤ sizeLine := by decide +kernel) : PE X (.Constant (.str x) j pos) (tE A W (cst (.str x))) := pe_cst pe_str fun _ => rep_str.mpr ⟨rfl, hx⟩
theorem pe_gs {X : Cx} {A : Act} {W : WX} {x z : Str} {pos : Pos} (hg : Gl X x) (hm : ∃ t, X.mg x = some (.str z t)) (hz : z.length ≤ sizeLine := by decide +kernel) (hd : (x == ("__debug__" : Str)) = false := by decide) : PE X (.Name x pos) (tE A W (cst (.str z))) := by
  obtain ⟨t, h⟩ := hm
  exact pe_cst (pe_glob (v := .str z) hg h ⟨t, rfl⟩ hd) fun _ => rep_str.mpr ⟨rfl, hz⟩
theorem pe_gi {X : Cx} {A : Act} {W : WX} {x : Str} {z : Int} {pos : Pos} (hg : Gl X x) (hm : ∃ t, X.mg x = some (.int z t)) (hd : (x == ("__debug__" : Str)) = false := by decide) : PE X (.Name x pos) (tE A W (cst (.int z))) := by
  obtain ⟨t, h⟩ := hm
  exact pe_cst (pe_glob (v := .int z) hg h ⟨t, rfl⟩ hd) fun _ => rep_int.mpr rfl
theorem pe_tyN {X : Cx} {A : Act} {W : WX} {x : Str} {T : String} {pos : Pos} (hg : Gl X x) (hm : X.mg x = none) (hv : bootBuiltins x = some (.type T)) (hn : x ≠ "__name__" := by decide) (hd : (x == ("__debug__" : Str)) = false := by decide) : PE X (.Name x pos) (tE A W (cst (.ty T))) :=
  pe_cst (pe_bltn hg hm hv (v := .ty T) rfl hn hd) fun _ => rep_ty.mpr rfl
/-- a name as an operand that is lent -/
theorem po_N {X : Cx} {A : Act} {W : WX} {e : Expr} {i : Nat} (h : PE X e (tVar i)) : PE X e (tO A W (oS i)) := po_S h

theorem Cal.blk {X : Cx} {w : Wd} {s : Shared} {H : Hp} {scope : Scope} {ce : PySem.Env} {fp : List Addr} (c : Cal X w) : Cal (X.blk s H scope ce fp) w := ⟨c.K, c.calm, c.un, c.gs, c.sy⟩
theorem cal_of {CXx : CXT} {P : Program} {w : World} {K : PySem.W.Frag} {mg : Str → Option Value} {base : Heap} {N : List Str} {qual : Str} {scope : Scope} {f : Addr} {cdv : Value} {A : Around} {outer : List PySem.Env} {s : Shared} {H : Hp} {E : XK} {k : Nat} {Tb : List (Addr × Str)} {CM : Str → Option Addr}
    (hr : RoomG k (A.deeper (PyProof.Rows.envOfC qual scope s.heap.objs.size f cdv))) (hs : (K.lookup sysModules).isSome = true) : Cal (cxOf CXx P w K mg base N qual scope f cdv A outer s H E) ⟨K, CM, Tb⟩ :=
  ⟨rfl, rfl, by have := hr.room.un; show (A.deeper (PyProof.Rows.envOfC qual scope s.heap.objs.size f cdv)).units + 100 < cLine; omega, hr.gs, hs⟩
theorem tl_nil : ∀ (vs : List Val) (r r' : Env), tgNil vs r = some r' → vs.length = 0 := fun vs r r' h => by
  cases vs with
  | nil => rfl
  | cons _ _ => cases h
theorem tl_cons {n : Nat} {t : TF} {u : List Val → Env → Option Env} (hu : ∀ (vs : List Val) (r r' : Env), u vs r = some r' → vs.length = n) : ∀ (vs : List Val) (r r' : Env), tgCons t u vs r = some r' → vs.length = n + 1 := fun vs r r' h => by
  cases vs with
  | nil => cases h
  | cons v vs =>
    simp only [tgCons] at h
    cases ht : t v r with
    | none => simp only [ht] at h; cases h
    | some r1 => simp only [ht] at h; simp [hu vs r1 r' h]
theorem bt_str : bootBuiltins "str" = some (.type "str") := by decide +kernel
theorem bt_int : bootBuiltins "int" = some (.type "int") := by decide +kernel
theorem bt_list : bootBuiltins "list" = some (.type "list") := by decide +kernel
theorem bt_tuple : bootBuiltins "tuple" = some (.type "tuple") := by decide +kernel
theorem bt_dict : bootBuiltins "dict" = some (.type "dict") := by decide +kernel
theorem bt_bool : bootBuiltins "bool" = some (.type "bool") := by decide +kernel
theorem bf_isinstance : bootBuiltins "isinstance" = some (.builtin "isinstance") := by decide +kernel
theorem bf_len : bootBuiltins "len" = some (.builtin "len") := by decide +kernel
theorem bf_abs : bootBuiltins "abs" = some (.builtin "abs") := by decide +kernel
theorem bf_repr : bootBuiltins "repr" = some (.builtin "repr") := by decide +kernel
theorem bf_all : bootBuiltins "all" = some (.builtin "all") := by decide +kernel
theorem bf_any : bootBuiltins "any" = some (.builtin "any") := by decide +kernel
theorem bf_max : bootBuiltins "max" = some (.builtin "max") := by decide +kernel
theorem bf_min : bootBuiltins "min" = some (.builtin "min") := by decide +kernel
def Pneg : List Val → Option (Bool × Val)
  | [.int i] => some (false, .int (-i))
  | _ => none
theorem pe_neg {X : Cx} {A : Act} {W : WX} {x : Expr} {fo : OF} {pos : Pos} (h : PE X x (tO A W fo)) : PE X (.UnaryOp .USub x pos) (tE A W (prim Pneg (osCons fo osNil))) :=
  PE.imp (pe_un un_neg h) fun σ H Q q => by
    have q1 := prim_os1 q
    obtain ⟨r, G, k, m⟩ := q1
    refine ⟨r, G, k, ?_⟩
    cases hf : fo r with
    | bad => simp only [hf] at m
    | ex e r' => simp only [hf] at m ⊢; exact m
    | ok h r1 =>
      simp only [hf] at m ⊢
      intro x G1 H1 k1 st1 t1
      obtain ⟨G2, vs, o, z, le, rr, hp, q2⟩ := m x G1 H1 k1 st1 t1
      unfold Pneg at hp
      split at hp
      · obtain ⟨y, e, r1⟩ := rreps_one rr
        cases e; cases hp
        obtain rfl := rrep_int r1
        exact ⟨_, rfl, int_new le q2⟩
      · cases hp
/-- the promise of the def at f, found by its name -/
theorem DefP.at {P : Program} {w : World} {K : PySem.W.Frag} {mg : Str → Option Value} {base : Heap} {wd : Wd} {lvl k : Nat} {x : Str} {st : Stmt} {ps : List Str} {g : GF} {f : Addr} {fd : FuncData} (d : DefP P w K mg base wd lvl x st ps g) (hm : mg x = some (.ref f)) (F : FunP K x st f fd) (hk : lvl ≤ k) :
    FnG P w K mg base (L2.CX P w) k f fd ps (spF wd ps.length g) := by
  obtain ⟨f', fd', hm', F', _, G⟩ := d.ex
  rw [hm] at hm'
  cases hm'
  obtain ⟨_, _, _, _, _, _, _, _, _, _, _, l1, _⟩ := F.ex
  obtain ⟨_, _, _, _, _, _, _, _, _, _, _, l2, _⟩ := F'.ex
  rw [l1] at l2
  cases l2
  exact G.up hk
end M
/-! MPW: what comes behind: the combinators read from the left, each with what is wished behind it. -/
namespace M
open PySem L2

def wE (f : EF) (r : Env) (Q : ER → Prop) : Prop := Q (f r)
def wO (f : OF) (r : Env) (Q : OR → Prop) : Prop := Q (f r)
def wOs (f : OsF) (r : Env) (Q : OsR → Prop) : Prop := Q (f r)
def wB (f : BF) (r : Env) (Q : BR → Prop) : Prop := Q (f r)
def wA (f : AF) (r : Env) (Q : AR → Prop) : Prop := Q (f r)
def wI (f : IF) (r : Env) (Q : IR → Prop) : Prop := Q (f r)
def wP (f : PF) (r : Env) (Q : PR → Prop) : Prop := Q (f r)
def wS (f : SF) (r : Env) (Q : SR → Prop) : Prop := Q (f r)
def wD (l : List (EF × EF)) (r : Env) (Q : DR → Prop) : Prop := Q (dspL l r)
def wG (g : GF) (as : List (Bool × Val)) (Q : GR → Prop) : Prop := Q (g as)
def wL (t : TF) (b : SF) (vs : List Val) (r : Env) (Q : SR → Prop) : Prop := Q (forL t b vs r)
def wC (t : TF) (c : BF) (f : EF) (sl : List Nat) (vs acc : List Val) (r : Env) (Q : AR → Prop) : Prop := Q (lcL t c f sl vs acc r)
def wT (t : Option Env) (Q : Option Env → Prop) : Prop := Q t
theorem of_wE {f : EF} {r : Env} {Q : ER → Prop} (h : wE f r Q) : Q (f r) := h

section
variable {r : Env} {i j n : Nat} {v : Val} {f f' : EF} {fo fo' : OF} {fs fs' : OsF} {c c' : BF} {g : AF} {b b' : SF} {t : TF}
/-! expressions -/
theorem wE_cst {Q : ER → Prop} : wE (cst v) r Q = Q (.ok false v r) := rfl
def kvar (i : Nat) (r : Env) (Q : ER → Prop) : Option Slot → Prop
  | some (some (false, v)) => Q (.ok false v r)
  | some (some (true, v)) => Q (.ok false v (r.set i (some (false, v))))
  | _ => Q .bad
theorem wE_var {Q : ER → Prop} : wE (var i) r Q = kvar i r Q r[i]? := by
  unfold wE var
  rcases r[i]? with _ | _ | ⟨_ | _, v⟩ <;> rfl
def kmv (i : Nat) (r : Env) (Q : ER → Prop) : Option Slot → Prop
  | some (some (o, v)) => Q (.ok o v (r.set i none))
  | _ => Q .bad
theorem wE_mv {Q : ER → Prop} : wE (mv i) r Q = kmv i r Q r[i]? := by
  unfold wE mv
  rcases r[i]? with _ | _ | ⟨o, v⟩ <;> rfl
def kfrz (Q : ER → Prop) : ER → Prop
  | .ok _ v r' => Q (.ok false v r')
  | .ex e r' => Q (.ex e r')
  | .bad => Q .bad
theorem wE_frz {Q : ER → Prop} : wE (frz f) r Q = wE f r (kfrz Q) := by unfold wE frz; cases f r <;> rfl
def koV (Q : OR → Prop) : ER → Prop
  | .ok o v r' => Q (.ok (.tmp o v) r')
  | .ex e r' => Q (.ex e r')
  | .bad => Q .bad
theorem wO_V {Q : OR → Prop} : wO (oV f) r Q = wE f r (koV Q) := by unfold wO wE oV; cases f r <;> rfl
def koS (i : Nat) (r : Env) (Q : OR → Prop) : Option Slot → Prop
  | some (some _) => Q (.ok (.sl i) r)
  | _ => Q .bad
theorem wO_S {Q : OR → Prop} : wO (oS i) r Q = koS i r Q r[i]? := by
  unfold wO oS
  rcases r[i]? with _ | _ | _ <;> rfl
theorem wOs_nil {Q : OsR → Prop} : wOs osNil r Q = Q (.ok [] r) := rfl
def kcons2 (h : Hd) (Q : OsR → Prop) : OsR → Prop
  | .ok hs r2 => Q (.ok (h :: hs) r2)
  | .ex e r2 => Q (.ex e r2)
  | .bad => Q .bad
def kcons (fs : OsF) (Q : OsR → Prop) : OR → Prop
  | .ok h r1 => wOs fs r1 (kcons2 h Q)
  | .ex e r1 => Q (.ex e r1)
  | .bad => Q .bad
theorem wOs_cons {Q : OsR → Prop} : wOs (osCons fo fs) r Q = wO fo r (kcons fs Q) := by
  unfold wOs wO osCons
  cases fo r with
  | ok h r1 => simp only [kcons, wOs]; cases fs r1 <;> rfl
  | _ => rfl
def kp2 (Q : ER → Prop) (r : Env) : Option (Bool × Val) → Prop
  | some (o, z) => Q (.ok o z r)
  | none => Q .bad
def kp1 (P : List Val → Option (Bool × Val)) (Q : ER → Prop) (r : Env) : Option (List Val) → Prop
  | some vs => kp2 Q r (P vs)
  | none => Q .bad
def kprim (P : List Val → Option (Bool × Val)) (Q : ER → Prop) : OsR → Prop
  | .ok hs r1 => kp1 P Q r1 (getAll r1 hs)
  | .ex e r1 => Q (.ex e r1)
  | .bad => Q .bad
theorem wE_prim {P : List Val → Option (Bool × Val)} {Q : ER → Prop} : wE (prim P fs) r Q = wOs fs r (kprim P Q) := by
  unfold wE wOs prim
  cases fs r with
  | ok hs r1 =>
    simp only [kprim]
    cases getAll r1 hs with
    | none => rfl
    | some vs => simp only [kp1]; rcases P vs with _ | ⟨o, z⟩ <;> rfl
  | _ => rfl
/-! tests -/
def ktst (Q : BR → Prop) : ER → Prop
  | .ok _ (.bl b) r' => Q (.ok b r')
  | .ok _ _ _ => Q .bad
  | .ex e r' => Q (.ex e r')
  | .bad => Q .bad
theorem wB_tst {Q : BR → Prop} : wB (tst f) r Q = wE f r (ktst Q) := by
  unfold wB wE tst
  cases f r with
  | ok o v r' => cases v <;> rfl
  | _ => rfl
def kand (c' : BF) (Q : BR → Prop) : BR → Prop
  | .ok true r' => wB c' r' Q
  | x => Q x
theorem wB_and {Q : BR → Prop} : wB (andB c c') r Q = wB c r (kand c' Q) := by
  unfold wB andB
  rcases c r with ⟨_ | _, r'⟩ | _ | _ <;> rfl
def kor (c' : BF) (Q : BR → Prop) : BR → Prop
  | .ok false r' => wB c' r' Q
  | x => Q x
theorem wB_or {Q : BR → Prop} : wB (orB c c') r Q = wB c r (kor c' Q) := by
  unfold wB orB
  rcases c r with ⟨_ | _, r'⟩ | _ | _ <;> rfl
def knot (Q : BR → Prop) : BR → Prop
  | .ok b r' => Q (.ok (!b) r')
  | x => Q x
theorem wB_not {Q : BR → Prop} : wB (notB c) r Q = wB c r (knot Q) := by
  unfold wB notB
  cases c r <;> rfl
theorem wB_yes {Q : BR → Prop} : wB yesB r Q = Q (.ok true r) := rfl
def kandV (f' : EF) (Q : ER → Prop) : ER → Prop
  | .ok _ (.bl true) r' => wE f' r' Q
  | .ok _ (.bl false) r' => Q (.ok false (.bl false) r')
  | .ok _ _ _ => Q .bad
  | x => Q x
theorem wE_andV {Q : ER → Prop} : wE (andV f f') r Q = wE f r (kandV f' Q) := by
  unfold wE andV
  cases f r with
  | ok o v r' =>
    cases v with
    | bl b => cases b <;> rfl
    | _ => rfl
  | _ => rfl
def korV (f' : EF) (Q : ER → Prop) : ER → Prop
  | .ok _ (.bl true) r' => Q (.ok false (.bl true) r')
  | .ok _ (.bl false) r' => wE f' r' Q
  | .ok _ _ _ => Q .bad
  | x => Q x
theorem wE_orV {Q : ER → Prop} : wE (orV f f') r Q = wE f r (korV f' Q) := by
  unfold wE orV
  cases f r with
  | ok o v r' =>
    cases v with
    | bl b => cases b <;> rfl
    | _ => rfl
  | _ => rfl
def knotV (Q : ER → Prop) : ER → Prop
  | .ok _ (.bl b) r' => Q (.ok false (.bl (!b)) r')
  | .ok _ _ _ => Q .bad
  | x => Q x
theorem wE_notV {Q : ER → Prop} : wE (notV f) r Q = wE f r (knotV Q) := by
  unfold wE notV
  cases f r with
  | ok o v r' => cases v <;> rfl
  | _ => rfl
def kite (f f' : EF) (Q : ER → Prop) : BR → Prop
  | .ok true r' => wE f r' Q
  | .ok false r' => wE f' r' Q
  | .ex e r' => Q (.ex e r')
  | .bad => Q .bad
theorem wE_ite {Q : ER → Prop} : wE (ite c f f') r Q = wB c r (kite f f' Q) := by
  unfold wE wB ite
  rcases c r with ⟨_ | _, r'⟩ | _ | _ <;> rfl
/-! displays -/
theorem wA_nil {Q : AR → Prop} : wA asNil r Q = Q (.ok [] r) := rfl
def kac2 (v : Val) (Q : AR → Prop) : AR → Prop
  | .ok vs r2 => Q (.ok (v :: vs) r2)
  | .ex e r2 => Q (.ex e r2)
  | .bad => Q .bad
def kac (g : AF) (Q : AR → Prop) : ER → Prop
  | .ok _ v r1 => wA g r1 (kac2 v Q)
  | .ex e r1 => Q (.ex e r1)
  | .bad => Q .bad
theorem wA_cons {Q : AR → Prop} : wA (asCons f g) r Q = wE f r (kac g Q) := by
  unfold wA wE asCons frz
  cases f r with
  | ok o v r1 => simp only [kac, wA]; cases g r1 <;> rfl
  | _ => rfl
def kstar2 (ds : List Val) (Q : AR → Prop) : AR → Prop
  | .ok vs r2 => Q (.ok (ds ++ vs) r2)
  | .ex e r2 => Q (.ex e r2)
  | .bad => Q .bad
def kstar1 (g : AF) (r : Env) (Q : AR → Prop) : Option (Bool × Val) → Prop
  | some (true, .lst ds) => wA g r (kstar2 ds Q)
  | _ => Q .bad
def kstar (g : AF) (Q : AR → Prop) : ER → Prop
  | .ok _ v r1 => kstar1 g r1 Q (Plist [v])
  | .ex e r1 => Q (.ex e r1)
  | .bad => Q .bad
theorem wA_star {Q : AR → Prop} : wA (asStar f g) r Q = wE f r (kstar g Q) := by
  unfold wA wE asStar frz
  cases f r with
  | ok o v r1 =>
    simp only [kstar]
    rcases Plist [v] with _ | ⟨_ | _, w⟩
    · rfl
    · rfl
    · cases w <;> try rfl
      simp only [kstar1, wA]; cases g r1 <;> rfl
  | _ => rfl
def ktup (Q : ER → Prop) : AR → Prop
  | .ok vs r1 => (if vs.length ≤ 100000 then Q (.ok false (.tup vs) r1) else Q .bad)
  | .ex e r1 => Q (.ex e r1)
  | .bad => Q .bad
theorem wE_tup {Q : ER → Prop} : wE (tup g) r Q = wA g r (ktup Q) := by
  unfold wE wA tup
  cases g r with
  | ok vs r1 => simp only [ktup]; split <;> rfl
  | _ => rfl
def klst (Q : ER → Prop) : AR → Prop
  | .ok vs r1 => (if vs.length ≤ 100000 then Q (.ok true (.lst vs) r1) else Q .bad)
  | .ex e r1 => Q (.ex e r1)
  | .bad => Q .bad
theorem wE_lst {Q : ER → Prop} : wE (lst g) r Q = wA g r (klst Q) := by
  unfold wE wA lst
  cases g r with
  | ok vs r1 => simp only [klst]; split <;> rfl
  | _ => rfl
/-! calls -/
def kback (r : Env) (ix : Option Nat) (Q : ER → Prop) : GR → Prop
  | .ok o z out => Q (.ok o z (back r ix out))
  | .ex e out => Q (.ex e (back r ix out))
  | .bad => Q .bad
def kc1 (n : Nat) (g : GF) (Q : ER → Prop) (r : Env) (ix : Option Nat) : Option (List (Bool × Val)) → Prop
  | some as => (if lents as ≤ 1 ∧ as.length = n then wG g as (kback r ix Q) else Q .bad)
  | none => Q .bad
def kcall (n : Nat) (g : GF) (Q : ER → Prop) : OsR → Prop
  | .ok hs r1 => kc1 n g Q r1 (lentIx r1 hs) (lend r1 hs)
  | .ex e r1 => Q (.ex e r1)
  | .bad => Q .bad
theorem wE_call {g : GF} {Q : ER → Prop} : wE (callG n g fs) r Q = wOs fs r (kcall n g Q) := by
  unfold wE wOs callG
  cases fs r with
  | ok hs r1 =>
    simp only [kcall]
    cases lend r1 hs with
    | none => rfl
    | some as =>
      simp only [kc1, wG]
      split
      · cases g as <;> rfl
      · rfl
  | _ => rfl
def kd1 (Q : GR → Prop) : Option (Option (Bool × Val)) → Prop
  | some out => Q (.ok false .non out)
  | none => Q .bad
def kd2 (Q : GR → Prop) (o : Bool) (v : Val) : Option (Option (Bool × Val)) → Prop
  | some out => (if o = true ∧ out.map (·.1) = some false then Q .bad else Q (.ok o v out))
  | none => Q .bad
def kd3 (Q : GR → Prop) (e : Val) : Option (Option (Bool × Val)) → Prop
  | some out => Q (.ex e out)
  | none => Q .bad
def kdef (as : List (Bool × Val)) (Q : GR → Prop) : SR → Prop
  | .nx r => kd1 Q (outOf as r)
  | .rt o v r => kd2 Q o v (outOf as r)
  | .ex e r => kd3 Q e (outOf as r)
  | _ => Q .bad
theorem wG_run {ios : List Nat} {np N : Nat} {as : List (Bool × Val)} {Q : GR → Prop} (h1 : as.length = np) (h2 : ∀ i ∈ ownIx as, i ∈ ios) : wG (runDef ios np N b) as Q = wS b (as.map some ++ List.replicate (N - np) none) (kdef as Q) := by
  unfold wG wS runDef
  rw [if_pos ⟨h1, h2⟩]
  cases b (as.map some ++ List.replicate (N - np) none) with
  | nx r => simp only [kdef]; cases outOf as r <;> rfl
  | rt o v r =>
    simp only [kdef]
    cases outOf as r with
    | none => rfl
    | some out => simp only [kd2]; split <;> rfl
  | ex e r => simp only [kdef]; cases outOf as r <;> rfl
  | _ => rfl
/-! statements -/
def kseq (b' : SF) (Q : SR → Prop) : SR → Prop
  | .nx r' => wS b' r' Q
  | x => Q x
theorem wS_seq {Q : SR → Prop} : wS (seq b b') r Q = wS b r (kseq b' Q) := by
  unfold wS seq
  cases b r <;> rfl
theorem wS_skip {Q : SR → Prop} : wS skip r Q = Q (.nx r) := rfl
theorem wS_brk {Q : SR → Prop} : wS brk r Q = Q (.bk r) := rfl
theorem wS_cont {Q : SR → Prop} : wS cont r Q = Q (.ct r) := rfl
def kasg (i : Nat) (Q : SR → Prop) : ER → Prop
  | .ok o v r' => Q (.nx (r'.set i (some (o, v))))
  | .ex e r' => Q (.ex e r')
  | .bad => Q .bad
theorem wS_asg {Q : SR → Prop} : wS (asg i f) r Q = wE f r (kasg i Q) := by unfold wS wE asg; cases f r <;> rfl
def kdrop (Q : SR → Prop) : ER → Prop
  | .ok _ _ r' => Q (.nx r')
  | .ex e r' => Q (.ex e r')
  | .bad => Q .bad
theorem wS_drop {Q : SR → Prop} : wS (drop f) r Q = wE f r (kdrop Q) := by unfold wS wE drop; cases f r <;> rfl
def kret (Q : SR → Prop) : ER → Prop
  | .ok o v r' => Q (.rt o v r')
  | .ex e r' => Q (.ex e r')
  | .bad => Q .bad
theorem wS_ret {Q : SR → Prop} : wS (ret f) r Q = wE f r (kret Q) := by unfold wS wE ret; cases f r <;> rfl
def kif (b b' : SF) (Q : SR → Prop) : BR → Prop
  | .ok true r' => wS b r' Q
  | .ok false r' => wS b' r' Q
  | .ex e r' => Q (.ex e r')
  | .bad => Q .bad
theorem wS_if {Q : SR → Prop} : wS (ifS c b b') r Q = wB c r (kif b b' Q) := by
  unfold wS wB ifS
  rcases c r with ⟨_ | _, r'⟩ | _ | _ <;> rfl
def kaug2 (i : Nat) (P : Int → Int → Int) (a : Int) (Q : SR → Prop) : ER → Prop
  | .ok _ (.int b) r' => Q (.nx (r'.set i (some (false, .int (P a b)))))
  | .ok _ _ _ => Q .bad
  | .ex e r' => Q (.ex e r')
  | .bad => Q .bad
def kaug (i : Nat) (P : Int → Int → Int) (f : EF) (r : Env) (Q : SR → Prop) : Option Slot → Prop
  | some (some (false, .int a)) => wE f r (kaug2 i P a Q)
  | _ => Q .bad
theorem wS_aug {P : Int → Int → Int} {Q : SR → Prop} : wS (aug i P f) r Q = kaug i P f r Q r[i]? := by
  unfold wS aug
  rcases r[i]? with _ | _ | ⟨_ | _, v⟩
  · rfl
  · rfl
  · cases v with
    | int a =>
      simp only [kaug, wE]
      cases f r with
      | ok o v r' => cases v <;> rfl
      | _ => rfl
    | _ => rfl
  · rfl
/-! what is walked -/
def kitV1 (r : Env) (Q : IR → Prop) : Option (List Val) → Prop
  | some vs => Q (.ok vs r)
  | none => Q .bad
def kitV (Q : IR → Prop) : ER → Prop
  | .ok _ v r' => kitV1 r' Q (itemsOf v)
  | .ex e r' => Q (.ex e r')
  | .bad => Q .bad
theorem wI_V {Q : IR → Prop} : wI (itV f) r Q = wE f r (kitV Q) := by
  unfold wI wE itV frz
  cases f r with
  | ok o v r' => simp only [kitV]; cases itemsOf v <;> rfl
  | _ => rfl
def kitR (q : List Val → Option (List Val)) (Q : IR → Prop) : AR → Prop
  | .ok vs r' => kitV1 r' Q (q vs)
  | .ex e r' => Q (.ex e r')
  | .bad => Q .bad
theorem wI_R {q : List Val → Option (List Val)} {Q : IR → Prop} : wI (itR q g) r Q = wA g r (kitR q Q) := by
  unfold wI wA itR
  cases g r with
  | ok vs r' => simp only [kitR]; cases q vs <;> rfl
  | _ => rfl
theorem wI_zip {Q : IR → Prop} : wI (itZip g) r Q = wA g r (kitR zipOf Q) := wI_R
def kfor (t : TF) (b : SF) (Q : SR → Prop) : IR → Prop
  | .ok vs r1 => wL t b vs r1 Q
  | .ex e r1 => Q (.ex e r1)
  | .bad => Q .bad
theorem wS_for {fi : IF} {Q : SR → Prop} : wS (forS fi t b) r Q = wI fi r (kfor t b Q) := by
  unfold wS wI forS
  cases fi r <;> rfl
theorem wL_nil {Q : SR → Prop} : wL t b [] r Q = Q (.nx r) := rfl
def kL (t : TF) (b : SF) (vs : List Val) (Q : SR → Prop) : SR → Prop
  | .nx r2 => wL t b vs r2 Q
  | .ct r2 => wL t b vs r2 Q
  | .bk r2 => Q (.nx r2)
  | x => Q x
def kT (b : SF) (Q Q' : SR → Prop) : Option Env → Prop
  | some r1 => wS b r1 Q
  | none => Q' .bad
theorem wL_cons {vs : List Val} {Q : SR → Prop} : wL t b (v :: vs) r Q = kT b (kL t b vs Q) Q (t v r) := by
  unfold wL
  rw [forL]
  rcases ht : t v r with _ | r1
  · simp only [ht, kT]
  · simp only [ht, kT, wS]
    cases hb : b r1 <;> simp only [hb, kL] <;> rfl
/-- one turn of a loop: what is wished behind it -/
def kTurn (I : Env → Prop) (Q : SR → Prop) : SR → Prop
  | .nx r2 => I r2
  | .ct r2 => I r2
  | .bk r2 => Q (.nx r2)
  | x => Q x
theorem wL_inv {Q : SR → Prop} (I : List Val → Env → Prop) (hs : ∀ v vs r, I (v :: vs) r → kT b (kTurn (I vs) Q) Q (t v r)) (he : ∀ r, I [] r → Q (.nx r)) : ∀ vs r, I vs r → wL t b vs r Q
  | [], r, h => he r h
  | v :: vs, r, h => by
    rw [wL_cons]
    have := hs v vs r h
    cases ht : t v r with
    | none => rw [ht] at this; exact this
    | some r1 =>
      rw [ht] at this
      simp only [kT, wS] at this ⊢
      cases hb : b r1 with
      | nx r2 => rw [hb] at this; exact wL_inv I hs he vs r2 this
      | ct r2 => rw [hb] at this; exact wL_inv I hs he vs r2 this
      | bk r2 => rw [hb] at this; exact this
      | rt o v r2 => rw [hb] at this; exact this
      | ex e r2 => rw [hb] at this; exact this
      | bad => rw [hb] at this; exact this
def kW2 (c : BF) (b : SF) (n : Nat) (Q : SR → Prop) : SR → Prop
  | .nx r2 => wS (whl c b n) r2 Q
  | .ct r2 => wS (whl c b n) r2 Q
  | .bk r2 => Q (.nx r2)
  | x => Q x
def kW (c : BF) (b : SF) (n : Nat) (Q : SR → Prop) : BR → Prop
  | .ok true r1 => wS b r1 (kW2 c b n Q)
  | .ok false r1 => Q (.nx r1)
  | .ex e r1 => Q (.ex e r1)
  | .bad => Q .bad
theorem wS_whl {Q : SR → Prop} : wS (whl c b (n + 1)) r Q = wB c r (kW c b n Q) := by
  unfold wB wS
  rw [whl]
  rcases hc : c r with ⟨_ | _, r'⟩ | _ | _
  · simp only [hc, kW]
  · simp only [hc, kW, wS]; cases hb : b r' <;> simp only [hb, kW2] <;> rfl
  · simp only [hc, kW]
  · simp only [hc, kW]
/-- one turn of a while -/
def kTurnW (b : SF) (I : Env → Prop) (Q : SR → Prop) : BR → Prop
  | .ok true r1 => wS b r1 (kTurn I Q)
  | .ok false r1 => Q (.nx r1)
  | .ex e r1 => Q (.ex e r1)
  | .bad => Q .bad
theorem wW_inv {Q : SR → Prop} (I : Nat → Env → Prop) (hs : ∀ m r, I m r → wB c r (kTurnW b (fun r2 => ∃ k, k < m ∧ I k r2) Q)) : ∀ n m r, m < n → I m r → wS (whl c b n) r Q
  | 0, _, _, h, _ => absurd h (by omega)
  | n + 1, m, r, hm, h => by
    rw [wS_whl]
    have := hs m r h
    unfold wB at this ⊢
    rcases hc : c r with ⟨_ | _, r'⟩ | _ | _ <;> rw [hc] at this
    · exact this
    · simp only [kTurnW, kW, wS] at this ⊢
      cases hb : b r' with
      | nx r2 => rw [hb] at this; obtain ⟨k, hk, h2⟩ := this; exact wW_inv I hs n k r2 (by omega) h2
      | ct r2 => rw [hb] at this; obtain ⟨k, hk, h2⟩ := this; exact wW_inv I hs n k r2 (by omega) h2
      | bk r2 => rw [hb] at this; exact this
      | rt o v r2 => rw [hb] at this; exact this
      | ex e r2 => rw [hb] at this; exact this
      | bad => rw [hb] at this; exact this
    · exact this
    · exact this
/-! comprehensions -/
def klc2 (r1 : Env) (sl : List Nat) (Q : ER → Prop) : AR → Prop
  | .ok ys r2 => Q (.ok true (.lst ys) (restR r1 r2 sl))
  | _ => Q .bad
def klc (t : TF) (c : BF) (f : EF) (sl : List Nat) (Q : ER → Prop) : IR → Prop
  | .ok vs r1 => wC t c f sl vs [] (wipeR r1 sl) (klc2 r1 sl Q)
  | .ex e r1 => Q (.ex e r1)
  | .bad => Q .bad
theorem wE_lc {fi : IF} {sl : List Nat} {Q : ER → Prop} : wE (lc fi t c f sl) r Q = wI fi r (klc t c f sl Q) := by
  unfold wE wI lc
  cases fi r with
  | ok vs r1 => simp only [klc, wC]; cases lcL t c f sl vs [] (wipeR r1 sl) <;> rfl
  | _ => rfl
theorem wC_nil {sl : List Nat} {acc : List Val} {Q : AR → Prop} : wC t c f sl [] acc r Q = Q (.ok acc r) := rfl
def kC2 (t : TF) (c : BF) (f : EF) (sl : List Nat) (vs acc : List Val) (Q : AR → Prop) : ER → Prop
  | .ok _ y r3 => (if acc.length < 100000 then wC t c f sl vs (acc ++ [y]) (wipeR r3 sl) Q else Q .bad)
  | _ => Q .bad
def kC1 (t : TF) (c : BF) (f : EF) (sl : List Nat) (vs acc : List Val) (Q : AR → Prop) : BR → Prop
  | .ok true r2 => wE f r2 (kC2 t c f sl vs acc Q)
  | .ok false r2 => wC t c f sl vs acc (wipeR r2 sl) Q
  | _ => Q .bad
def kC0 (t : TF) (c : BF) (f : EF) (sl : List Nat) (vs acc : List Val) (Q : AR → Prop) : Option Env → Prop
  | some r1 => wB c r1 (kC1 t c f sl vs acc Q)
  | none => Q .bad
theorem wC_cons {sl : List Nat} {vs acc : List Val} {Q : AR → Prop} : wC t c f sl (v :: vs) acc r Q = kC0 t c f sl vs acc Q (t v r) := by
  unfold wC
  rw [lcL]
  rcases ht : t v r with _ | r1
  · simp only [ht, kC0]
  · simp only [ht, kC0, wB]
    rcases hc : c r1 with ⟨_ | _, r2⟩ | _ | _
    · simp only [hc, kC1, wC]
    · simp only [hc, kC1, wE, frz]
      cases hf : f r2 with
      | ok o y r3 => simp only [hf, kC2, wC]; split <;> rfl
      | _ => simp only [hf, kC2]
    · simp only [hc, kC1]
    · simp only [hc, kC1]
/-- one turn of a comprehension -/
def kU2 (sl : List Nat) (I : List Val → Env → Prop) (acc : List Val) : ER → Prop
  | .ok _ y r3 => acc.length < 100000 ∧ I (acc ++ [y]) (wipeR r3 sl)
  | _ => False
def kU1 (f : EF) (sl : List Nat) (I : List Val → Env → Prop) (acc : List Val) : BR → Prop
  | .ok true r2 => wE f r2 (kU2 sl I acc)
  | .ok false r2 => I acc (wipeR r2 sl)
  | _ => False
def kU0 (c : BF) (f : EF) (sl : List Nat) (I : List Val → Env → Prop) (acc : List Val) : Option Env → Prop
  | some r1 => wB c r1 (kU1 f sl I acc)
  | none => False
theorem wC_inv {sl : List Nat} {Q : AR → Prop} (I : List Val → List Val → Env → Prop) (hs : ∀ v vs acc r, I (v :: vs) acc r → kU0 c f sl (I vs) acc (t v r)) (he : ∀ acc r, I [] acc r → Q (.ok acc r)) : ∀ vs acc r, I vs acc r → wC t c f sl vs acc r Q
  | [], acc, r, h => he acc r h
  | v :: vs, acc, r, h => by
    rw [wC_cons]
    have := hs v vs acc r h
    cases ht : t v r with
    | none => rw [ht] at this; exact this.elim
    | some r1 =>
      rw [ht] at this
      simp only [kC0, kU0, wB] at this ⊢
      rcases hc : c r1 with ⟨_ | _, r2⟩ | _ | _ <;> rw [hc] at this
      · exact wC_inv I hs he vs acc _ this
      · simp only [kC1, kU1, wE] at this ⊢
        cases hf : f r2 with
        | ok o y r3 => rw [hf] at this; simp only [kC2, kU2] at this ⊢; rw [if_pos this.1]; exact wC_inv I hs he vs _ _ this.2
        | ex e r3 => rw [hf] at this; exact this.elim
        | bad => rw [hf] at this; exact this.elim
      · exact this.elim
      · exact this.elim
/-! the rest -/
theorem wP_no {Q : PR → Prop} : wP pNo r Q = Q (.ok none r) := rfl
def kpInt (Q : PR → Prop) : ER → Prop
  | .ok _ (.int i) r' => Q (.ok (some i) r')
  | .ok _ _ _ => Q .bad
  | .ex e r' => Q (.ex e r')
  | .bad => Q .bad
theorem wP_int {Q : PR → Prop} : wP (pInt f) r Q = wE f r (kpInt Q) := by
  unfold wP wE pInt
  cases f r with
  | ok o v r' => cases v <;> rfl
  | _ => rfl
def ksl4 (lo hi : Option Int) (r : Env) (Q : ER → Prop) : Option Val → Prop
  | some v => kp2 Q r (Psl v lo hi)
  | none => Q .bad
def ksl3 (h : Hd) (lo : Option Int) (Q : ER → Prop) : PR → Prop
  | .ok hi r3 => ksl4 lo hi r3 Q (h.get r3)
  | .ex e r3 => Q (.ex e r3)
  | .bad => Q .bad
def ksl2 (h : Hd) (fu : PF) (Q : ER → Prop) : PR → Prop
  | .ok lo r2 => wP fu r2 (ksl3 h lo Q)
  | .ex e r2 => Q (.ex e r2)
  | .bad => Q .bad
def ksl1 (fl fu : PF) (Q : ER → Prop) : OR → Prop
  | .ok h r1 => wP fl r1 (ksl2 h fu Q)
  | .ex e r1 => Q (.ex e r1)
  | .bad => Q .bad
theorem wE_slc {fl fu : PF} {Q : ER → Prop} : wE (slc fo fl fu) r Q = wO fo r (ksl1 fl fu Q) := by
  unfold wE wO slc
  cases fo r with
  | ok h r1 =>
    simp only [ksl1, wP]
    cases fl r1 with
    | ok lo r2 =>
      simp only [ksl2, wP]
      cases fu r2 with
      | ok hi r3 =>
        simp only [ksl3]
        cases h.get r3 with
        | none => rfl
        | some v => simp only [ksl4]; rcases Psl v lo hi with _ | ⟨o, z⟩ <;> rfl
      | _ => rfl
    | _ => rfl
  | _ => rfl
def kch5 (r : Env) (Q : ER → Prop) : Option (Bool × Val) → Prop
  | some (false, .bl b) => Q (.ok false (.bl b) r)
  | _ => Q .bad
def kch4 (P' : List Val → Option (Bool × Val)) (r : Env) (Q : ER → Prop) : Option (List Val) → Prop
  | some us => kch5 r Q (P' us)
  | none => Q .bad
def kch3b (P' : List Val → Option (Bool × Val)) (h2 : Hd) (Q : ER → Prop) : OR → Prop
  | .ok h3 r3 => kch4 P' r3 Q (getAll r3 [h2, h3])
  | .ex e r3 => Q (.ex e r3)
  | .bad => Q .bad
def kch3 (P' : List Val → Option (Bool × Val)) (fc : OF) (h2 : Hd) (r : Env) (Q : ER → Prop) : Option (Bool × Val) → Prop
  | some (false, .bl true) => wO fc r (kch3b P' h2 Q)
  | some (false, .bl false) => Q (.ok false (.bl false) r)
  | _ => Q .bad
def kch2 (P P' : List Val → Option (Bool × Val)) (fc : OF) (h2 : Hd) (r : Env) (Q : ER → Prop) : Option (List Val) → Prop
  | some vs => kch3 P' fc h2 r Q (P vs)
  | none => Q .bad
def kch1 (P P' : List Val → Option (Bool × Val)) (fc : OF) (h1 : Hd) (Q : ER → Prop) : OR → Prop
  | .ok h2 r2 => kch2 P P' fc h2 r2 Q (getAll r2 [h1, h2])
  | .ex e r2 => Q (.ex e r2)
  | .bad => Q .bad
def kch0 (P P' : List Val → Option (Bool × Val)) (fb fc : OF) (Q : ER → Prop) : OR → Prop
  | .ok h1 r1 => wO fb r1 (kch1 P P' fc h1 Q)
  | .ex e r1 => Q (.ex e r1)
  | .bad => Q .bad
theorem wE_chn {P P' : List Val → Option (Bool × Val)} {fb fc : OF} {Q : ER → Prop} : wE (chn P P' fo fb fc) r Q = wO fo r (kch0 P P' fb fc Q) := by
  unfold wE wO chn
  cases fo r with
  | ok h1 r1 =>
    simp only [kch0, wO]
    cases fb r1 with
    | ok h2 r2 =>
      simp only [kch1]
      cases getAll r2 [h1, h2] with
      | none => rfl
      | some vs =>
        simp only [kch2]
        rcases P vs with _ | ⟨_ | _, z⟩
        · rfl
        · cases z with
          | bl b =>
            cases b with
            | false => rfl
            | true =>
              simp only [kch3, wO]
              cases fc r2 with
              | ok h3 r3 =>
                simp only [kch3b]
                cases getAll r3 [h2, h3] with
                | none => rfl
                | some us =>
                  simp only [kch4]
                  rcases P' us with _ | ⟨_ | _, z⟩
                  · rfl
                  · cases z <;> rfl
                  · rfl
              | _ => rfl
          | _ => rfl
        · rfl
    | _ => rfl
  | _ => rfl
def koTy2 (T : String) (h : Hd) (r : Env) (Q : OR → Prop) : Option Val → Prop
  | some v => (if tyOf v = some T then Q (.ok h r) else Q .bad)
  | none => Q .bad
def koTy (T : String) (Q : OR → Prop) : OR → Prop
  | .ok h r1 => koTy2 T h r1 Q (h.get r1)
  | .ex e r1 => Q (.ex e r1)
  | .bad => Q .bad
theorem wO_Ty {T : String} {Q : OR → Prop} : wO (oTy T fo) r Q = wO fo r (koTy T Q) := by
  unfold wO oTy
  cases fo r with
  | ok h r1 =>
    simp only [koTy]
    cases h.get r1 with
    | none => rfl
    | some v => simp only [koTy2]; split <;> rfl
  | _ => rfl
def kmu3 (i : Nat) (r : Env) (Q : ER → Prop) : Option (Val × Val) → Prop
  | some (v', z) => Q (.ok false z (r.set i (some (true, v'))))
  | none => Q .bad
def kmu2 (P : MutF) (i : Nat) (vs : List Val) (r : Env) (Q : ER → Prop) : Option Slot → Prop
  | some (some (true, v)) => kmu3 i r Q (P v vs)
  | _ => Q .bad
def kmu1 (P : MutF) (i : Nat) (Q : ER → Prop) : AR → Prop
  | .ok vs r1 => kmu2 P i vs r1 Q r1[i]?
  | .ex e r1 => Q (.ex e r1)
  | .bad => Q .bad
def kmu (T : String) (P : MutF) (i : Nat) (g : AF) (r : Env) (Q : ER → Prop) : Option Slot → Prop
  | some (some (true, v0)) => (if tyOf v0 = some T then wA g r (kmu1 P i Q) else Q .bad)
  | _ => Q .bad
theorem wE_mut {T : String} {P : MutF} {Q : ER → Prop} : wE (mutE T i P g) r Q = kmu T P i g r Q r[i]? := by
  unfold wE mutE
  rcases r[i]? with _ | _ | ⟨_ | _, v0⟩
  · rfl
  · rfl
  · rfl
  · simp only [kmu]
    split
    · unfold wA
      cases g r with
      | ok vs r1 =>
        simp only [kmu1]
        rcases r1[i]? with _ | _ | ⟨_ | _, v⟩
        · rfl
        · rfl
        · rfl
        · simp only [kmu2]; rcases P v vs with _ | ⟨v', z⟩ <;> rfl
      | _ => rfl
    · rfl
def ksx4 (i : Nat) (r : Env) (Q : SR → Prop) : Option Val → Prop
  | some d' => Q (.nx (r.set i (some (true, d'))))
  | none => Q .bad
def ksx3 (i : Nat) (k v : Val) (r : Env) (Q : SR → Prop) : Option Slot → Prop
  | some (some (true, d)) => ksx4 i r Q (putIx d k v)
  | _ => Q .bad
def ksx2 (i : Nat) (v : Val) (Q : SR → Prop) : ER → Prop
  | .ok _ k r2 => ksx3 i k v r2 Q r2[i]?
  | .ex e r2 => Q (.ex e r2)
  | .bad => Q .bad
def ksx1 (i : Nat) (fk : EF) (v : Val) (r : Env) (Q : SR → Prop) : Option Slot → Prop
  | some (some (true, _)) => wE fk r (ksx2 i v Q)
  | _ => Q .bad
def ksx (i : Nat) (fk : EF) (Q : SR → Prop) : ER → Prop
  | .ok _ v r1 => ksx1 i fk v r1 Q r1[i]?
  | .ex e r1 => Q (.ex e r1)
  | .bad => Q .bad
theorem wS_setIx {fk : EF} {Q : SR → Prop} : wS (setIx i fk f) r Q = wE f r (ksx i fk Q) := by
  unfold wS wE setIx frz
  cases f r with
  | ok o v r1 =>
    simp only [ksx]
    rcases r1[i]? with _ | _ | ⟨_ | _, d0⟩
    · rfl
    · rfl
    · rfl
    · simp only [ksx1, wE]
      cases fk r1 with
      | ok o k r2 =>
        simp only [ksx2]
        rcases r2[i]? with _ | _ | ⟨_ | _, d⟩
        · rfl
        · rfl
        · rfl
        · simp only [ksx3]; cases putIx d k v <;> rfl
      | _ => rfl
  | _ => rfl
theorem wE_dNew {bb : Bool} {Q : ER → Prop} : wE (dNew bb) r Q = Q (.ok true (.dct bb []) r) := rfl
theorem wD_nil {Q : DR → Prop} : wD [] r Q = Q (.ok [] r) := rfl
def kdp3 (k v : Val) (Q : DR → Prop) : DR → Prop
  | .ok kvs r3 => Q (.ok ((k, v) :: kvs) r3)
  | x => Q x
def kdp2 (l : List (EF × EF)) (k : Val) (Q : DR → Prop) : ER → Prop
  | .ok _ v r2 => wD l r2 (kdp3 k v Q)
  | .ex e r2 => Q (.ex e r2)
  | .bad => Q .bad
def kdp1 (fv : EF) (l : List (EF × EF)) (Q : DR → Prop) : ER → Prop
  | .ok _ k r1 => wE fv r1 (kdp2 l k Q)
  | .ex e r1 => Q (.ex e r1)
  | .bad => Q .bad
theorem wD_cons {fk fv : EF} {l : List (EF × EF)} {Q : DR → Prop} : wD ((fk, fv) :: l) r Q = wE fk r (kdp1 fv l Q) := by
  unfold wD wE
  rw [dspL]
  unfold frz
  cases fk r with
  | ok o k r1 =>
    simp only [kdp1, wE]
    cases fv r1 with
    | ok o v r2 =>
      simp only [kdp2, wD]
      cases dspL l r2 <;> rfl
    | _ => rfl
  | _ => rfl
def kds2 (r : Env) (Q : ER → Prop) : Option (List (Val × Val)) → Prop
  | some ds => Q (.ok true (.dct false ds) r)
  | none => Q .bad
def kds (Q : ER → Prop) : DR → Prop
  | .ok kvs r1 => (if kvs.length ≤ 15 then kds2 r1 Q (putAll [] kvs) else Q .bad)
  | .ex e r1 => Q (.ex e r1)
  | .bad => Q .bad
theorem wE_dsp {l : List (EF × EF)} {Q : ER → Prop} : wE (dsp l) r Q = wD l r (kds Q) := by
  unfold wE wD dsp
  cases dspL l r with
  | ok kvs r1 =>
    simp only [kds]
    split
    · cases putAll [] kvs <;> rfl
    · rfl
  | _ => rfl
def kls2 (r : Env) (Q : ER → Prop) : Option (List Str) → Prop
  | some ss => (if ss.length ≤ 1000 then Q (.ok false (.int (metS ss ss.length).length) r) else Q .bad)
  | none => Q .bad
def kls (Q : ER → Prop) : ER → Prop
  | .ok _ (.tup ds) r' => kls2 r' Q (asStrs ds)
  | .ok _ _ _ => Q .bad
  | .ex e r' => Q (.ex e r')
  | .bad => Q .bad
theorem wE_lenSet {Q : ER → Prop} : wE (lenSet f) r Q = wE f r (kls Q) := by
  unfold wE lenSet frz
  cases f r with
  | ok o v r' =>
    cases v with
    | tup ds =>
      simp only [kls]
      cases asStrs ds with
      | none => rfl
      | some ss => simp only [kls2]; split <;> rfl
    | _ => rfl
  | _ => rfl
def kas2 (i j : Nat) (Q : SR → Prop) : AR → Prop
  | .ok [v, u] r1 => Q (.nx ((r1.set i (some (false, v))).set j (some (false, u))))
  | .ok _ _ => Q .bad
  | .ex e r1 => Q (.ex e r1)
  | .bad => Q .bad
theorem wS_asg2 {Q : SR → Prop} : wS (asg2 i j g) r Q = wA g r (kas2 i j Q) := by
  unfold wS wA asg2
  rcases g r with ⟨_ | ⟨v, _ | ⟨u, _ | ⟨w, vs⟩⟩⟩, r1⟩ | _ | _ <;> rfl
def kasT2 (Q : SR → Prop) : Option Env → Prop
  | some r2 => Q (.nx r2)
  | none => Q .bad
def kasT (t : TF) (Q : SR → Prop) : ER → Prop
  | .ok _ v r1 => kasT2 Q (t v r1)
  | .ex e r1 => Q (.ex e r1)
  | .bad => Q .bad
theorem wS_asgT {Q : SR → Prop} : wS (asgT t f) r Q = wE f r (kasT t Q) := by
  unfold wS wE asgT frz
  cases f r with
  | ok o v r1 => simp only [kasT]; cases t v r1 <;> rfl
  | _ => rfl
def kapp2 (hs : List Hd) (Q : OsR → Prop) : OsR → Prop
  | .ok ks r2 => Q (.ok (hs ++ ks) r2)
  | .ex e r2 => Q (.ex e r2)
  | .bad => Q .bad
def kapp (fs' : OsF) (Q : OsR → Prop) : OsR → Prop
  | .ok hs r1 => wOs fs' r1 (kapp2 hs Q)
  | .ex e r1 => Q (.ex e r1)
  | .bad => Q .bad
theorem wOs_app {Q : OsR → Prop} : wOs (osApp fs fs') r Q = wOs fs r (kapp fs' Q) := by
  unfold wOs osApp
  cases fs r with
  | ok hs r1 => simp only [kapp, wOs]; cases fs' r1 <;> rfl
  | _ => rfl
def kN (n : Nat) (Q : OsR → Prop) : OsR → Prop
  | .ok hs r1 => (if hs.length = n then Q (.ok hs r1) else Q .bad)
  | .ex e r1 => Q (.ex e r1)
  | .bad => Q .bad
theorem wOs_N {Q : OsR → Prop} : wOs (osN n fs) r Q = wOs fs r (kN n Q) := by
  unfold wOs osN
  cases fs r with
  | ok hs r1 => simp only [kN]; split <;> rfl
  | _ => rfl
def kpick2 (r : Env) (Q : OsR → Prop) : Option (List Hd) → Prop
  | some ks => Q (.ok ks r)
  | none => Q .bad
def kpick (ix : List Nat) (Q : OsR → Prop) : OsR → Prop
  | .ok hs r1 => kpick2 r1 Q (pick ix hs)
  | .ex e r1 => Q (.ex e r1)
  | .bad => Q .bad
theorem wOs_pick {ix : List Nat} {Q : OsR → Prop} : wOs (osPick ix fs) r Q = wOs fs r (kpick ix Q) := by
  unfold wOs osPick
  cases fs r with
  | ok hs r1 => simp only [kpick]; cases pick ix hs <;> rfl
  | _ => rfl
end
/-! a reading becomes a run's value -/
theorem wG_ok {g : GF} {as : List (Bool × Val)} {o : Bool} {v : Val} {out : Option (Bool × Val)} : wG g as (fun x => x = .ok o v out) ↔ g as = .ok o v out := Iff.rfl
/-- a comprehension whose turns leave the slots as they are -/
theorem wC_map {α : Type} {t : TF} {c : BF} {f : EF} {sl : List Nat} {env : Env} {Q : AR → Prop} (y z : α → Val) (p : α → Bool) (xs : List α)
    (h : ∀ x ∈ xs, ∃ r1, t (y x) env = some r1 ∧ wB c r1 (fun s => s = .ok (p x) r1) ∧ wipeR r1 sl = env ∧ (p x = true → wE f r1 fun s => ∃ o r3, s = .ok o (z x) r3 ∧ wipeR r3 sl = env)) (hl : xs.length ≤ 100000)
    (q : Q (.ok ((xs.filter p).map z) env)) : wC t c f sl (xs.map y) [] env Q := by
  have : ∀ (xs : List α) (acc : List Val), (∀ x ∈ xs, ∃ r1, t (y x) env = some r1 ∧ wB c r1 (fun s => s = .ok (p x) r1) ∧ wipeR r1 sl = env ∧ (p x = true → wE f r1 fun s => ∃ o r3, s = .ok o (z x) r3 ∧ wipeR r3 sl = env)) → acc.length + xs.length ≤ 100000 →
      lcL t c f sl (xs.map y) acc env = .ok (acc ++ (xs.filter p).map z) env := by
    intro xs
    induction xs with
    | nil => intro acc _ _; simp [lcL]
    | cons x xs ih =>
      intro acc h hl
      obtain ⟨r1, e1, e2, e3, e4⟩ := h x (by simp)
      unfold wB at e2
      rw [List.length_cons] at hl
      rw [List.map_cons, lcL]
      cases hp : p x with
      | false =>
        rw [hp] at e2
        simp only [e1, e2, e3]
        rw [ih acc (fun x' hx' => h x' (List.mem_cons_of_mem _ hx')) (by omega), List.filter_cons_of_neg (by simp [hp])]
      | true =>
        rw [hp] at e2
        obtain ⟨o, r3, e5, e6⟩ := e4 hp
        have ha : acc.length < 100000 := by omega
        simp only [e1, e2, frz, e5, e6, if_pos ha]
        rw [ih (acc ++ [z x]) (fun x' hx' => h x' (List.mem_cons_of_mem _ hx')) (by simp; omega), List.filter_cons_of_pos (by simp [hp])]
        simp
  unfold wC
  rw [this xs [] h (by simpa using hl)]
  simpa using q
/-! the equations by names -/
def kN_e1 := @kN.eq_1
def kN_e2 := @kN.eq_2
def kN_e3 := @kN.eq_3
def kT_e1 := @kT.eq_1
def kT_e2 := @kT.eq_2
def kTurn_e1 := @kTurn.eq_1
def kTurn_e2 := @kTurn.eq_2
def kTurn_e3 := @kTurn.eq_3
def kTurn_e4 := @kTurn.eq_4
def kTurnW_e1 := @kTurnW.eq_1
def kTurnW_e2 := @kTurnW.eq_2
def kTurnW_e3 := @kTurnW.eq_3
def kTurnW_e4 := @kTurnW.eq_4
def kU0_e1 := @kU0.eq_1
def kU0_e2 := @kU0.eq_2
def kU1_e1 := @kU1.eq_1
def kU1_e2 := @kU1.eq_2
def kU1_e3 := @kU1.eq_3
def kU2_e1 := @kU2.eq_1
def kU2_e2 := @kU2.eq_2
def kac_e1 := @kac.eq_1
def kac_e2 := @kac.eq_2
def kac_e3 := @kac.eq_3
def kac2_e1 := @kac2.eq_1
def kac2_e2 := @kac2.eq_2
def kac2_e3 := @kac2.eq_3
def kand_e1 := @kand.eq_1
def kand_e2 := @kand.eq_2
def kandV_e1 := @kandV.eq_1
def kandV_e2 := @kandV.eq_2
def kandV_e3 := @kandV.eq_3
def kandV_e4 := @kandV.eq_4
def kapp_e1 := @kapp.eq_1
def kapp_e2 := @kapp.eq_2
def kapp_e3 := @kapp.eq_3
def kapp2_e1 := @kapp2.eq_1
def kapp2_e2 := @kapp2.eq_2
def kapp2_e3 := @kapp2.eq_3
def kas2_e1 := @kas2.eq_1
def kas2_e2 := @kas2.eq_2
def kas2_e3 := @kas2.eq_3
def kas2_e4 := @kas2.eq_4
def kasT_e1 := @kasT.eq_1
def kasT_e2 := @kasT.eq_2
def kasT_e3 := @kasT.eq_3
def kasT2_e1 := @kasT2.eq_1
def kasT2_e2 := @kasT2.eq_2
def kasg_e1 := @kasg.eq_1
def kasg_e2 := @kasg.eq_2
def kasg_e3 := @kasg.eq_3
def kaug_e1 := @kaug.eq_1
def kaug_e2 := @kaug.eq_2
def kaug2_e1 := @kaug2.eq_1
def kaug2_e2 := @kaug2.eq_2
def kaug2_e3 := @kaug2.eq_3
def kaug2_e4 := @kaug2.eq_4
def kback_e1 := @kback.eq_1
def kback_e2 := @kback.eq_2
def kback_e3 := @kback.eq_3
def kc1_e1 := @kc1.eq_1
def kc1_e2 := @kc1.eq_2
def kcall_e1 := @kcall.eq_1
def kcall_e2 := @kcall.eq_2
def kcall_e3 := @kcall.eq_3
def kch0_e1 := @kch0.eq_1
def kch0_e2 := @kch0.eq_2
def kch0_e3 := @kch0.eq_3
def kch1_e1 := @kch1.eq_1
def kch1_e2 := @kch1.eq_2
def kch1_e3 := @kch1.eq_3
def kch2_e1 := @kch2.eq_1
def kch2_e2 := @kch2.eq_2
def kch3_e1 := @kch3.eq_1
def kch3_e2 := @kch3.eq_2
def kch3_e3 := @kch3.eq_3
def kch3b_e1 := @kch3b.eq_1
def kch3b_e2 := @kch3b.eq_2
def kch3b_e3 := @kch3b.eq_3
def kch4_e1 := @kch4.eq_1
def kch4_e2 := @kch4.eq_2
def kch5_e1 := @kch5.eq_1
def kch5_e2 := @kch5.eq_2
def kcons_e1 := @kcons.eq_1
def kcons_e2 := @kcons.eq_2
def kcons_e3 := @kcons.eq_3
def kcons2_e1 := @kcons2.eq_1
def kcons2_e2 := @kcons2.eq_2
def kcons2_e3 := @kcons2.eq_3
def kd1_e1 := @kd1.eq_1
def kd1_e2 := @kd1.eq_2
def kd2_e1 := @kd2.eq_1
def kd2_e2 := @kd2.eq_2
def kd3_e1 := @kd3.eq_1
def kd3_e2 := @kd3.eq_2
def kdef_e1 := @kdef.eq_1
def kdef_e2 := @kdef.eq_2
def kdef_e3 := @kdef.eq_3
def kdef_e4 := @kdef.eq_4
def kdp1_e1 := @kdp1.eq_1
def kdp1_e2 := @kdp1.eq_2
def kdp1_e3 := @kdp1.eq_3
def kdp2_e1 := @kdp2.eq_1
def kdp2_e2 := @kdp2.eq_2
def kdp2_e3 := @kdp2.eq_3
def kdp3_e1 := @kdp3.eq_1
def kdp3_e2 := @kdp3.eq_2
def kdrop_e1 := @kdrop.eq_1
def kdrop_e2 := @kdrop.eq_2
def kdrop_e3 := @kdrop.eq_3
def kds_e1 := @kds.eq_1
def kds_e2 := @kds.eq_2
def kds_e3 := @kds.eq_3
def kds2_e1 := @kds2.eq_1
def kds2_e2 := @kds2.eq_2
def kfor_e1 := @kfor.eq_1
def kfor_e2 := @kfor.eq_2
def kfor_e3 := @kfor.eq_3
def kfrz_e1 := @kfrz.eq_1
def kfrz_e2 := @kfrz.eq_2
def kfrz_e3 := @kfrz.eq_3
def kif_e1 := @kif.eq_1
def kif_e2 := @kif.eq_2
def kif_e3 := @kif.eq_3
def kif_e4 := @kif.eq_4
def kitR_e1 := @kitR.eq_1
def kitR_e2 := @kitR.eq_2
def kitR_e3 := @kitR.eq_3
def kitV_e1 := @kitV.eq_1
def kitV_e2 := @kitV.eq_2
def kitV_e3 := @kitV.eq_3
def kitV1_e1 := @kitV1.eq_1
def kitV1_e2 := @kitV1.eq_2
def kite_e1 := @kite.eq_1
def kite_e2 := @kite.eq_2
def kite_e3 := @kite.eq_3
def kite_e4 := @kite.eq_4
def klc_e1 := @klc.eq_1
def klc_e2 := @klc.eq_2
def klc_e3 := @klc.eq_3
def klc2_e1 := @klc2.eq_1
def klc2_e2 := @klc2.eq_2
def kls_e1 := @kls.eq_1
def kls_e2 := @kls.eq_2
def kls_e3 := @kls.eq_3
def kls_e4 := @kls.eq_4
def kls2_e1 := @kls2.eq_1
def kls2_e2 := @kls2.eq_2
def klst_e1 := @klst.eq_1
def klst_e2 := @klst.eq_2
def klst_e3 := @klst.eq_3
def kmu_e1 := @kmu.eq_1
def kmu_e2 := @kmu.eq_2
def kmu1_e1 := @kmu1.eq_1
def kmu1_e2 := @kmu1.eq_2
def kmu1_e3 := @kmu1.eq_3
def kmu2_e1 := @kmu2.eq_1
def kmu2_e2 := @kmu2.eq_2
def kmu3_e1 := @kmu3.eq_1
def kmu3_e2 := @kmu3.eq_2
def kmv_e1 := @kmv.eq_1
def kmv_e2 := @kmv.eq_2
def knot_e1 := @knot.eq_1
def knot_e2 := @knot.eq_2
def knotV_e1 := @knotV.eq_1
def knotV_e2 := @knotV.eq_2
def knotV_e3 := @knotV.eq_3
def koS_e1 := @koS.eq_1
def koS_e2 := @koS.eq_2
def koTy_e1 := @koTy.eq_1
def koTy_e2 := @koTy.eq_2
def koTy_e3 := @koTy.eq_3
def koTy2_e1 := @koTy2.eq_1
def koTy2_e2 := @koTy2.eq_2
def koV_e1 := @koV.eq_1
def koV_e2 := @koV.eq_2
def koV_e3 := @koV.eq_3
def kor_e1 := @kor.eq_1
def kor_e2 := @kor.eq_2
def korV_e1 := @korV.eq_1
def korV_e2 := @korV.eq_2
def korV_e3 := @korV.eq_3
def korV_e4 := @korV.eq_4
def kp1_e1 := @kp1.eq_1
def kp1_e2 := @kp1.eq_2
def kp2_e1 := @kp2.eq_1
def kp2_e2 := @kp2.eq_2
def kpInt_e1 := @kpInt.eq_1
def kpInt_e2 := @kpInt.eq_2
def kpInt_e3 := @kpInt.eq_3
def kpInt_e4 := @kpInt.eq_4
def kpick_e1 := @kpick.eq_1
def kpick_e2 := @kpick.eq_2
def kpick_e3 := @kpick.eq_3
def kpick2_e1 := @kpick2.eq_1
def kpick2_e2 := @kpick2.eq_2
def kprim_e1 := @kprim.eq_1
def kprim_e2 := @kprim.eq_2
def kprim_e3 := @kprim.eq_3
def kret_e1 := @kret.eq_1
def kret_e2 := @kret.eq_2
def kret_e3 := @kret.eq_3
def kseq_e1 := @kseq.eq_1
def kseq_e2 := @kseq.eq_2
def ksl1_e1 := @ksl1.eq_1
def ksl1_e2 := @ksl1.eq_2
def ksl1_e3 := @ksl1.eq_3
def ksl2_e1 := @ksl2.eq_1
def ksl2_e2 := @ksl2.eq_2
def ksl2_e3 := @ksl2.eq_3
def ksl3_e1 := @ksl3.eq_1
def ksl3_e2 := @ksl3.eq_2
def ksl3_e3 := @ksl3.eq_3
def ksl4_e1 := @ksl4.eq_1
def ksl4_e2 := @ksl4.eq_2
def kstar_e1 := @kstar.eq_1
def kstar_e2 := @kstar.eq_2
def kstar_e3 := @kstar.eq_3
def kstar1_e1 := @kstar1.eq_1
def kstar1_e2 := @kstar1.eq_2
def kstar2_e1 := @kstar2.eq_1
def kstar2_e2 := @kstar2.eq_2
def kstar2_e3 := @kstar2.eq_3
def ksx_e1 := @ksx.eq_1
def ksx_e2 := @ksx.eq_2
def ksx_e3 := @ksx.eq_3
def ksx1_e1 := @ksx1.eq_1
def ksx1_e2 := @ksx1.eq_2
def ksx2_e1 := @ksx2.eq_1
def ksx2_e2 := @ksx2.eq_2
def ksx2_e3 := @ksx2.eq_3
def ksx3_e1 := @ksx3.eq_1
def ksx3_e2 := @ksx3.eq_2
def ksx4_e1 := @ksx4.eq_1
def ksx4_e2 := @ksx4.eq_2
def ktst_e1 := @ktst.eq_1
def ktst_e2 := @ktst.eq_2
def ktst_e3 := @ktst.eq_3
def ktst_e4 := @ktst.eq_4
def ktup_e1 := @ktup.eq_1
def ktup_e2 := @ktup.eq_2
def ktup_e3 := @ktup.eq_3
def kvar_e1 := @kvar.eq_1
def kvar_e2 := @kvar.eq_2
def kvar_e3 := @kvar.eq_3
end M
/-! MPV: plain facts of values: names, dicts with text keys, ranges, what is in. -/
namespace M
open PySem L2

/-! texts by their signs -/
def mk (l : List Nat) : Str := ⟨l.toArray⟩
theorem mk_list (a : List Nat) : (mk a).cps.toList = a := by simp [mk]
theorem mk_eta (s : Str) : mk s.cps.toList = s := by
  show (⟨s.cps.toList.toArray⟩ : Str) = s
  simp
theorem mk_inj {a b : List Nat} (h : mk a = mk b) : a = b := by
  have : (mk a).cps.toList = (mk b).cps.toList := by rw [h]
  simpa [mk] using this
theorem mk_len (a : List Nat) : (mk a).length = a.length := by show a.toArray.size = _; simp
theorem mk_app (a b : List Nat) : mk a ++ mk b = mk (a ++ b) := by
  show (⟨a.toArray ++ b.toArray⟩ : Str) = _
  simp [mk]
/-- a name of a row -/
def IsName (s : Str) : Prop := ∃ l : List Nat, s = mk l ∧ 1 ≤ l.length ∧ l.length ≤ 8 ∧ ∀ c ∈ l, 97 ≤ c ∧ c ≤ 122
def CpOk (s : Str) : Prop := ∀ c ∈ s.cps.toList, c < 0x110000
theorem IsName.cp {s : Str} (h : IsName s) : CpOk s := by
  obtain ⟨l, rfl, _, _, h⟩ := h
  intro c hc
  rw [mk_list] at hc
  have := h c hc
  omega
theorem IsName.len {s : Str} (h : IsName s) : 1 ≤ s.length ∧ s.length ≤ 8 := by
  obtain ⟨l, rfl, h1, h2, _⟩ := h
  rw [mk_len]; exact ⟨h1, h2⟩
theorem padd_mk (a b : List Nat) (h : a.length + b.length ≤ 100000) : Padd [.str (mk a), .str (mk b)] = some (false, .str (mk (a ++ b))) := by
  rw [padd_str _ _ (by rw [mk_len, mk_len]; exact h), mk_app]
/-! lists of texts -/
def unstr : Val → Str
  | .str s => s
  | _ => ⟨#[]⟩
theorem unstr_map (ss : List Str) : (ss.map Val.str).map unstr = ss := by
  rw [List.map_map]
  exact (List.map_congr_left (fun _ _ => rfl)).trans (List.map_id ss)
theorem perm_strs {ys : List Val} {ss : List Str} (h : ys.Perm (ss.map Val.str)) : ∃ zs : List Str, ys = zs.map Val.str ∧ zs.Perm ss := by
  refine ⟨ys.map unstr, ?_, ?_⟩
  · rw [List.map_map]
    refine ((List.map_congr_left fun y hy => ?_).trans (List.map_id ys)).symm
    obtain ⟨s, _, rfl⟩ := List.mem_map.mp (h.subset hy)
    rfl
  · have := h.map unstr
    rwa [unstr_map] at this
/-! ranges -/
def nums (n : Nat) : List Val := (List.range n).map fun k => .int (k : Nat)
theorem upTo_nums (n : Nat) : M.upTo 0 n = nums n := by simp [M.upTo, nums]
theorem rng_nums (j : Int) (h : 0 ≤ j ∧ j < 1000000000) : rng1 [.int j] = some (nums j.toNat) := by
  simp only [rng1]
  rw [if_pos (small_ok h.1 (by omega)), upTo_nums]
theorem rng_nat (n : Nat) (h : n < 1000000000) : rng1 [.int (n : Nat)] = some (nums n) := by
  rw [rng_nums _ ⟨by omega, by omega⟩]; simp
theorem drop_step {α : Type} {l : List α} {k : Nat} {v : α} {vs : List α} (e : v :: vs = l.drop k) : ∃ h : k < l.length, v = l[k] ∧ vs = l.drop (k + 1) := by
  have h : k < l.length := by
    rcases Nat.lt_or_ge k l.length with z | z
    · exact z
    · rw [List.drop_eq_nil_of_le z] at e; cases e
  rw [List.drop_eq_getElem_cons h] at e
  cases e
  exact ⟨h, rfl, rfl⟩
theorem drop_end {α : Type} {l : List α} {k : Nat} (e : [] = l.drop k) (hk : k ≤ l.length) : k = l.length := by
  rcases Nat.lt_or_ge k l.length with z | z
  · rw [List.drop_eq_getElem_cons z] at e; cases e
  · omega
theorem nums_len (n : Nat) : (nums n).length = n := by simp [nums]
theorem nums_get {n k : Nat} (h : k < (nums n).length) : (nums n)[k] = .int (k : Nat) := by simp [nums]
theorem perm_erase {α : Type} : ∀ (l : List α) (n : Nat) (h : n < l.length), (l[n] :: l.eraseIdx n).Perm l
  | x :: l, 0, _ => by simp
  | x :: l, n + 1, h => by
    have := perm_erase l n (by simpa using h)
    simp only [List.getElem_cons_succ, List.eraseIdx_cons_succ]
    exact (List.Perm.swap _ _ _).trans (this.cons x)
theorem ixN_ok {n : Nat} {i : Int} (h0 : 0 ≤ i) (h1 : i < n) : ixN n i = some i.toNat := by
  unfold ixN
  rw [if_pos h0, if_pos h1]
theorem ixN_last {n : Nat} (h : 0 < n) : ixN n (-1) = some (n - 1) := by
  unfold ixN
  rw [if_neg (by decide), if_pos (by omega)]
  congr 1
  omega
theorem pix_lst {xs : List Val} {i : Int} (h0 : 0 ≤ i) (h1 : i.toNat < xs.length) : Pix [.lst xs, .int i] = some (false, xs[i.toNat]) := by
  simp only [Pix, atI, ixN_ok h0 (by omega : i < xs.length), Option.bind_some, List.getElem?_eq_getElem h1, Option.map_some]
theorem pix_tup {xs : List Val} {i : Int} (h0 : 0 ≤ i) (h1 : i.toNat < xs.length) : Pix [.tup xs, .int i] = some (false, xs[i.toNat]) := by
  simp only [Pix, atI, ixN_ok h0 (by omega : i < xs.length), Option.bind_some, List.getElem?_eq_getElem h1, Option.map_some]
theorem pix_strs {ss : List Str} {i : Int} (h0 : 0 ≤ i) (h1 : i.toNat < ss.length) : Pix [.lst (ss.map .str), .int i] = some (false, .str ss[i.toNat]) := by
  rw [pix_lst h0 (by simpa using h1)]; simp
theorem pix_tstrs {ss : List Str} {i : Int} (h0 : 0 ≤ i) (h1 : i.toNat < ss.length) : Pix [.tup (ss.map .str), .int i] = some (false, .str ss[i.toNat]) := by
  rw [pix_tup h0 (by simpa using h1)]; simp
theorem pix_last {xs : List Val} (h : 0 < xs.length) : Pix [.lst xs, .int (-1)] = some (false, xs[xs.length - 1]) := by
  simp only [Pix, atI, ixN_last h, Option.bind_some, List.getElem?_eq_getElem (by omega : xs.length - 1 < xs.length), Option.map_some]
theorem mapp {ds : List Val} {v : Val} (h : ds.length < 100000) : Mappend (.lst ds) [v] = some (.lst (ds ++ [v]), .non) := by
  simp only [Mappend]; rw [if_pos h]
/-! dicts with text keys -/
def sd (ps : List (Str × Val)) : List (Val × Val) := ps.map fun p => (.str p.1, p.2)
theorem dGet_sd (k : Str) : ∀ ps : List (Str × Val), dGet (sd ps) (.inr k) = ps.lookup k
  | [] => rfl
  | p :: ps => by
    have ih := dGet_sd k ps
    unfold dGet at ih ⊢
    simp only [sd, List.map_cons, List.find?_cons, M.keyIs, List.lookup] at ih ⊢
    cases h : k == p.1 with
    | true => simp
    | false => simpa using ih
theorem sd_any (k : Str) (ps : List (Str × Val)) : ((sd ps).any fun p => M.keyIs (.inr k) p.1) = decide (k ∈ ps.map (·.1)) := by
  rw [Bool.eq_iff_iff]
  simp only [sd, List.any_map, List.any_eq_true, Function.comp, M.keyIs, beq_iff_eq, decide_eq_true_eq, List.mem_map]
  constructor
  · rintro ⟨p, hp, e⟩; exact ⟨p, hp, e.symm⟩
  · rintro ⟨p, hp, e⟩; exact ⟨p, hp, e.symm⟩
theorem dPut_new {k : Str} {v : Val} {ps : List (Str × Val)} (h : k ∉ ps.map (·.1)) : dPut (sd ps) (.inr k) v = sd (ps ++ [(k, v)]) := by
  unfold dPut
  rw [sd_any, decide_eq_false h]
  simp [sd, M.kv]
theorem sd_len (ps : List (Str × Val)) : (sd ps).length = ps.length := by simp [sd]
theorem putIx_new {k : Str} {v : Val} {ps : List (Str × Val)} (h : k ∉ ps.map (·.1)) (hl : ps.length < 100000) : putIx (.dct false (sd ps)) (.str k) v = some (.dct false (sd (ps ++ [(k, v)]))) := by
  simp only [putIx, M.keyOf, sd_len]
  rw [if_pos hl, dPut_new h]
theorem pix_sd (k : Str) (ps : List (Str × Val)) : Pix [.dct false (sd ps), .str k] = (ps.lookup k).map fun d => (false, d) := by
  simp only [Pix, M.keyOf, dGet_sd]
theorem lookup_mem {α : Type} {k : Str} {v : α} : ∀ {ps : List (Str × α)}, ps.lookup k = some v → (k, v) ∈ ps
  | [], h => by cases h
  | (a, b) :: ps, h => by
    rw [List.lookup_cons] at h
    cases e : k == a with
    | true => rw [e] at h; cases h; rw [beq_iff_eq.mp e]; exact List.mem_cons_self
    | false => rw [e] at h; exact List.mem_cons_of_mem _ (lookup_mem h)
theorem lookup_some {α : Type} {k : Str} : ∀ {ps : List (Str × α)}, k ∈ ps.map (·.1) → ∃ v, ps.lookup k = some v
  | [], h => by cases h
  | (a, b) :: ps, h => by
    rw [List.lookup_cons]
    cases e : k == a with
    | true => exact ⟨b, rfl⟩
    | false =>
      refine lookup_some ?_
      rw [List.map_cons] at h
      rcases List.mem_cons.mp h with z | z
      · subst z; simp at e
      · exact z
theorem lookup_none {α : Type} {k : Str} : ∀ {ps : List (Str × α)}, k ∉ ps.map (·.1) → ps.lookup k = none
  | [], _ => rfl
  | (a, b) :: ps, h => by
    rw [List.lookup_cons]
    simp only [List.map_cons, List.mem_cons, not_or] at h
    rw [show (k == a) = false from beq_eq_false_iff_ne.mpr h.1]
    exact lookup_none h.2
theorem lookup_isSome {α : Type} (k : Str) (ps : List (Str × α)) : (ps.lookup k).isSome = decide (k ∈ ps.map (·.1)) := by
  by_cases h : k ∈ ps.map (·.1)
  · obtain ⟨v, e⟩ := lookup_some h
    rw [e, decide_eq_true h]; rfl
  · rw [lookup_none h, decide_eq_false h]; rfl
theorem pin_sd (k : Str) (ps : List (Str × Val)) : PinX [.str k, .dct false (sd ps)] = some (false, .bl (decide (k ∈ ps.map (·.1)))) := by
  simp only [PinX, orP, PinD, M.keyOf, dGet_sd, lookup_isSome]
theorem pnotin_sd (k : Str) (ps : List (Str × Val)) : PnotInX [.str k, .dct false (sd ps)] = some (false, .bl (!decide (k ∈ ps.map (·.1)))) := by
  simp only [PnotInX, orP, PnotInD, M.keyOf, dGet_sd, lookup_isSome]
theorem sd_keys (ps : List (Str × Val)) : (sd ps).map (·.1) = ps.map fun p => .str p.1 := by simp [sd]
/-! what is in a list, in a tuple -/
theorem eqv_str (a b : Str) : PyData.eqv (.str a) (.str b) = (a == b) := by simp [PyData.eqv]
theorem any_strs (x : Str) (ss : List Str) : ((ss.map PyData.str).any fun z => PyData.eqv z (.str x)) = decide (x ∈ ss) := by
  rw [Bool.eq_iff_iff]
  simp only [List.any_map, List.any_eq_true, Function.comp, eqv_str, beq_iff_eq, decide_eq_true_eq]
  constructor
  · rintro ⟨p, hp, e⟩; rw [← e]; exact hp
  · intro h; exact ⟨x, h, rfl⟩
theorem shp_str {s : Str} (h : CpOk s) : shp (.str s) = true := by
  have hs : PyData.strOk s = true := by
    unfold PyData.strOk
    rw [Array.all_eq_true_iff_forall_mem]
    intro c hc
    exact decide_eq_true (h c (by simpa using hc))
  show SeqAt.shaped _ = true
  simp [SeqAt.shaped, PyData.canLay0, PyData.depth, hs]
theorem pin_tup (x : Str) (ss : List Str) : PinX [.str x, .tup (ss.map .str)] = some (false, .bl (decide (x ∈ ss))) := by
  have h1 : (ss.map PyData.str).all flatD = true := by simp [flatD]
  simp only [PinX, orP, PinD, Pin, inOf, inTup, toD, toDs_strs, flatD, h1, and_self, if_true, Option.map_some, any_strs]
theorem pnotin_tup (x : Str) (ss : List Str) : PnotInX [.str x, .tup (ss.map .str)] = some (false, .bl (!decide (x ∈ ss))) := by
  have h1 : (ss.map PyData.str).all flatD = true := by simp [flatD]
  simp only [PnotInX, orP, PnotInD, PnotIn, inOf, inTup, toD, toDs_strs, flatD, h1, and_self, if_true, Option.map_some, any_strs]
theorem pin_lst (x : Str) (ss : List Str) (hx : CpOk x) (h : ∀ s ∈ ss, CpOk s) : PinX [.str x, .lst (ss.map .str)] = some (false, .bl (decide (x ∈ ss))) := by
  simp only [PinX, orP, PinD, Pin, inOf, toD, toDs_strs, shp_str hx, shp_strs ss h, and_self, if_true, any_strs]
theorem pnotin_lst (x : Str) (ss : List Str) (hx : CpOk x) (h : ∀ s ∈ ss, CpOk s) : PnotInX [.str x, .lst (ss.map .str)] = some (false, .bl (!decide (x ∈ ss))) := by
  simp only [PnotInX, orP, PnotInD, PnotIn, inOf, toD, toDs_strs, shp_str hx, shp_strs ss h, and_self, if_true, any_strs]
theorem peq_nilX (ss : List Str) (h : ∀ s ∈ ss, CpOk s) : PeqX [.lst (ss.map .str), .lst []] = some (false, .bl (decide (ss = []))) := by
  have := peq_nil ss h
  simpa [PeqX, orP, PeqS] using this
theorem peqI (i j : Int) : PeqX [.int i, .int j] = some (false, .bl (decide (i = j))) := by
  simp only [PeqX, orP, PeqS]
  congr 2
theorem peqT (i j : Str) : PeqX [.str i, .str j] = some (false, .bl (decide (i = j))) := by
  simp only [PeqX, orP, PeqS]
  congr 2
theorem pneT (i j : Str) : PneX [.str i, .str j] = some (false, .bl (!decide (i = j))) := by
  simp only [PneX, orP, PneS]
  congr 2
theorem pneI (i j : Int) : PneX [.int i, .int j] = some (false, .bl (!decide (i = j))) := by
  simp only [PneX, orP, PneS]
  congr 2
theorem asStrs_map (ss : List Str) : asStrs (ss.map Val.str) = some ss := by
  induction ss with
  | nil => rfl
  | cons s ss ih => simp [asStrs, ih]
/-! sums and products of nums that stay small -/
theorem pmodI {i j : Int} (h : 0 < j) : Pmod [.int i, .int j] = some (false, .int (i % j)) := by
  simp only [Pmod]; rw [if_pos h]
/-! of which type -/
abbrev tyNs : List String := ["NoneType", "bool", "int", "str", "tuple", "list", "dict"]
abbrev tyTs : List String := ["str", "tuple", "list", "dict", "int", "bool"]
theorem kit_tab : ∀ a ∈ tyNs, ∀ T ∈ tyTs, kitB a T = some (a == T || (a == "bool" && T == "int")) := by decide +kernel
def isI (T : String) (v : Val) : Bool := match tyOf v with
  | some a => a == T || (a == "bool" && T == "int")
  | none => false
theorem tyOf_mem {v : Val} {a : String} (h : tyOf v = some a) : a ∈ tyNs := by
  cases v <;> simp only [tyOf, Option.some.injEq, reduceCtorEq] at h <;> subst h <;> simp
theorem pisi_ok {v : Val} {T : String} (hv : (tyOf v).isSome = true) (hT : T ∈ tyTs) : Pisi [v, .ty T] = some (false, .bl (isI T v)) := by
  cases h : tyOf v with
  | none => rw [h] at hv; cases hv
  | some a => simp only [Pisi, isI, h, kit_tab a (tyOf_mem h) T hT, Option.map_some]
theorem isi_tt (xs : List Val) : Pisi [.tup xs, .ty "tuple"] = some (false, .bl true) := pisi_ok rfl (by simp)
theorem isi_ss (s : Str) : Pisi [.str s, .ty "str"] = some (false, .bl true) := pisi_ok rfl (by simp)
/-! slices -/
theorem cut_to {α : Type} (xs : List α) (n : Nat) : cutA xs none (some (n : Int)) = xs.take n := by
  unfold cutA
  have h1 : HT.sIx xs.length 0 none = 0 := rfl
  have h2 : HT.sIx xs.length xs.length (some (n : Int)) = min n xs.length := by
    show min ((n : Int)).toNat xs.length = _
    simp
  rw [h1, h2]
  simp only [Nat.sub_zero, List.drop_zero]
  rcases Nat.le_total n xs.length with h | h
  · rw [Nat.min_eq_left h]
  · rw [Nat.min_eq_right h, List.take_of_length_le h, List.take_of_length_le (Nat.le_refl _)]
theorem cut_from {α : Type} (xs : List α) (n : Nat) : cutA xs (some (n : Int)) none = xs.drop n := by
  unfold cutA
  have h1 : HT.sIx xs.length 0 (some (n : Int)) = min n xs.length := by
    show min ((n : Int)).toNat xs.length = _
    simp
  have h2 : HT.sIx xs.length xs.length none = xs.length := rfl
  rw [h1, h2]
  rcases Nat.le_total n xs.length with h | h
  · rw [Nat.min_eq_left h, List.take_of_length_le (by simp)]
  · rw [Nat.min_eq_right h, List.drop_of_length_le h]; simp
theorem cut_but {α : Type} (xs : List α) : cutA xs none (some (-1)) = xs.dropLast := by
  unfold cutA
  have h1 : HT.sIx xs.length 0 none = 0 := rfl
  have h2 : HT.sIx xs.length xs.length (some (-1)) = xs.length - 1 := by
    unfold HT.sIx
    simp only []
    rw [if_pos (by decide)]
    omega
  rw [h1, h2]
  simp [List.dropLast_eq_take]
/-! comprehensions over values -/
theorem wC_mapV {t : TF} {c : BF} {f : EF} {sl : List Nat} {env : Env} {Q : AR → Prop} (z : Val → Val) (p : Val → Bool) (xs : List Val)
    (h : ∀ x ∈ xs, ∃ r1, t x env = some r1 ∧ wB c r1 (fun s => s = .ok (p x) r1) ∧ wipeR r1 sl = env ∧ (p x = true → wE f r1 fun s => ∃ o r3, s = .ok o (z x) r3 ∧ wipeR r3 sl = env)) (hl : xs.length ≤ 100000)
    (q : Q (.ok ((xs.filter p).map z) env)) : wC t c f sl xs [] env Q := by
  have := wC_map (t := t) (c := c) (f := f) (sl := sl) (env := env) (Q := Q) (fun x => x) z p xs h hl q
  rwa [List.map_id'] at this
theorem filter_yes {α : Type} (xs : List α) : xs.filter (fun _ => true) = xs := List.filter_eq_self.mpr (by simp)
theorem pall_map {α : Type} (f : α → Bool) (xs : List α) : Pall [.lst (xs.map fun x => .bl (f x))] = some (false, .bl (xs.all f)) := by
  have : asBls (xs.map fun x => Val.bl (f x)) = some (xs.map f) := by
    have := asBls_comp f xs
    simpa [Function.comp_def] using this
  simp only [Pall, this, Option.map_some]
  congr 3
  rw [List.all_map]; rfl
theorem pany_map {α : Type} (f : α → Bool) (xs : List α) : Pany [.lst (xs.map fun x => .bl (f x))] = some (false, .bl (xs.any f)) := by
  have : asBls (xs.map fun x => Val.bl (f x)) = some (xs.map f) := by
    have := asBls_comp f xs
    simpa [Function.comp_def] using this
  simp only [Pany, this, Option.map_some]
  congr 3
  rw [List.any_map]; rfl
/-! len(set(..)) -/
theorem metS_mem {ss : List Str} : ∀ {i : Nat}, i ≤ ss.length → ∀ k, k ∈ metS ss i ↔ k ∈ ss.take i
  | 0, _, k => by simp [metS]
  | i + 1, h, k => by
    have hi : i < ss.length := h
    have ih := metS_mem (ss := ss) (i := i) (by omega)
    rw [metS, List.getElem?_eq_getElem hi, List.take_succ_eq_append_getElem hi]
    simp only
    split
    · rename_i hx
      rw [ih k]
      simp only [List.mem_append, List.mem_singleton]
      constructor
      · exact .inl
      · rintro (z | z)
        · exact z
        · obtain ⟨y, hy, e⟩ := List.any_eq_true.mp hx
          rw [z, ← beq_iff_eq.mp e]; exact (ih y).mp hy
    · simp only [List.mem_append, ih k]
theorem metS_nodup {ss : List Str} : ∀ {i : Nat}, i ≤ ss.length → (metS ss i).length ≤ i ∧ ((metS ss i).length = i ↔ (ss.take i).Nodup)
  | 0, _ => by simp [metS]
  | i + 1, h => by
    have hi : i < ss.length := h
    have ih := metS_nodup (ss := ss) (i := i) (by omega)
    have mm := metS_mem (ss := ss) (i := i) (by omega)
    rw [metS, List.getElem?_eq_getElem hi, List.take_succ_eq_append_getElem hi]
    have nd : (ss.take i ++ [ss[i]]).Nodup ↔ (ss.take i).Nodup ∧ ss[i] ∉ ss.take i := by
      rw [List.nodup_append]
      constructor
      · rintro ⟨h1, _, h3⟩; exact ⟨h1, fun z => h3 _ z _ (by simp) rfl⟩
      · rintro ⟨h1, h2⟩; exact ⟨h1, by simp, fun a ha b hb e => h2 (by rw [List.mem_singleton.mp hb] at e; rw [← e]; exact ha)⟩
    rw [nd]
    simp only
    split
    · rename_i hx
      obtain ⟨y, hy, e⟩ := List.any_eq_true.mp hx
      rw [beq_iff_eq.mp e] at hy
      refine ⟨by omega, ⟨fun z => by omega, fun z => absurd ((mm _).mp hy) z.2⟩⟩
    · rename_i hx
      simp only [List.length_append, List.length_singleton]
      refine ⟨by omega, ?_⟩
      rw [Nat.add_right_cancel_iff, ih.2]
      constructor
      · intro z; exact ⟨z, fun y => hx (List.any_eq_true.mpr ⟨_, (mm _).mpr y, by simp⟩)⟩
      · exact fun z => z.1
theorem set_lt (ss : List Str) : decide (((metS ss ss.length).length : Int) < (ss.length : Int)) = !decide ss.Nodup := by
  have := metS_nodup (ss := ss) (Nat.le_refl _)
  rw [List.take_length] at this
  by_cases h : ss.Nodup
  · have e := this.2.mpr h
    rw [decide_eq_true h, e]; simp
  · have e : (metS ss ss.length).length ≠ ss.length := fun z => h (this.2.mp z)
    rw [decide_eq_false h]; simp; omega
theorem set_eq (ss : List Str) : decide (((metS ss ss.length).length : Int) = (ss.length : Int)) = decide ss.Nodup := by
  have := metS_nodup (ss := ss) (Nat.le_refl _)
  rw [List.take_length] at this
  by_cases h : ss.Nodup
  · have e := this.2.mpr h
    rw [decide_eq_true h, e]; simp
  · have e : (metS ss ss.length).length ≠ ss.length := fun z => h (this.2.mp z)
    rw [decide_eq_false h]; simp; omega
/-! == of a tuple of texts with () -/
theorem shp_tup (ss : List Str) (h : ∀ s ∈ ss, CpOk s) : shp (.tuple (ss.map .str)) = true := by
  have := shp_strs ss h
  revert this
  show SeqAt.shaped _ = true → SeqAt.shaped _ = true
  unfold SeqAt.shaped
  simp only [PyData.canLay0, PyData.depth]
  exact id
theorem peq_tnil (ss : List Str) (h : ∀ s ∈ ss, CpOk s) : PeqX [.tup (ss.map .str), .tup []] = some (false, .bl (decide (ss = []))) := by
  have h1 := shp_tup ss h
  have h2 := shp_tup [] (by simp)
  simp only [List.map_nil] at h2
  cases ss with
  | nil => simp [PeqX, orP, PeqS, Peq, toD, toDs, h2, PyData.eqv, PyData.eqvAll]
  | cons c cs =>
    simp only [List.map_cons] at h1
    simp [PeqX, orP, PeqS, Peq, toD, toDs, toDs_strs, h1, h2, PyData.eqv, PyData.eqvAll]
theorem zipV_map (as bs : List Str) : zipV (as.map .str) (bs.map .str) = (as.zip bs).map fun p => .tup [.str p.1, .str p.2] := by
  induction as generalizing bs with
  | nil => simp [zipV]
  | cons a as ih =>
    cases bs with
    | nil => simp [zipV]
    | cons b bs => simp [zipV, ih]
theorem findIdx_strs {x : Str} {ss : List Str} (h : x ∈ ss) : ∃ j, j < ss.length ∧ ss[j]? = some x ∧ (∀ i < j, ss[i]? ≠ some x) ∧ (ss.map PyData.str).findIdx? (fun z => PyData.eqv z (.str x)) = some j := by
  induction ss with
  | nil => cases h
  | cons s ss ih =>
    by_cases e : s = x
    · subst e
      exact ⟨0, by simp, rfl, by simp, by simp [List.findIdx?_cons, eqv_str]⟩
    · have : x ∈ ss := (List.mem_cons.mp h).resolve_left fun z => e z.symm
      obtain ⟨j, hj, h1, h2, h3⟩ := ih this
      refine ⟨j + 1, by simpa using hj, by simpa using h1, fun i hi => ?_, ?_⟩
      · cases i with
        | zero => simpa using e
        | succ i => simpa using h2 i (by omega)
      · rw [List.map_cons, List.findIdx?_cons, eqv_str, h3]
        simp [e]
theorem pindex_strs {x : Str} {ss : List Str} (h : x ∈ ss) (hx : CpOk x) (hc : ∀ s ∈ ss, CpOk s) : ∃ j : Nat, j < ss.length ∧ ss[j]? = some x ∧ (∀ i < j, ss[i]? ≠ some x) ∧ Pindex [.lst (ss.map .str), .str x] = some (false, .int (j : Nat)) := by
  obtain ⟨j, hj, h1, h2, h3⟩ := findIdx_strs h
  refine ⟨j, hj, h1, h2, ?_⟩
  simp only [Pindex, toDs_strs, toD]
  rw [if_pos ⟨shp_strs ss hc, shp_str hx⟩, h3]; rfl
theorem padd_l (xs ys : List Val) (h : xs.length + ys.length ≤ 100000) : Padd [.lst xs, .lst ys] = some (true, .lst (xs ++ ys)) := by
  simp only [Padd]; rw [if_pos h]
theorem padd_I (i j : Int) : Padd [.int i, .int j] = some (false, .int (i + j)) := rfl
theorem cut_fromI {α : Type} (xs : List α) {d : Int} (h : 0 ≤ d) : cutA xs (some d) none = xs.drop d.toNat := by
  obtain ⟨k, rfl⟩ := Int.eq_ofNat_of_zero_le h
  exact cut_from xs k
theorem cut_toI {α : Type} (xs : List α) {d : Int} (h : 0 ≤ d) : cutA xs none (some d) = xs.take d.toNat := by
  obtain ⟨k, rfl⟩ := Int.eq_ofNat_of_zero_le h
  exact cut_to xs k
theorem pmul_l (xs : List Val) (n : Nat) (h1 : n ≤ 100000) (h : xs.length * n ≤ 100000) : Pmul [.lst xs, .int (n : Nat)] = some (true, .lst (List.replicate n xs).flatten) := by
  simp only [Pmul, Int.toNat_natCast]; rw [if_pos ⟨by omega, by omega, h⟩]
end M
/-! MPU: how long a repr is. -/
namespace M
open PySem L2

mutual
/-- no less than the signs of a repr -/
def rsz : PyData → Nat
  | .none => 4
  | .bool _ => 5
  | .int i => (PySem.Str.ofString (toString i)).length
  | .str s => 10 * s.length + 2
  | .list xs => rszs xs + 2
  | .tuple xs => rszs xs + 3
  | .dict kvs => rszk kvs + 2
def rszs : List PyData → Nat
  | [] => 0
  | x :: xs => rsz x + 2 + rszs xs
def rszk : List (PyData × PyData) → Nat
  | [] => 0
  | (k, v) :: r => rsz k + rsz v + 4 + rszk r
end
mutual
/-- texts of Unicode signs alone -/
def txOk : PyData → Bool
  | .str s => PyData.strOk s
  | .list xs => txOks xs
  | .tuple xs => txOks xs
  | .dict kvs => txOkk kvs
  | _ => true
def txOks : List PyData → Bool
  | [] => true
  | x :: xs => txOk x && txOks xs
def txOkk : List (PyData × PyData) → Bool
  | [] => true
  | (k, v) :: r => txOk k && txOk v && txOkk r
end
theorem strOk_iff {s : Str} : PyData.strOk s = true ↔ CpOk s := by
  unfold PyData.strOk CpOk
  rw [Array.all_eq_true_iff_forall_mem]
  constructor
  · intro h c hc; exact of_decide_eq_true (h c (by simpa using hc))
  · intro h c hc; exact decide_eq_true (h c (by simpa using hc))
theorem join_le : ∀ ts : List Str, (Str.join ", " ts).length ≤ piled ts
  | [] => by show (0 : Nat) ≤ _; omega
  | t :: ts => by have := join_length_add (t :: ts) (by simp); omega
theorem textFrom_le : ∀ (ts : List Str) (k : Nat) (acc : Str), (textFrom k acc ts).length ≤ acc.length + piled ts := by
  intro ts
  induction ts with
  | nil => intro k acc; simp [textFrom, piled]
  | cons t ts ih =>
    intro k acc
    rw [textFrom, piled_cons]
    refine Nat.le_trans (ih _ _) ?_
    have e2 : ((", " : String) : Str).length = 2 := rfl
    have e3 : (("" : String) : Str).length = 0 := rfl
    split <;> simp only [strLen_append, e2, e3] <;> omega
mutual
theorem shown_le : ∀ d : PyData, txOk d = true → d.shown.length ≤ rsz d
  | .none, _ => by rw [PyData.shown, rsz]; decide
  | .bool b, _ => by rw [PyData.shown, rsz]; cases b <;> decide
  | .int i, _ => by rw [PyData.shown, rsz]; exact Nat.le_refl _
  | .str s, h => by
    rw [PyData.shown, rsz]
    rw [txOk, strOk_iff] at h
    exact PySem.StrLaws.reprText_len s fun c hc => Nat.lt_trans (h c hc) (by decide)
  | .list xs, h => by
    rw [PyData.shown, rsz]
    rw [txOk] at h
    have := shownAll_le xs h
    unfold listText
    rw [strLen_append]
    have := textFrom_le (PyData.shownAll xs) 0 "["
    have e1 : (("[" : String) : Str).length = 1 := rfl
    have e2 : (("]" : String) : Str).length = 1 := rfl
    omega
  | .tuple xs, h => by
    rw [PyData.shown, rsz]
    rw [txOk] at h
    have := shownAll_le xs h
    unfold tupleText
    rw [strLen_append, strLen_append]
    have := join_le (PyData.shownAll xs)
    have e1 : (("(" : String) : Str).length = 1 := rfl
    have e3 : (((if (PyData.shownAll xs).length == 1 then ",)" else ")" : String) : Str)).length ≤ 2 := by split <;> decide
    omega
  | .dict kvs, h => by
    rw [PyData.shown, rsz]
    rw [txOk] at h
    have := shownKv_le kvs h
    unfold dictText
    rw [strLen_append, strLen_append]
    have := join_le (PyData.shownKv kvs)
    have e1 : (("{" : String) : Str).length = 1 := rfl
    have e2 : (("}" : String) : Str).length = 1 := rfl
    omega
theorem shownAll_le : ∀ xs : List PyData, txOks xs = true → piled (PyData.shownAll xs) ≤ rszs xs
  | [], _ => by rw [PyData.shownAll, rszs]; exact Nat.le_refl _
  | x :: xs, h => by
    rw [PyData.shownAll, rszs, piled_cons]
    rw [txOks, Bool.and_eq_true] at h
    have := shown_le x h.1
    have := shownAll_le xs h.2
    omega
theorem shownKv_le : ∀ kvs : List (PyData × PyData), txOkk kvs = true → piled (PyData.shownKv kvs) ≤ rszk kvs
  | [], _ => by rw [PyData.shownKv, rszk]; exact Nat.le_refl _
  | (k, v) :: r, h => by
    rw [PyData.shownKv, rszk, piled_cons]
    rw [txOkk, Bool.and_eq_true, Bool.and_eq_true] at h
    have := shown_le k h.1.1
    have := shown_le v h.1.2
    have := shownKv_le r h.2
    have e2 : ((": " : String) : Str).length = 2 := rfl
    rw [strLen_append, strLen_append, e2]
    omega
end
theorem int_rsz {i : Int} (h : i.natAbs < 10 ^ 20) : rsz (.int i) ≤ 21 := by
  rw [rsz]
  have := int_text_length_le10 (a := i) (k := 20) (by decide) h
  rw [ofString_length]; exact this
end M
/-! MPO: objects: fields, methods, properties, classmethods, classes called. -/
namespace M
open PySem L2

section
variable {w : Wd} {G H : Hp} {x : V} {c : Str} {fs : List (Str × Val)}
theorem repF_nil {xs : List (Str × V)} : RepF w G [] xs ↔ xs = [] := by rw [RepF]
theorem repF_cons {k : Str} {d : Val} {ds : List (Str × Val)} {xs : List (Str × V)} : RepF w G ((k, d) :: ds) xs ↔ ∃ y ys, xs = (k, y) :: ys ∧ Rep w G d y ∧ RepF w G ds ys := by rw [RepF]
theorem repF_len : ∀ {ds : List (Str × Val)} {xs : List (Str × V)}, RepF w G ds xs → xs.length = ds.length
  | [], xs, h => by rw [repF_nil.mp h]; rfl
  | (k, d) :: ds, xs, h => by
    obtain ⟨y, ys, e, _, h2⟩ := repF_cons.mp h
    subst e
    simp [repF_len h2]
theorem repF_some {f : Str} {v : Val} : ∀ {ds : List (Str × Val)} {xs : List (Str × V)}, RepF w G ds xs → ds.lookup f = some v → ∃ y, xs.lookup f = some y ∧ Rep w G v y
  | [], _, _, e => by cases e
  | (k, d) :: ds, xs, h, e => by
    obtain ⟨y, ys, rfl, h1, h2⟩ := repF_cons.mp h
    rw [List.lookup_cons] at e ⊢
    cases q : f == k with
    | true => rw [q] at e; cases e; exact ⟨y, rfl, h1⟩
    | false => rw [q] at e; exact repF_some h2 e
theorem repF_none {f : Str} : ∀ {ds : List (Str × Val)} {xs : List (Str × V)}, RepF w G ds xs → ds.lookup f = none → xs.lookup f = none
  | [], xs, h, _ => by rw [repF_nil.mp h]; rfl
  | (k, d) :: ds, xs, h, e => by
    obtain ⟨y, ys, rfl, h1, h2⟩ := repF_cons.mp h
    rw [List.lookup_cons] at e ⊢
    cases q : f == k with
    | true => rw [q] at e; cases e
    | false => rw [q] at e; exact repF_none h2 e
/-- a field stored -/
def putV (f : Str) (v : Val) : List (Str × Val) → List (Str × Val)
  | [] => [(f, v)]
  | (g, x) :: r => if g = f then (g, v) :: r else (g, x) :: putV f v r
theorem repF_put {f : Str} {v : Val} {y : V} (r : Rep w G v y) : ∀ {ds : List (Str × Val)} {xs : List (Str × V)}, RepF w G ds xs → RepF w G (putV f v ds) (putF f y xs)
  | [], xs, h => by rw [repF_nil.mp h]; exact repF_cons.mpr ⟨y, [], rfl, r, repF_nil.mpr rfl⟩
  | (k, d) :: ds, xs, h => by
    obtain ⟨z, ys, rfl, h1, h2⟩ := repF_cons.mp h
    rw [putV, putF]
    by_cases e : k = f
    · rw [if_pos e, if_pos e]; exact repF_cons.mpr ⟨y, ys, rfl, r, h2⟩
    · rw [if_neg e, if_neg e]; exact repF_cons.mpr ⟨z, _, rfl, h1, repF_put r h2⟩
theorem rrep_obj (le : Le G H) : RRep w G H (.obj c fs) x → ∃ a C dx xs, x = .ref a ∧ H a = some (.ins C dx xs) ∧ w.CM c = some C ∧ RepF w G fs xs := fun h => by
  rcases h with h | ⟨a, e, r⟩
  · rw [Rep] at h
    obtain ⟨a, C, dx, xs, e, q, m, r⟩ := h
    exact ⟨a, C, dx, xs, e, le _ _ q, m, r⟩
  · obtain ⟨C, dx, xs, q, m, r⟩ := r
    exact ⟨a, C, dx, xs, e, q, m, r⟩
end
theorem tO_mono {A : Act} {W : WX} {f : OF} {σ : L2.St} {H : Hp} {Q Q' : V → Hp → Prop} (h : tO A W f σ H Q) (hi : ∀ x H1, Q x H1 → Q' x H1) : tO A W f σ H Q' := by
  obtain ⟨r, G, k, m⟩ := h
  refine ⟨r, G, k, ?_⟩
  cases hf : f r with
  | bad => rw [hf] at m; exact m.elim
  | ex e r' => rw [hf] at m; exact m
  | ok h r1 => rw [hf] at m; exact fun x G1 H1 k1 st t => hi _ _ (m x G1 H1 k1 st t)

/-! ### fields -/
/-- instances of these classes have f as a plain attribute -/
def FldOk (w : Wd) (cs : List Str) (f : Str) : Prop := ∀ c ∈ cs, ∃ C, w.CM c = some C ∧ Cls w.K C ∧ NoAttr w.K C f
def Pfld (cs : List Str) (f : Str) : List Val → Option (Bool × Val)
  | [.obj c fs] => if c ∈ cs then (fs.lookup f).map fun v => (false, v) else none
  | _ => none
theorem fld_of {w : Wd} {cs : List Str} {f : Str} {x : V} {H : Hp} {Q : VK} (hf : FldOk w cs f) (h : rOf w (Pfld cs f) [x] H Q) : ∃ a C dx fs v, x = .ref a ∧ H a = some (.ins C dx fs) ∧ Cls w.K C ∧ NoAttr w.K C f ∧ fs.lookup f = some v ∧ Q v H := by
  obtain ⟨G, vs, o, z, le, rr, hp, q⟩ := h
  unfold Pfld at hp
  split at hp
  · rename_i c fs
    split at hp
    · rename_i hc
      rw [Option.map_eq_some_iff] at hp
      obtain ⟨v, e, e2⟩ := hp
      cases e2
      obtain ⟨y, ey, r1⟩ := rreps_one rr
      cases ey
      obtain ⟨a, C, dx, xs, rfl, ha, hm, rf⟩ := rrep_obj le r1
      obtain ⟨y, ly, ry⟩ := repF_some rf e
      obtain ⟨C', hm', hcl, hna⟩ := hf c hc
      rw [hm] at hm'
      cases hm'
      exact ⟨a, C, dx, xs, y, rfl, ha, hcl, hna, ly, q y G H (Grow.refl le) (nrep_f ry)⟩
    · cases hp
  · cases hp
section
variable {X : Cx} {A : Act} {W : WX} {e o ve : Expr} {f : Str} {pos pos' : Pos} {fo : OF} {fe : EF} {cs : List Str} {i : Nat}
theorem pe_fldM (c : Cal X A.w) (hf : FldOk A.w cs f) (he : PE X e (tO A W fo)) (hb : attributeBase e f X.env (eval e X.env) = eval e X.env := by rfl) : PE X (.Attribute e f pos) (tE A W (prim (Pfld cs f) (osCons fo osNil))) :=
  PE.imp (pe_fld he hb) fun σ H Q q => tO_mono (prim_os1 q) fun x H1 h => by
    obtain ⟨a, C, dx, fs, v, h1, h2, h3, h4, h5, h6⟩ := fld_of hf h
    rw [c.K] at h3 h4
    exact ⟨a, C, dx, fs, v, h1, h2, h3, h4, h5, h6⟩
def setFld (cs : List Str) (i : Nat) (f : Str) (fe : EF) : SF := fun r => match frz fe r with
  | .ok _ v r1 => match r1[i]? with
    | some (some (true, .obj c fs)) => if c ∈ cs ∧ fs.length < 1000 then .nx (r1.set i (some (true, .obj c (putV f v fs)))) else .bad
    | _ => .bad
  | .ex e r1 => .ex e r1
  | .bad => .bad
theorem ps_setFld (c : Cal X A.w) (hf : FldOk A.w cs f) (ho : PE X o (tVar i)) (he : PE X ve (tE A W fe)) (hs : swapsWith ve (some (.Attribute o f pos')) pos.line X.env = pure false := by rfl) :
    PS X (.Assign [.Attribute o f pos'] ve pos) (tSt A W (setFld cs i f fe)) := by
  refine PS.imp (ps_fld ho (pe_frz he) hs) fun D σ H h => ?_
  obtain ⟨r, G, k, m⟩ := tSt_iff.mp h
  refine ⟨r, G, k, ?_⟩
  unfold setFld at m
  cases hf' : frz fe r with
  | bad => rw [hf'] at m; exact m.elim
  | ex e r' => rw [hf'] at m; exact m σ
  | ok o0 v r1 =>
    have eo := frz_false hf'
    subst eo
    simp only [hf'] at m ⊢
    intro x G1 H1 R1
    have k1 := R1.ok
    rcases q1 : r1[i]? with _ | _ | ⟨_ | _, d0⟩
    · simp only [q1] at m; exact m.elim
    · simp only [q1] at m; exact m.elim
    · simp only [q1] at m; exact m.elim
    · cases d0 with
      | obj cn fs =>
        simp only [q1] at m
        by_cases hc : cn ∈ cs ∧ fs.length < 1000
        · rw [if_pos hc] at m
          obtain ⟨a, e1, ⟨C, dx, xs, ha, hm, rf⟩, n, l⟩ := k1.ow i _ q1
          obtain ⟨C', hm', hcl, hna⟩ := hf cn hc.1
          rw [hm] at hm'
          cases hm'
          rw [c.K] at hcl hna
          refine ⟨.ref a, e1, a, C, dx, xs, rfl, ha, hcl, hna, by rw [repF_len rf]; exact hc.2, ?_⟩
          exact m σ G1 _ (k1.mut q1 e1 ⟨C, dx, _, upd_same, hm, repF_put R1.tr rf⟩) R1.st.ex
        · rw [if_neg hc] at m; exact m.elim
      | _ => simp only [q1] at m; exact m.elim
end
/-! ### a def by its positional arguments -/
def FnP (P : Program) (w : World) (K : PySem.W.Frag) (mg : Str → Option Value) (base : Heap) (CX : CXT) (k : Nat) (f : Addr) (sp : Sp) : Prop :=
  ∀ (A : Around) (outer : List PySem.Env) (s : Shared) (H : Hp) (us : List Value) (vs : List V) (Q : VK) (E : XK), RoomG k A → Env0 P w K mg base A outer s H → Vals vs us → sp vs H Q E → codeAny (model P w) A (.call (.ref f) ⟨us, []⟩) (CR CX outer P w H s Q E) s
section
variable {P : Program} {w : World} {K : PySem.W.Frag} {mg : Str → Option Value} {base : Heap} {CX : CXT} {k j : Nat} {f : Addr} {fd : FuncData} {ps : List Str} {sp : Sp}
theorem FnP.up (F : FnP P w K mg base CX j f sp) (h : j ≤ k) : FnP P w K mg base CX k f sp := fun A o s H us vs Q E hr => F A o s H us vs Q E (hr.le h)
theorem FnG.fnP (F : FnG P w K mg base CX k f fd ps sp) (hb : Binds K fd ps []) : FnP P w K mg base CX k f sp := fun A o s H us vs Q E hr e0 r h => by
  have hl : us.length = ps.length := r.length.symm.trans (F.len _ _ _ _ h)
  have kin : K.In s.heap := e0.mod.kin.keeps fun b o e => (e0.bs b o e).1
  have b0 := hb s us kin (by simpa using hl)
  simp only [List.append_nil] at b0
  exact F.go A o s H ⟨us, []⟩ us vs Q E hr e0 b0 r h
end
theorem RoomG.in1 {k : Nat} {A : Around} (r : RoomG (k + 1) A) : RoomG k A.in1 := ⟨r.room.in1, r.gs⟩
theorem RoomG.make {k : Nat} {A : Around} (r : RoomG (k + 1) A) (C : Addr) (us : List Value) : RoomG k (A.under (.builtin "type.__call__" ⟨.ref C :: us, []⟩)) := ⟨r.room.make C us [], by
  have := r.gs
  first | exact this | (simp [Around.under, Code.isGuard, guardIds]; exact this)⟩
section
variable {X : Cx} {CX : CXT} {k : Nat} {f : Addr} {sp : Sp} {pins : List (Addr × Obj)} {σ : L2.St} {H : Hp} {s : Shared} {Q : VK} {E : XK} {us : List Value} {vs : List V}
/-- what a def of the module has come to, read where it was called -/
theorem come_to {x : Result} {t : Shared} (I : Inv X pins σ H s) (h : CR CX X.stack X.prog X.w H s Q E x t) : (∃ v, x = .ok (.ret v) ∧ EP X pins σ Q v t) ∨ ∃ e, x = .error e ∧ CX X.stack H s E e t := by
  rcases x with e | fl
  · exact .inr ⟨e, rfl, h⟩
  · cases fl <;> first | exact .inl ⟨_, rfl, I.after h⟩ | exact False.elim h
/-- the end of a call: a value, or an exception that is let out -/
abbrev Ended (X : Cx) (P : Value → Shared → Prop) : Result → Shared → Prop := fun x t => match x with
  | .ok (.ret v) => P v t
  | .ok _ => False
  | .error e => X.xe e t
theorem code_P (F : FnP X.prog X.w X.K X.mg X.base CX k f sp) (hr : RoomG k X.A) (hx : ∀ e s', CX X.stack H s E e s' → X.xe e s') (I : Inv X pins σ H s) (r : Vals vs us) (h : sp vs H Q E) :
    codeAny (model X.prog X.w) X.A (.call (.ref f) ⟨us, []⟩) (Ended X (EP X pins σ Q)) s :=
  codeAny_mono (F X.A X.stack s H us vs Q E hr I.env0 r h) fun _ t q => by
    rcases come_to I q with ⟨_, rfl, y⟩ | ⟨e, rfl, y⟩
    · exact y
    · exact hx e t y
theorem run_P (F : FnP X.prog X.w X.K X.mg X.base CX k f sp) (hr : RoomG k X.A) (hx : ∀ e s', CX X.stack H s E e s' → X.xe e s') (I : Inv X pins σ H s) (r : Vals vs us) (h : sp vs H Q E) :
    wpAny (model X.prog X.w) X.A (call (.ref f) us) (EP X pins σ Q) X.xe s := wpAny_call (code_P F hr hx I r h)
end

/-! ### methods -/
abbrev Tbl := List (Str × Nat × GF)
/-- an operand that is an instance of c without an attribute m of its own -/
def oCl (c m : Str) (fo : OF) : OF := fun r => match fo r with
  | .ok h r1 => match h.get r1 with
    | some (.obj c' fs) => if c' = c ∧ fs.lookup m = none then .ok h r1 else .bad
    | _ => .bad
  | .ex e r1 => .ex e r1
  | .bad => .bad
def callM (tbl : Tbl) (m : Str) (fo : OF) (fs : OsF) : EF := fun r => match fo r with
  | .ok h r1 => match h.get r1 with
    | some (.obj c _) => match tbl.lookup c with
      | some (n, g) => callG n g (osCons (oCl c m fo) fs) r
      | none => .bad
    | _ => .bad
  | .ex e r1 => .ex e r1
  | .bad => .bad
def IsC (w : Wd) (c m : Str) (x : V) (H : Hp) : Prop := ∃ a C dx xs, x = .ref a ∧ H a = some (.ins C dx xs) ∧ w.CM c = some C ∧ xs.lookup m = none
theorem oCl_of {A : Act} {W : WX} {c m : Str} {fo : OF} {σ : L2.St} {H : Hp} {Q : V → Hp → Prop} (h : tO A W (oCl c m fo) σ H Q) : tO A W fo σ H fun x H1 => IsC A.w c m x H1 ∧ Q x H1 := by
  obtain ⟨r, G, k, mm⟩ := h
  refine ⟨r, G, k, ?_⟩
  unfold oCl at mm
  cases hf : fo r with
  | bad => rw [hf] at mm; exact mm.elim
  | ex e r' => rw [hf] at mm; exact mm
  | ok h r1 =>
    simp only [hf] at mm
    cases hg : h.get r1 with
    | none => simp only [hg] at mm
    | some v =>
      cases v with
      | obj c' fs =>
        simp only [hg] at mm
        by_cases hc : c' = c ∧ fs.lookup m = none
        · rw [if_pos hc] at mm
          intro x G1 H1 k1 st t
          refine ⟨?_, mm x G1 H1 k1 st t⟩
          obtain ⟨a, C, dx, xs, e1, e2, e3, e4⟩ := rrep_obj k1.sub (t.get k1 hg)
          rw [hc.1] at e3
          exact ⟨a, C, dx, xs, e1, e2, e3, repF_none e4 hc.2⟩
        · rw [if_neg hc] at mm; exact mm.elim
      | _ => simp only [hg] at mm
theorem callM_of {A : Act} {W : WX} {tbl : Tbl} {m : Str} {fo : OF} {fs : OsF} {σ : L2.St} {H : Hp} {Q : VK} (h : tE A W (callM tbl m fo fs) σ H Q) :
    tO A W fo σ H fun x H1 => ∃ c n g, tbl.lookup c = some (n, g) ∧ IsC A.w c m x H1 ∧ tOs A W fs σ H1 fun vs H2 => spF A.w n g (x :: vs) H2 Q (fun cls d H3 => W cls d σ H3) := by
  obtain ⟨r, G, k, mm⟩ := h
  unfold callM at mm
  cases hf : fo r with
  | bad => rw [hf] at mm; exact mm.elim
  | ex e r' => rw [hf] at mm; exact ⟨r, G, k, by rw [hf]; exact mm⟩
  | ok h r1 =>
    simp only [hf] at mm
    cases hg : h.get r1 with
    | none => simp only [hg] at mm
    | some v =>
      cases v with
      | obj c fs0 =>
        simp only [hg] at mm
        cases ht : tbl.lookup c with
        | none => simp only [ht] at mm
        | some ng =>
          obtain ⟨n, g⟩ := ng
          simp only [ht] at mm
          have h2 : tE A W (callG n g (osCons (oCl c m fo) fs)) σ H Q := ⟨r, G, k, mm⟩
          exact tO_mono (oCl_of (os_cons (call_of h2))) fun x H1 ⟨i, q⟩ => ⟨c, n, g, ht, i, q⟩
      | _ => simp only [hg] at mm
theorem lookup_in {α : Type} {k : Str} {v : α} : ∀ {l : List (Str × α)}, l.lookup k = some v → (k, v) ∈ l
  | [], h => by cases h
  | (a, b) :: l, h => by
    rw [List.lookup_cons] at h
    cases e : k == a with
    | true => rw [e] at h; cases h; rw [beq_iff_eq.mp e]; exact List.mem_cons_self
    | false => rw [e] at h; exact List.mem_cons_of_mem _ (lookup_in h)
/-- the methods that a table tells -/
structure MthOk (X : Cx) (w : Wd) (lvl : Nat) (m : Str) (c : Str) (n : Nat) (g : GF) : Prop where
  ok : ∃ C f, w.CM c = some C ∧ Cls X.K C ∧ Meth X.K C m f ∧ FnP X.prog X.w X.K X.mg X.base (L2.CX X.prog X.w) lvl f (spF w n g)
def TblOk (Q : Str → Nat → GF → Prop) (tbl : Tbl) : Prop := ∀ p ∈ tbl, Q p.1 p.2.1 p.2.2
theorem tb_nil {Q : Str → Nat → GF → Prop} : TblOk Q [] := fun _ h => nomatch h
theorem tb_cons {Q : Str → Nat → GF → Prop} {c : Str} {n : Nat} {g : GF} {tbl : Tbl} (h : Q c n g) (t : TblOk Q tbl) : TblOk Q ((c, n, g) :: tbl) := fun p hp => (List.mem_cons.mp hp).elim (fun z => by subst z; exact h) (t p)
section
variable {X : Cx} {A : Act} {W : WX} {lvl : Nat} {m : Str} {o e : Expr} {es : List Expr} {tbl : Tbl} {fo : OF} {fs : OsF} {pos apos : Pos} {pl : Sem Bool}
theorem pe_callM (T : TblOk (MthOk X A.w lvl m) tbl) (hr : RoomG lvl X.A) (tk : Takes X W) (he : PE X o (tO A W fo)) (ha : PA X (e :: es) (tOs A W fs))
    (hst : NoStar X e es := by rfl) (hpl : NoStars X es pos := by rfl)
    (ht : MCall X o m (e :: es) apos pos pl := by rfl) :
    PE X (.Call (.Attribute o m apos) (e :: es) [] pos) (tE A W (callM tbl m fo fs)) := by
  refine ⟨fun pins s σ H Q I h => ?_⟩
  refine PySem.W.methodCall_KW (pl := pl) (thn (he.run pins s σ H _ I (callM_of h)) fun u s1 ⟨x, H1, I1, rx, c, n, g, hl, ⟨a, C, dx, xs, ex, ea, hm, ln⟩, q⟩ => ?_) ht
  subst ex
  obtain rfl : u = Value.ref a := rx
  obtain ⟨C', f, hm', hcl, hme, F⟩ := (T _ (lookup_in hl)).ok
  rw [hm] at hm'
  cases hm'
  refine getmeth_ok I1 ea hcl hme ln ?_
  refine PySem.W.callWith_K (first := [.ref a]) (h₀ := X.base) I1.ok.mod.kin hme.kp (thn (ha.run pos pins s1 σ H1 _ I1 q) fun us s2 ⟨vs, H2, I2, r, q2⟩ => ⟨I2.kIn, ?_⟩) hst hpl
  exact run_P (us := .ref a :: us) (vs := .ref a :: vs) F hr (fun e s' z => tk e s' (XE.of_call I2 (fun _ _ _ y => y) z)) I2 (.cons rfl r) q2
theorem pe_callM0 (T : TblOk (MthOk X A.w lvl m) tbl) (hr : RoomG lvl X.A) (tk : Takes X W) (he : PE X o (tO A W fo))
    (ht : MCall X o m [] apos pos pl := by rfl) :
    PE X (.Call (.Attribute o m apos) [] [] pos) (tE A W (callM tbl m fo osNil)) := by
  refine ⟨fun pins s σ H Q I h => ?_⟩
  refine PySem.W.methodCall_KW (pl := pl) (thn (he.run pins s σ H _ I (callM_of h)) fun u s1 ⟨x, H1, I1, rx, c, n, g, hl, ⟨a, C, dx, xs, ex, ea, hm, ln⟩, ⟨r, G, kk, q⟩⟩ => ?_) ht
  subst ex
  obtain rfl : u = Value.ref a := rx
  obtain ⟨C', f, hm', hcl, hme, F⟩ := (T _ (lookup_in hl)).ok
  rw [hm] at hm'
  cases hm'
  refine getmeth_ok I1 ea hcl hme ln ?_
  have q2 := q [] G H1 kk Step.refl rfl
  exact PySem.W.callWith_K0 (first := [.ref a]) I1.kIn hme.kp (run_P (us := [.ref a]) (vs := [.ref a]) F hr (fun e s' z => tk e s' (XE.of_call I1 (fun _ _ _ y => y) z)) I1 (.cons rfl .nil) q2)
end
/-! ### properties -/
structure PrpOk (X : Cx) (w : Wd) (lvl : Nat) (m : Str) (c : Str) (n : Nat) (g : GF) : Prop where
  ok : ∃ C p f, w.CM c = some C ∧ Cls X.K C ∧ PropOf X.K C m p f ∧ FnP X.prog X.w X.K X.mg X.base (L2.CX X.prog X.w) lvl f (spF w n g)
/-- what lets no exception out -/
def noX (f : EF) : EF := fun r => match f r with
  | .ok o v r' => .ok o v r'
  | .ex _ _ => .bad
  | .bad => .bad
theorem noX_of {A : Act} {W W' : WX} {f : EF} {σ : L2.St} {H : Hp} {Q : VK} (h : tE A W (noX f) σ H Q) : tE A W' f σ H Q := by
  obtain ⟨r, G, k, m⟩ := h
  refine ⟨r, G, k, ?_⟩
  unfold noX at m
  cases hf : f r with
  | bad => rw [hf] at m; exact m.elim
  | ex e r' => rw [hf] at m; exact m.elim
  | ok o v r' => rw [hf] at m; exact m
theorem ExP.of0 {A : Act} {W : WX} {G : Hp} {σ : L2.St} {e : Val} {r : Env} (h : ExP A W0 G σ e r) : ExP A W G σ e r := by
  cases e with
  | exc c fs => exact fun G' H C d a b c' e' => (h G' H C d a b c' e').elim
  | _ => exact h
theorem tO_of0 {A : Act} {W : WX} {f : OF} {σ : L2.St} {H : Hp} {Q : V → Hp → Prop} (h : tO A W0 f σ H Q) : tO A W f σ H Q := by
  obtain ⟨r, G, k, m⟩ := h
  refine ⟨r, G, k, ?_⟩
  cases hf : f r with
  | bad => rw [hf] at m; exact m.elim
  | ex e r' => rw [hf] at m; exact m.of0
  | ok h r' => rw [hf] at m; exact m
section
variable {X : Cx} {A : Act} {W : WX} {lvl : Nat} {m : Str} {o : Expr} {tbl : Tbl} {fo : OF} {pos : Pos}
theorem getprop_P {CX : CXT} {k : Nat} {C p g a dx : Addr} {fs : List (Str × V)} {f : Str} {sp : Sp} {E : XK} {pins : List (Addr × Obj)} {σ : L2.St} {H : Hp} {s : Shared} {Q : VK} {b : Bool} (I : Inv X pins σ H s) (ea : H a = some (.ins C dx fs)) (c : Cls X.K C) (hp : PropOf X.K C f p g)
    (F : FnP X.prog X.w X.K X.mg X.base CX k g sp) (hr : RoomG (k + 1) X.A) (hx : ∀ e s', ¬ CX X.stack H { s with toks := s.toks + 1 } E e s') {Ex : Value → Shared → Prop} (h : sp [.ref a] H Q E) :
    wpAny (model X.prog X.w) X.A (getAttr (.ref a) f b) (EP X pins σ Q) Ex s := by
  obtain ⟨mA, O, _, _, _, _⟩ := ins_get I.hok ea
  obtain ⟨od, J, _⟩ := O.look
  obtain ⟨rest, hrec⟩ := hp.rec_
  have I1 := I.tok (s.toks + 1)
  have known : (PySem.W.clsIn X.K C).isSome = true := by
    obtain ⟨_, e, _⟩ := PySem.W.any_some c.hd
    simp only [e, Option.isSome_some]
  obtain ⟨noHook, noOther⟩ := PySem.W.plainGet_of (c.get f)
  refine PySem.W.get_bind I.kIn J noHook (PySem.W.findObj_data known hp.at_ hp.get hp.tak) noOther (wpAny_call (PySem.W.prop_get (s := { s with toks := s.toks + 1 }) I.kIn hrec ?_))
  refine codeAny_mono (F X.A.in1 X.stack { s with toks := s.toks + 1 } H [.ref a] [.ref a] Q E hr.in1 I1.env0.in1 (.cons rfl .nil) h) fun x t q => ?_
  rcases come_to I1 q with ⟨u, rfl, v, H', I3, rv, q3⟩ | ⟨e, rfl, y⟩
  case inr => exact (hx e t y).elim
  show wpAny _ _ (handedOut u) _ _ _
  rw [PySem.W.handedOut_of (handed_of rv)]
  exact wpAny_pure ⟨v, H', I3, rv, q3⟩
theorem pe_prp (T : TblOk (PrpOk X A.w lvl m) tbl) (hr : RoomG (lvl + 1) X.A) (he : PE X o (tO A W fo)) (hab : attributeBase o m X.env (eval o X.env) = eval o X.env := by rfl) :
    PE X (.Attribute o m pos) (tE A W (noX (callM tbl m fo osNil))) := by
  refine ⟨fun pins s σ H Q I h => ?_⟩
  refine attr_of hab (thn (he.run pins s σ H _ I (tO_of0 (callM_of (noX_of h)))) fun u s1 ⟨x, H1, I1, rx, c, n, g, hl, ⟨a, C, dx, xs, ex, ea, hm, ln⟩, ⟨r, G, kk, q⟩⟩ => ?_)
  subst ex
  obtain rfl : u = Value.ref a := rx
  obtain ⟨C', p, f, hm', hcl, hpo, F⟩ := (T _ (lookup_in hl)).ok
  rw [hm] at hm'
  cases hm'
  have q2 := q [] G H1 kk Step.refl rfl
  exact getprop_P I1 ea hcl hpo F hr (fun e s' ⟨_, _, _, _, _, _, _, _, _, _, _, _, z⟩ => z) q2
end
/-! ### a class called -/
def mkC (c : Str) (n : Nat) (g : GF) (f : OsF) : EF := fun r => match f r with
  | .ok hs r1 => match lend r1 hs with
    | some as => if lents as = 0 ∧ as.length + 1 = n then match g ((true, .obj c []) :: as) with
        | .ok false .non (some (true, v)) => .ok true v r1
        | .ex e _ => .ex e r1
        | _ => .bad
      else .bad
    | none => .bad
  | .ex e r1 => .ex e r1
  | .bad => .bad
theorem arel_app {w : Wd} {G H H' : Hp} : ∀ {as : List (Bool × Val)} {xs : List V}, lents as = 0 → ARel w G H as xs → ARel w G H' as xs
  | [], _, _, h => h
  | (true, v) :: as, _, z, _ => by simp [lents] at z
  | (false, v) :: as, _, z, ⟨y, ys, e, r, t⟩ => ⟨y, ys, e, r, arel_app (by simpa [lents] using z) t⟩
theorem mkC_of {A : Act} {W : WX} {c : Str} {n : Nat} {g : GF} {f : OsF} {C : Addr} {σ : L2.St} {H : Hp} {Q : VK} (hC : A.w.CM c = some C) (h : tE A W (mkC c n g f) σ H Q) :
    tOs A W f σ H fun vs H1 => ∀ x dx, H1 x = none → H1 dx = none → dx ≠ x → spF A.w n g (.ref x :: vs) (upd (upd H1 dx (.own x)) x (.ins C dx [])) (fun v H2 => v = .non ∧ Q (.ref x) H2) (fun cls d H2 => W cls d σ H2) := by
  obtain ⟨r, G, k, m⟩ := h
  refine ⟨r, G, k, ?_⟩
  unfold mkC at m
  cases hf : f r with
  | bad => rw [hf] at m; exact m.elim
  | ex e r' => rw [hf] at m; exact m
  | ok hs r1 =>
    simp only [hf] at m
    intro xs G1 H1 k1 st1 t1 x dx hx hdx hne
    cases hl : lend r1 hs with
    | none => simp only [hl] at m
    | some as =>
      simp only [hl] at m
      by_cases hc : lents as = 0 ∧ as.length + 1 = n
      · simp only [if_pos hc] at m
        have ar := lend_rel k1 hl t1
        have gx : G1 x = none := k1.sub.back hx
        obtain ⟨H2, hH2⟩ : ∃ H2, H2 = upd (upd H1 dx (.own x)) x (.ins C dx []) := ⟨_, rfl⟩
        have up : ∀ a o, H1 a = some o → H2 a = some o := fun a o e => by
          have n1 : a ≠ x := fun z => by rw [z, hx] at e; cases e
          have n2 : a ≠ dx := fun z => by rw [z, hdx] at e; cases e
          rw [hH2, upd_ne n1, upd_ne n2]; exact e
        have up2 : ∀ a ps, H2 a = some (.tbl ps) → H1 a = some (.tbl ps) := fun a ps e => by
          by_cases n1 : a = x
          · rw [hH2, n1, upd_same] at e; cases e
          · by_cases n2 : a = dx
            · rw [hH2, upd_ne n1, n2, upd_same] at e; cases e
            · rw [hH2, upd_ne n1, upd_ne n2] at e; exact e
        have sub2 : Le G1 H2 := fun a o e => up a o (k1.sub a o e)
        have at2 : H2 x = some (.ins C dx []) := by rw [hH2, upd_same]
        have root : Root A.w G1 H2 (.obj c []) x := ⟨C, dx, [], at2, hC, repF_nil.mpr rfl⟩
        have ar2 : ARel A.w G1 H2 ((true, .obj c []) :: as) (.ref x :: xs) := ⟨x, xs, rfl, root, gx, arel_app hc.1 ar⟩
        have only : ∀ b, Lent ((true, .obj c []) :: as) (.ref x :: xs) b → b = x := fun b ⟨i, v, h1, h2⟩ => by
          cases i with
          | zero => simp at h2; exact h2.symm
          | succ i => exact absurd (by simpa using h1) (lents_zero hc.1 (p := i) (v := v))
        rw [← hH2]
        have len : (V.ref x :: xs).length = n := by rw [arel_length ar2]; simp; exact hc.2
        refine ⟨G1, (true, .obj c []) :: as, len, ⟨sub2, k1.tk.ext up up2, k1.nt⟩, ar2, by rw [show lents ((true, Val.obj c []) :: as) = lents as + 1 by simp [lents]]; omega, ?_⟩
        have keep : ∀ {G' H' : Hp} {out : Option (Bool × Val)}, Post A.w G1 H2 ((true, .obj c []) :: as) (.ref x :: xs) out G' H' → Ok A G' H' σ r1 ∧ (∀ a o, H1 a = some o → KpO o (H' a)) ∧ (∀ a, G1 a = none → G' a ≠ none → H1 a = none) := fun {G' H' out} p => by
          have kp : ∀ a o, H1 a = some o → KpO o (H' a) := fun a o e => p.kp a o (up a o e) fun z => by rw [only a z, hx] at e; cases e
          have gr : ∀ a, G1 a = none → G' a ≠ none → H1 a = none := fun a e1 e2 => by
            rcases p.gr a e1 e2 with z | z
            · cases q : H1 a with
              | none => rfl
              | some o => rw [up a o q] at z; cases z
            · rw [only a z]; exact hx
          exact ⟨k1.post0 p.g p.s gr kp p.tk p.nt, kp, gr⟩
        cases hg : g ((true, .obj c []) :: as) with
        | bad => simp only [hg] at m
        | ok o z out =>
          intro u G' H' p nr
          obtain ⟨k2, kp, gr⟩ := keep p
          cases o with
          | true => simp only [hg] at m
          | false =>
            cases z with
            | non =>
              rcases out with _ | ⟨_ | _, v⟩
              · simp only [hg] at m
              · simp only [hg] at m
              · simp only [hg] at m
                have ou := p.out x ⟨0, .obj c [], rfl, rfl⟩
                refine ⟨rep_non.mp (show Rep A.w G' .non u from nr), m (.ref x) G' H' ⟨k2, st1.trans ⟨p.g, fun a o e _ => kp a o e, fun a e1 e2 => .inl (gr a e1 e2), fun _ z => z⟩, ⟨x, rfl, ou.1, ou.2, k1.notRt hx, k1.fresh hx⟩, fun _ a ea => ?_⟩⟩
                cases ea
                exact st1.fresh hx
            | _ => simp only [hg] at m
        | ex e out =>
          simp only [hg] at m ⊢
          cases e with
          | exc ce fs =>
            intro G' H' Ce d p hCe hd
            obtain ⟨k2, kp, gr⟩ := keep p
            exact m G' H' Ce d k2 (st1.ex.trans p.g) hCe hd
          | _ => exact m
      · simp only [if_neg hc] at m
structure MkOk (X : Cx) (w : Wd) (lvl : Nat) (c : Str) (n : Nat) (g : GF) : Prop where
  ok : ∃ C f, w.CM c = some C ∧ Mk X.K C f ∧ FnP X.prog X.w X.K X.mg X.base (L2.CX X.prog X.w) lvl f (spF w n g)
section
variable {X : Cx} {A : Act} {W : WX} {lvl n i : Nat} {c x m : Str} {g : GF} {C f : Addr} {o e : Expr} {es : List Expr} {tbl : Tbl} {fo : OF} {fs : OsF} {p pos apos : Pos} {pl : Sem Bool} {pins : List (Addr × Obj)} {σ : L2.St} {H : Hp} {s : Shared} {Q : VK} {us : List Value} {vs : List V}
theorem run_mkP (M : Mk X.K C f) (F : FnP X.prog X.w X.K X.mg X.base (L2.CX X.prog X.w) lvl f (spF A.w n g)) (hr : RoomG (lvl + 1) X.A) (tk : Takes X W) (I : Inv X pins σ H s) (r : Vals vs us)
    (h : ∀ x dx, H x = none → H dx = none → dx ≠ x → spF A.w n g (.ref x :: vs) (upd (upd H dx (.own x)) x (.ins C dx [])) (fun v H2 => v = .non ∧ Q (.ref x) H2) (fun cls d H2 => W cls d σ H2)) :
    wpAny (model X.prog X.w) X.A (call (.ref C) us) (EP X pins σ Q) X.xe s := by
  have I2 := Inv.made (C := C) I
  have free : ∀ b, s.heap.objs.size ≤ b → H b = none := fun b le => I.hok.fresh le
  have runs := F _ X.stack _ _ (Value.ref (s.heap.objs.size + 1) :: us) (V.ref (s.heap.objs.size + 1) :: vs) _ _ (hr.make C us) (I2.env0.make C us []) (.cons rfl r) (h _ s.heap.objs.size (free _ (Nat.le_succ _)) (free _ (Nat.le_refl _)) (Nat.succ_ne_self _).symm)
  refine wpAny_call (make_map (f := f) I.kIn M.makes M.init (beq_iff_eq.mp M.fn) (codeAny_mono runs fun x t q => ?_))
  rcases come_to I2 q with ⟨u, rfl, _, H', I3, rv, rfl, q3⟩ | ⟨e, rfl, y⟩
  · exact ⟨rv, .ref _, H', I3, rfl, q3⟩
  · exact tk e t (XE.of_call I2 (fun _ _ _ z => z) y)
/-- C(e, ..), C a class of the module -/
theorem pe_mkN (mo : MkOk X A.w lvl c n g) (hr : RoomG (lvl + 1) X.A) (hg : Gl X x) (hm : ∃ C, X.mg x = some (.ref C) ∧ A.w.CM c = some C) (tk : Takes X W) (ha : PA X (e :: es) (tOs A W fs)) (hdb : (x == ("__debug__" : Str)) = false := by decide)
    (he : NoStar X e es := by rfl) (hpl : NoStars X es pos := by rfl) : PE X (.Call (.Name x p) (e :: es) [] pos) (tE A W (mkC c n g fs)) := by
  obtain ⟨C, f, hC, hk, F⟩ := mo.ok
  obtain ⟨C', hm, hC'⟩ := hm
  rw [hC] at hC'
  cases hC'
  refine ⟨fun pins s σ H Q I h => ?_⟩
  have h2 := mkC_of hC h
  refine wpAny_Call_Name_kw (ld_glob I hg hm ?_ hdb)
  refine PySem.W.callWith_K (h₀ := X.base) I.ok.mod.kin hk.kp (wpAny_mono (ha.run pos pins s σ H _ I h2) (fun us s1 ⟨vs, H1, I1, r, q⟩ => ⟨I1.kIn, ?_⟩) fun _ _ z => z) he hpl
  exact run_mkP hk F hr tk I1 r q
theorem pe_mkN0 (mo : MkOk X A.w lvl c n g) (hr : RoomG (lvl + 1) X.A) (hg : Gl X x) (hm : ∃ C, X.mg x = some (.ref C) ∧ A.w.CM c = some C) (tk : Takes X W) (hdb : (x == ("__debug__" : Str)) = false := by decide) :
    PE X (.Call (.Name x p) [] [] pos) (tE A W (mkC c n g osNil)) := by
  obtain ⟨C, f, hC, hk, F⟩ := mo.ok
  obtain ⟨C', hm, hC'⟩ := hm
  rw [hC] at hC'
  cases hC'
  refine ⟨fun pins s σ H Q I h => ?_⟩
  obtain ⟨r, G, kk, q⟩ := mkC_of hC h
  have q2 := q [] G H kk Step.refl rfl
  refine wpAny_Call_Name_kw (ld_glob I hg hm ?_ hdb)
  exact PySem.W.callWith_K0 I.kIn hk.kp (run_mkP hk F hr tk I .nil q2)
/-- x(..), x a name that holds a class -/
def mkD (tbl : Tbl) (i : Nat) (fs : OsF) : EF := fun r => match r[i]? with
  | some (some (false, .cls c)) => match tbl.lookup c with
    | some (n, g) => mkC c n g fs r
    | none => .bad
  | _ => .bad
theorem mkD_of (h : tE A W (mkD tbl i fs) σ H Q) : ∃ c n g C, tbl.lookup c = some (n, g) ∧ A.w.CM c = some C ∧ σ[i]? = some (some (.ref C)) ∧ tE A W (mkC c n g fs) σ H Q := by
  obtain ⟨r, G, k, m⟩ := h
  unfold mkD at m
  rcases q : r[i]? with _ | _ | ⟨_ | _, v⟩
  · simp only [q] at m
  · simp only [q] at m
  · cases v with
    | cls c =>
      simp only [q] at m
      cases ht : tbl.lookup c with
      | none => simp only [ht] at m
      | some ng =>
        obtain ⟨n, g⟩ := ng
        simp only [ht] at m
        obtain ⟨x, e1, r1⟩ := k.fz i _ q
        rw [Rep] at r1
        obtain ⟨C, hC, rfl⟩ := r1
        exact ⟨c, n, g, C, ht, hC, e1, r, G, k, m⟩
    | _ => simp only [q] at m
  · simp only [q] at m
theorem pe_mkD0 (T : TblOk (MkOk X A.w lvl) tbl) (hr : RoomG (lvl + 1) X.A) (hN : X.N[i]? = some x) (hv : Vis X.env.scope x) (tk : Takes X W) (hdb : (x == ("__debug__" : Str)) = false := by decide) (hcd : (x == ("__classdict__" : Str)) = false := by decide) :
    PE X (.Call (.Name x p) [] [] pos) (tE A W (mkD tbl i osNil)) := by
  refine ⟨fun pins s σ H Q I h => ?_⟩
  obtain ⟨c, n, g, C, hl, hC, hs, h⟩ := mkD_of h
  obtain ⟨C', f, hC', hk, F⟩ := (T _ (lookup_in hl)).ok
  rw [hC] at hC'
  cases hC'
  obtain ⟨r, G, kk, q⟩ := mkC_of hC h
  have q2 := q [] G H kk Step.refl rfl
  refine wpAny_Call_Name_kw (thn ((pe_var (pos := p) hN hv hdb hcd).run pins s σ H (fun v H1 => v = .ref C ∧ H1 = H) I ⟨.ref C, hs, rfl, rfl⟩) fun u s1 ⟨v, H1, I1, r1, q1⟩ => ?_)
  obtain ⟨rfl, rfl⟩ := q1
  cases r1
  exact PySem.W.callWith_K0 I1.kIn hk.kp (run_mkP hk F hr tk I1 .nil q2)
theorem pe_mkD (T : TblOk (MkOk X A.w lvl) tbl) (hr : RoomG (lvl + 1) X.A) (hN : X.N[i]? = some x) (hv : Vis X.env.scope x) (tk : Takes X W) (ha : PA X (e :: es) (tOs A W fs)) (hdb : (x == ("__debug__" : Str)) = false := by decide) (hcd : (x == ("__classdict__" : Str)) = false := by decide)
    (he : NoStar X e es := by rfl) (hpl : NoStars X es pos := by rfl) :
    PE X (.Call (.Name x p) (e :: es) [] pos) (tE A W (mkD tbl i fs)) := by
  refine ⟨fun pins s σ H Q I h => ?_⟩
  obtain ⟨c, n, g, C, hl, hC, hs, h⟩ := mkD_of h
  obtain ⟨C', f, hC', hk, F⟩ := (T _ (lookup_in hl)).ok
  rw [hC] at hC'
  cases hC'
  have h2 := mkC_of hC h
  refine wpAny_Call_Name_kw (thn ((pe_var (pos := p) hN hv hdb hcd).run pins s σ H (fun v H1 => v = .ref C ∧ H1 = H) I ⟨.ref C, hs, rfl, rfl⟩) fun u s1 ⟨v, H1, I1, r1, q1⟩ => ?_)
  obtain ⟨rfl, rfl⟩ := q1
  cases r1
  refine PySem.W.callWith_K (h₀ := X.base) I.ok.mod.kin hk.kp (wpAny_mono (ha.run pos pins s1 σ _ _ I1 h2) (fun us s2 ⟨vs, H2, I2, r, q⟩ => ⟨I2.kIn, ?_⟩) fun _ _ z => z) he hpl
  exact run_mkP hk F hr tk I2 r q
/-! ### classmethods of a class of the module -/
structure CmtOk (X : Cx) (w : Wd) (lvl : Nat) (m c : Str) (n : Nat) (g : GF) : Prop where
  ok : ∃ C mc p f, w.CM c = some C ∧ ClX.CRead X.K C mc ∧ ClX.CMet X.K C mc m p f ∧ FnP X.prog X.w X.K X.mg X.base (L2.CX X.prog X.w) lvl f (spF w n g)
theorem run_cmP {q : Addr} {sp : Sp} (F : FnP X.prog X.w X.K X.mg X.base (L2.CX X.prog X.w) lvl f sp) (hr : RoomG lvl X.A) (tk : Takes X W) (I : Inv X ((q, PySem.W.methodObj (.ref f) (.ref C)) :: pins) σ H s)
    (r : Vals vs us) (h : sp (.ref C :: vs) H Q (fun cls d H2 => W cls d σ H2)) : wpAny (model X.prog X.w) X.A (call (.ref q) us) (EP X pins σ Q) X.xe s := by
  have z : wpAny (model X.prog X.w) X.A (call (.ref q) us) (EP X ((q, PySem.W.methodObj (.ref f) (.ref C)) :: pins) σ Q) X.xe s :=
    wpAny_call (PySem.W.method_call (ClX.pin_at I) (code_P (us := .ref C :: us) (vs := .ref C :: vs) F hr (fun e s' y => tk e s' (XE.of_call I (fun _ _ _ y => y) y)) I (.cons rfl r) h))
  exact thn z fun _ _ y => ClX.unpinE y
theorem cls_first {Q : V → Hp → Prop} (hC : A.w.CM c = some C) (h : tO A W (oV (cst (.cls c))) σ H Q) : Q (.ref C) H := by
  obtain ⟨r, G, k, m⟩ := h
  exact m (.ref C) G H k Step.refl (show Rep A.w G (.cls c) (.ref C) by rw [Rep]; exact ⟨C, hC, rfl⟩)
/-- C.m(e, ..) -/
theorem pe_cmt (T : CmtOk X A.w lvl m c n g) (hr : RoomG lvl X.A) (hg : Gl X x) (hm : ∃ C, X.mg x = some (.ref C) ∧ A.w.CM c = some C) (tk : Takes X W) (ha : PA X (e :: es) (tOs A W fs)) (hdb : (x == ("__debug__" : Str)) = false := by decide)
    (hst : NoStar X e es := by rfl) (hpl : NoStars X es pos := by rfl)
    (ht : MCall X (.Name x p) m (e :: es) apos pos pl := by rfl) :
    PE X (.Call (.Attribute (.Name x p) m apos) (e :: es) [] pos) (tE A W (callG n g (osCons (oV (cst (.cls c))) fs))) := by
  obtain ⟨C, mc, pp, f, hC, cr, cm, F⟩ := T.ok
  obtain ⟨C', hm, hC'⟩ := hm
  rw [hC] at hC'
  cases hC'
  refine ⟨fun pins s σ H Q I h => ?_⟩
  have h2 := cls_first hC (os_cons (call_of h))
  refine PySem.W.methodCall_KW (pl := pl) (thn ((pe_glob (v := .ref C) hg hm rfl hdb).run pins s σ H (fun v H1 => v = .ref C ∧ H1 = H) I ⟨rfl, rfl⟩) fun u s1 ⟨v, H1, I1, r1, q1⟩ => ?_) ht
  obtain ⟨rfl, rfl⟩ := q1
  cases r1
  refine ClX.getmethcm_ok I1 cr cm fun s2 I2 => ?_
  refine ClX.callwith_cm I2 (ClX.base_none I1 (Nat.le_refl _)) cm.fi (thn (ha.run pos _ s2 σ _ _ I2 h2) fun us s3 ⟨vs, H2, I3, rv, q2⟩ => ⟨⟨ClX.pin_at I3, I3.kIn⟩, ?_⟩) hst hpl
  exact run_cmP F hr tk I3 rv q2
end
/-! ### defs at an address -/
section
variable {P : Program} {w : World} {K : PySem.W.Frag} {mg : Str → Option Value} {base : Heap}
abbrev FunQ (K : PySem.W.Frag) (x qual : Str) (st : Stmt) (f : Addr) (fd : FuncData) : Prop := FunD K x qual (defArgs st) (defBody st) (defScope st) [] [] f fd
/-- the def at f keeps its promise g, by position -/
structure DefQ (P : Program) (w : World) (K : PySem.W.Frag) (mg : Str → Option Value) (base : Heap) (wd : Wd) (lvl : Nat) (x qual : Str) (st : Stmt) (ps : List Str) (g : GF) (f : Addr) : Prop where
  ex : ∃ fd, FunQ K x qual st f fd ∧ Binds K fd ps [] ∧ FnG P w K mg base (L2.CX P w) lvl f fd ps (spF wd ps.length g)
theorem FunD.fun {x qual : Str} {st : Stmt} {f : Addr} {fd : FuncData} (F : FunQ K x qual st f fd) : Fun K x qual st f fd := by
  obtain ⟨oc, od, dV, kV, doc, pm, an, cdv, ct, osl, e, lk, hcd, hD, _⟩ := F.ex
  refine ⟨⟨oc, od, kV, doc, pm, an, cdv, ct, osl, ?_, lk, hcd⟩, F.kp⟩
  rcases hD with ⟨_, rfl⟩ | ⟨z, _⟩
  · exact e
  · exact absurd rfl z
theorem defQ_mk {x qual : Str} {st : Stmt} {f : Addr} {fd : FuncData} {N ps : List Str} {k : Nat} {wd : Wd} {ios : List Nat} {body : SF} (F : FunQ K x qual st f fd) (S : FnScope N ps (defScope st))
    (hb : ∀ (cdv : Value) (A : Around) (outer : List PySem.Env) (s : Shared) (H : Hp) (E : XK), RoomG k (A.deeper (PyProof.Rows.envOfC qual (defScope st) s.heap.objs.size f cdv)) →
      SV (cxOf (L2.CX P w) P w K mg base N qual (defScope st) f cdv A outer s H E) wd ios (defBody st) body)
    (hbind : ∀ (kV doc pm : Value) (an : Option Addr) (cdv ct : Value) (us : List Value), us.length = ps.length → bindArgs (PySem.W.fnOf x qual (defArgs st) (defBody st) (defScope st) .none kV doc pm an cdv ct) ⟨us, []⟩ = pure (ps.zip us)) :
    DefQ P w K mg base wd (k + 1) x qual st ps (runDef ios ps.length N.length body) f :=
  ⟨fd, F, FunD.bindsN F hbind, def_ok (FunD.fun F) S hb fun as => .inr rfl⟩
theorem DefQ.fnP {wd : Wd} {lvl k : Nat} {x qual : Str} {st : Stmt} {ps : List Str} {g : GF} {f : Addr} {n : Nat} (d : DefQ P w K mg base wd lvl x qual st ps g f) (hk : lvl ≤ k) (hn : ps.length = n := by rfl) : FnP P w K mg base (L2.CX P w) k f (spF wd n g) := by
  subst hn
  obtain ⟨fd, F, hb, G⟩ := d.ex
  exact (G.fnP hb).up hk
theorem DefQ.defP {wd : Wd} {lvl : Nat} {x : Str} {st : Stmt} {ps : List Str} {g : GF} {f : Addr} (d : DefQ P w K mg base wd lvl x x st ps g f) (hm : mg x = some (.ref f)) : DefP P w K mg base wd lvl x st ps g := by
  obtain ⟨fd, F, hb, G⟩ := d.ex
  exact ⟨f, fd, hm, F, hb, G⟩

/-! ### def f(a, .., *v), def f(a, .., *v, **d) called without keywords -/
/-- the arguments behind np as a tuple -/
def packS (np : Nat) (kw : Bool) (as : List (Bool × Val)) : List (Bool × Val) := as.take np ++ (false, .tup ((as.drop np).map (·.2))) :: (if kw then [(false, .dct false [])] else [])
def runDefS (kw : Bool) (ios : List Nat) (np N : Nat) (body : SF) : GF := fun as =>
  if np ≤ as.length ∧ lents (as.drop np) = 0 ∧ as.length ≤ 100000 ∧ (∀ i ∈ ownIx (packS np kw as), i < np) then runDef ios (np + 1 + (if kw then 1 else 0)) N body (packS np kw as) else .bad
theorem arel_take {wd : Wd} {G H : Hp} : ∀ {as : List (Bool × Val)} {xs : List V} (n : Nat), ARel wd G H as xs → ARel wd G H (as.take n) (xs.take n)
  | [], xs, n, h => by have h' : xs = [] := h; subst h'; simp; exact rfl
  | _ :: _, xs, 0, h => by simp; exact rfl
  | (false, v) :: as, _, n + 1, ⟨y, ys, e, r, t⟩ => by subst e; exact ⟨y, ys.take n, rfl, r, arel_take n t⟩
  | (true, v) :: as, _, n + 1, ⟨a, ys, e, r, z, t⟩ => by subst e; exact ⟨a, ys.take n, rfl, r, z, arel_take n t⟩
theorem arel_drop {wd : Wd} {G H : Hp} : ∀ {as : List (Bool × Val)} {xs : List V} (n : Nat), ARel wd G H as xs → ARel wd G H (as.drop n) (xs.drop n)
  | [], xs, n, h => by have h' : xs = [] := h; subst h'; simp; exact rfl
  | _ :: _, xs, 0, h => by simpa using h
  | (false, v) :: as, _, n + 1, ⟨y, ys, e, r, t⟩ => by subst e; simpa using arel_drop n t
  | (true, v) :: as, _, n + 1, ⟨a, ys, e, r, z, t⟩ => by subst e; simpa using arel_drop n t
theorem arel_reps {wd : Wd} {G H : Hp} : ∀ {as : List (Bool × Val)} {xs : List V}, lents as = 0 → ARel wd G H as xs → Reps wd G (as.map (·.2)) xs
  | [], xs, _, h => by have h' : xs = [] := h; subst h'; exact reps_nil.mpr rfl
  | (true, v) :: as, _, z, _ => by simp [lents] at z
  | (false, v) :: as, _, z, ⟨y, ys, e, r, t⟩ => by subst e; exact reps_cons.mpr ⟨y, ys, rfl, r, arel_reps (by simpa [lents] using z) t⟩
theorem arel_append {wd : Wd} {G H : Hp} : ∀ {as bs : List (Bool × Val)} {xs ys : List V}, ARel wd G H as xs → ARel wd G H bs ys → ARel wd G H (as ++ bs) (xs ++ ys)
  | [], _, xs, _, h, h2 => by have h' : xs = [] := h; subst h'; simpa using h2
  | (false, v) :: as, _, _, _, ⟨y, ys, e, r, t⟩, h2 => by subst e; exact ⟨y, _, rfl, r, arel_append t h2⟩
  | (true, v) :: as, _, _, _, ⟨a, ys, e, r, z, t⟩, h2 => by subst e; exact ⟨a, _, rfl, r, z, arel_append t h2⟩
theorem arel_mono {wd : Wd} {G H G' H' : Hp} (g : Le G G') (e : ∀ a o, H a = some o → H' a = some o) (n : ∀ a, H a ≠ none → G a = none → G' a = none) : ∀ {as : List (Bool × Val)} {xs : List V}, ARel wd G H as xs → ARel wd G' H' as xs
  | [], _, h => h
  | (false, v) :: as, _, ⟨y, ys, q, r, t⟩ => ⟨y, ys, q, r.mono g, arel_mono g e n t⟩
  | (true, v) :: as, _, ⟨a, ys, q, r, z, t⟩ => ⟨a, ys, q, r.mono g (e a), n a (by obtain ⟨o, ho, _⟩ := r.has; rw [ho]; simp) z, arel_mono g e n t⟩
theorem lents_take {as : List (Bool × Val)} (np : Nat) (h : lents (as.drop np) = 0) : lents (as.take np) = lents as := by
  have : as = as.take np ++ as.drop np := (List.take_append_drop np as).symm
  have e : lents (as.take np ++ as.drop np) = lents (as.take np) + lents (as.drop np) := by
    show ((as.take np ++ as.drop np).filter (·.1)).length = _
    rw [List.filter_append, List.length_append]; rfl
  rw [← this] at e
  omega
theorem packS_lents {as : List (Bool × Val)} {np : Nat} {kw : Bool} (h : lents (as.drop np) = 0) : lents (packS np kw as) = lents as := by
  have e : lents (packS np kw as) = lents (as.take np) := by cases kw <;> simp [packS, lents]
  rw [e, lents_take np h]
theorem drop_get {α : Type} (l : List α) (n i : Nat) : (l.drop n)[i]? = l[n + i]? := List.getElem?_drop
/-- what is lent is the same ahead of the packing and behind it -/
theorem lent_pack {as : List (Bool × Val)} {vs sv : List V} {np : Nat} {kw : Bool} (hl : vs.length = as.length) (hnp : np ≤ as.length) (h : lents (as.drop np) = 0) (a : Addr) :
    Lent (packS np kw as) (vs.take np ++ sv) a ↔ Lent as vs a := by
  constructor
  · rintro ⟨i, v, h1, h2⟩
    by_cases hi : i < np
    · refine ⟨i, v, ?_, ?_⟩
      · unfold packS at h1
        rwa [List.getElem?_append_left (by simp; omega), List.getElem?_take_of_lt hi] at h1
      · rwa [List.getElem?_append_left (by simp; omega), List.getElem?_take_of_lt hi] at h2
    · exfalso
      unfold packS at h1
      rw [List.getElem?_append_right (by simp; omega)] at h1
      generalize i - (as.take np).length = j at h1
      cases j with
      | zero => simp at h1
      | succ j =>
        cases kw with
        | false => simp at h1
        | true =>
          cases j with
          | zero => simp at h1
          | succ j => simp at h1
  · rintro ⟨i, v, h1, h2⟩
    have hi : i < np := by
      rcases Nat.lt_or_ge i np with z | z
      · exact z
      · exfalso
        refine lents_zero h (p := i - np) (v := v) ?_
        rw [drop_get]
        rw [show np + (i - np) = i by omega]
        exact h1
    refine ⟨i, v, ?_, ?_⟩
    · unfold packS
      rwa [List.getElem?_append_left (by simp; omega), List.getElem?_take_of_lt hi]
    · rwa [List.getElem?_append_left (by simp; omega), List.getElem?_take_of_lt hi]
theorem post_back {wd : Wd} {G H G2 H2 G' H' : Hp} {as as2 : List (Bool × Val)} {vs vs2 : List V} {out : Option (Bool × Val)} (g : Grow G H G2 H2) (hl : ∀ a, Lent as2 vs2 a ↔ Lent as vs a) (p : Post wd G2 H2 as2 vs2 out G' H') : Post wd G H as vs out G' H' where
  g := g.g.trans p.g
  s := p.s
  gr := fun a h h' => by
    by_cases q : G2 a = none
    · rcases p.gr a q h' with z | z
      · exact .inl (g.h.back z)
      · exact .inr ((hl a).mp z)
    · exact .inl (g.n a h q)
  kp := fun a o h n => p.kp a o (g.h _ _ h) fun z => n ((hl a).mp z)
  tk := p.tk
  nt := p.nt
  out := fun a h => p.out a ((hl a).mpr h)
theorem nrep_back {wd : Wd} {G H G2 H2 G' H' : Hp} {o : Bool} {v : Val} {x : V} (g : Grow G H G2 H2) (h : NRep wd G2 H2 G' H' o v x) : NRep wd G H G' H' o v x := by
  cases o with
  | true => obtain ⟨a, e, ro, n, n2⟩ := h; exact ⟨a, e, ro, n, g.h.back n2⟩
  | false => exact h
theorem spPost_back {wd : Wd} {G H G2 H2 : Hp} {as as2 : List (Bool × Val)} {vs vs2 : List V} {Q : VK} {E : XK} (g : Grow G H G2 H2) (hl : ∀ a, Lent as2 vs2 a ↔ Lent as vs a) : ∀ {x : GR}, spPost wd G H as vs Q E x → spPost wd G2 H2 as2 vs2 Q E x
  | .ok o z out, h => fun u G' H' p nr => h u G' H' (post_back g hl p) (nrep_back g nr)
  | .ex e out, h => by
    cases e with
    | exc c fs => exact fun G' H' C d p => h G' H' C d (post_back g hl p)
    | _ => exact h
  | .bad, h => h
theorem spF_post {wd : Wd} {n : Nat} {g : GF} {vs : List V} {H : Hp} {Q : VK} {E : XK} (h : spF wd n g vs H Q E) : ∃ G as, vs.length = n ∧ LeT wd G H ∧ ARel wd G H as vs ∧ lents as ≤ 1 ∧ spPost wd G H as vs Q E (g as) := by
  obtain ⟨G, as, h1, h2, h3, h4, h5⟩ := h
  refine ⟨G, as, h1, h2, h3, h4, ?_⟩
  revert h5
  cases g as <;> exact id
/-- the start of a body behind the packing -/
theorem star_start {wd : Wd} {ios : List Nat} {np n : Nat} {kw : Bool} {N : List Str} {body : SF} {G H : Hp} {as : List (Bool × Val)} {vs : List V} {Q : VK} {E : XK} (hlen : vs.length = n) (hle : Le G H) (ar : ARel wd G H as vs) (l1 : lents as ≤ 1)
    (hm : spPost wd G H as vs Q E (runDefS kw ios np N.length body as)) :
    np ≤ vs.length ∧ vs.length ≤ 100000 ∧ ∀ (G2 H2 : Hp) (sv : List V), Grow G H G2 H2 → ARel wd G2 H2 ((false, .tup ((as.drop np).map (·.2))) :: (if kw then [(false, .dct false [])] else [])) sv → Reps wd G ((as.drop np).map (·.2)) (vs.drop np) →
      ∃ as2, lents as2 ≤ 1 ∧ Le G2 H2 ∧ ARel wd G2 H2 as2 (vs.take np ++ sv) ∧ spPost wd G2 H2 as2 (vs.take np ++ sv) Q E (runDef ios (np + 1 + (if kw then 1 else 0)) N.length body as2) := by
  unfold runDefS at hm
  by_cases hc : np ≤ as.length ∧ lents (as.drop np) = 0 ∧ as.length ≤ 100000 ∧ (∀ i ∈ ownIx (packS np kw as), i < np)
  case neg => rw [if_neg hc] at hm; exact hm.elim
  rw [if_pos hc] at hm
  have hl := arel_length ar
  refine ⟨by omega, by omega, fun G2 H2 sv g ar2 _ => ⟨packS np kw as, by rw [packS_lents hc.2.1]; exact l1, g.s, ?_, spPost_back g (lent_pack hl hc.1 hc.2.1) hm⟩⟩
  unfold packS
  refine arel_append (arel_mono g.g g.h (fun a h1 h2 => ?_) (arel_take np ar)) ar2
  cases q : G2 a with
  | none => rfl
  | some o => exact absurd (g.n a h2 (by rw [q]; simp)) h1
theorem star_reps {wd : Wd} {ios : List Nat} {np : Nat} {kw : Bool} {N : Nat} {body : SF} {G H : Hp} {as : List (Bool × Val)} {vs : List V} {Q : VK} {E : XK} (ar : ARel wd G H as vs)
    (hm : spPost wd G H as vs Q E (runDefS kw ios np N body as)) : Reps wd G ((as.drop np).map (·.2)) (vs.drop np) := by
  unfold runDefS at hm
  by_cases hc : np ≤ as.length ∧ lents (as.drop np) = 0 ∧ as.length ≤ 100000 ∧ (∀ i ∈ ownIx (packS np kw as), i < np)
  case neg => rw [if_neg hc] at hm; exact hm.elim
  exact arel_reps hc.2.1 (arel_drop np ar)
theorem scope_len {N qs : List Str} {sc : Scope} (S : FnScope N qs sc) : qs.length ≤ N.length := by
  have := congrArg List.length S.pre
  rw [List.length_take] at this; omega
/-- def f(a, .., *v) -/
theorem fnP_star {pv x qual : Str} {st : Stmt} {f : Addr} {fd : FuncData} {N ps : List Str} {k n : Nat} {wd : Wd} {ios : List Nat} {body : SF} (F : FunQ K x qual st f fd) (S : FnScope N (ps ++ [pv]) (defScope st))
    (hb : ∀ (cdv : Value) (A : Around) (outer : List PySem.Env) (s : Shared) (H : Hp) (E : XK), RoomG k (A.deeper (PyProof.Rows.envOfC qual (defScope st) s.heap.objs.size f cdv)) →
      SV (cxOf (L2.CX P w) P w K mg base N qual (defScope st) f cdv A outer s H E) wd ios (defBody st) body)
    (hbind : ∀ (kV doc pm : Value) (an : Option Addr) (cdv ct : Value) (us rest : List Value), us.length = ps.length → bindArgs (PySem.W.fnOf x qual (defArgs st) (defBody st) (defScope st) .none kV doc pm an cdv ct) ⟨us ++ rest, []⟩ = (newTuple rest >>= fun t => pure (ps.zip us ++ [(pv, t)]))) :
    FnP P w K mg base (L2.CX P w) (k + 1) f (spF wd n (runDefS false ios ps.length N.length body)) := by
  intro A outer s H us vs Q E hr e0 rv hsp
  obtain ⟨G, as, hlen, hle, ar, l1, hm⟩ := spF_post hsp
  obtain ⟨hnp, hmax, go⟩ := star_start hlen hle.1 ar l1 hm
  have rr := star_reps ar hm
  obtain ⟨oc, od, kV, doc, pm, an, cdv, ct, osl, rfl, lk, hcd⟩ := (FunD.fun F).ex
  obtain ⟨ws, hws⟩ : ∃ ws, ws = vs.take ps.length := ⟨_, rfl⟩
  obtain ⟨rest, hrest⟩ : ∃ rest, rest = vs.drop ps.length := ⟨_, rfl⟩
  have ev : vs = ws ++ rest := by rw [hws, hrest, List.take_append_drop]
  rw [ev] at rv
  obtain ⟨u1, u2, eu, r1, r2⟩ := StX.vals_split rv
  subst eu
  have hn := e0.hok.fresh (Nat.le_refl s.heap.objs.size)
  have hlw : ws.length = ps.length := by rw [hws, List.length_take]; omega
  have hl1 : u1.length = ps.length := by rw [← r1.length]; exact hlw
  have hzr : rest.length ≤ sizeLine := line_of (by rw [hrest, List.length_drop]; omega)
  have hl2 : u2.length ≤ sizeLine := by rw [← r2.length]; exact hzr
  refine StX.run_bnd lk hcd S hr.room e0 (G := fun xs H2 => ∃ p, H p = Option.none ∧ xs = ws ++ [V.ref p] ∧ H2 = upd H p (.tup rest)) (fun A' Ex Q' h => ?_) fun s2 H2 xs ⟨p, hp, ex, eH⟩ hr' => ?_
  · rw [hbind kV doc pm an cdv ct u1 u2 hl1]
    refine wpAny_bind (wpAny_newTuple (wpAny_pure ?_) hl2)
    obtain ⟨ob, hob⟩ : ∃ ob : Obj, ob = { cls := .type "tuple", data := .seq u2.toArray } := ⟨_, rfl⟩
    have new : ObjOk P w (upd H s.heap.objs.size (.tup rest)) (s.heap.push ob) s.heap.objs.size (.tup rest) := ⟨hzr, u2, r2, (by subst hob; exact ⟨_, Heap.get?_push_size _ rfl, rfl, _, rfl⟩)⟩
    have un := StX.un_laid (fs := frs outer) (s := s) (o := ob) (u := .tup rest) hn
    have z := h _ _ (ws ++ [V.ref s.heap.objs.size]) (u1 ++ [Value.ref s.heap.objs.size]) (StX.env0_laid e0 new) un rfl (fun e s' => StX.cxUp outer s H _ _ E e s' un (fun b o q => Heap.get?_push_of_some _ q) rfl) (r1.append (.cons rfl .nil))
      (by rw [List.length_append, List.length_append, hlw] <;> rfl) ⟨_, hn, rfl, rfl⟩
    rw [List.zip_append hl1.symm, hob] at z
    exact z
  · subst ex eH
    have g : Grow G H (upd G p (.tup rest)) (upd H p (.tup rest)) := Grow.laidG hle.1 hp
    obtain ⟨as2, l2, le2, ar2, hm2⟩ := go _ _ [.ref p] g ⟨.ref p, [], rfl, rep_tup.mpr ⟨p, rest, rfl, .inl (.inl upd_same), by have z := rr.mono g.g; rw [← hrest] at z; exact z⟩, rfl⟩ rr
    rw [← hws] at ar2 hm2
    exact body_ok (hb cdv A outer s2 _ E ⟨hr', hr.gs⟩) (takes_of rfl rfl rfl rfl) (by have := scope_len S; simp at this ⊢; omega) (by simp [hlw]) ⟨le2, hle.2.1.ext g.h g.ot, g.t hle.2.2⟩ ar2 l2 hm2
/-- def f(a, .., *v, **d), called without keywords -/
theorem fnP_starkw {pv pd x qual : Str} {st : Stmt} {f : Addr} {fd : FuncData} {N ps : List Str} {k n : Nat} {wd : Wd} {ios : List Nat} {body : SF} (F : FunQ K x qual st f fd) (S : FnScope N (ps ++ [pv, pd]) (defScope st))
    (hb : ∀ (cdv : Value) (A : Around) (outer : List PySem.Env) (s : Shared) (H : Hp) (E : XK), RoomG k (A.deeper (PyProof.Rows.envOfC qual (defScope st) s.heap.objs.size f cdv)) →
      SV (cxOf (L2.CX P w) P w K mg base N qual (defScope st) f cdv A outer s H E) wd ios (defBody st) body)
    (hbind : ∀ (kV doc pm : Value) (an : Option Addr) (cdv ct : Value) (us rest : List Value), us.length = ps.length → bindArgs (PySem.W.fnOf x qual (defArgs st) (defBody st) (defScope st) .none kV doc pm an cdv ct) ⟨us ++ rest, []⟩ =
      (newTuple rest >>= fun t => (alloc ({ cls := .type "dict", data := .dict #[] } : Obj) : Sem Addr) >>= fun d => pure (ps.zip us ++ [(pv, t), (pd, Value.ref d)]))) :
    FnP P w K mg base (L2.CX P w) (k + 1) f (spF wd n (runDefS true ios ps.length N.length body)) := by
  intro A outer s H us vs Q E hr e0 rv hsp
  obtain ⟨G, as, hlen, hle, ar, l1, hm⟩ := spF_post hsp
  obtain ⟨hnp, hmax, go⟩ := star_start hlen hle.1 ar l1 hm
  have rr := star_reps ar hm
  obtain ⟨oc, od, kV, doc, pm, an, cdv, ct, osl, rfl, lk, hcd⟩ := (FunD.fun F).ex
  obtain ⟨ws, hws⟩ : ∃ ws, ws = vs.take ps.length := ⟨_, rfl⟩
  obtain ⟨rest, hrest⟩ : ∃ rest, rest = vs.drop ps.length := ⟨_, rfl⟩
  have ev : vs = ws ++ rest := by rw [hws, hrest, List.take_append_drop]
  rw [ev] at rv
  obtain ⟨u1, u2, eu, r1, r2⟩ := StX.vals_split rv
  subst eu
  have hn := e0.hok.fresh (Nat.le_refl s.heap.objs.size)
  have hlw : ws.length = ps.length := by rw [hws, List.length_take]; omega
  have hl1 : u1.length = ps.length := by rw [← r1.length]; exact hlw
  have hzr : rest.length ≤ sizeLine := line_of (by rw [hrest, List.length_drop]; omega)
  have hl2 : u2.length ≤ sizeLine := by rw [← r2.length]; exact hzr
  obtain ⟨oD, hoD⟩ : ∃ oD : Obj, oD = { cls := .type "dict", data := .dict #[] } := ⟨_, rfl⟩
  refine StX.run_bnd lk hcd S hr.room e0 (G := fun xs H2 => ∃ p d, H p = Option.none ∧ H d = Option.none ∧ d ≠ p ∧ xs = ws ++ [V.ref p, V.ref d] ∧ H2 = upd (upd H p (.tup rest)) d (.frz oD (.dK []))) (fun A' Ex Q' h => ?_) fun s2 H2 xs ⟨p, d, hp, hd, hne, ex, eH⟩ hr' => ?_
  · rw [hbind kV doc pm an cdv ct u1 u2 hl1]
    refine wpAny_bind (wpAny_newTuple ?_ hl2)
    refine wpAny_bind (wpAny_alloc (wpAny_pure ?_))
    obtain ⟨ob, hob⟩ : ∃ ob : Obj, ob = { cls := .type "tuple", data := .seq u2.toArray } := ⟨_, rfl⟩
    rw [← hob, ← hoD]
    have new : ObjOk P w (upd H s.heap.objs.size (.tup rest)) (s.heap.push ob) s.heap.objs.size (.tup rest) := ⟨hzr, u2, r2, (by subst hob; exact ⟨_, Heap.get?_push_size _ rfl, rfl, _, rfl⟩)⟩
    have e1 := StX.env0_laid e0 new
    have un1 := StX.un_laid (fs := frs outer) (s := s) (o := ob) (u := .tup rest) hn
    have hn2 := e1.hok.fresh (Nat.le_refl _)
    have dkO : ObjOk P w (upd (upd H s.heap.objs.size (.tup rest)) (s.heap.push ob).objs.size (.frz oD (.dK []))) ((s.heap.push ob).push oD) (s.heap.push ob).objs.size (.frz oD (.dK [])) := by
      rw [hoD]
      exact ⟨Heap.get?_push_size _ rfl, dk_empty _ (StX.env0_big e1)⟩
    have e2 := StX.env0_laid (u := .frz oD (.dK [])) (o := oD) e1 dkO
    have un2 := un1.trans (StX.un_laid (fs := frs outer) (s := { s with heap := s.heap.push ob }) (o := oD) (u := .frz oD (.dK [])) hn2)
    have sz : (s.heap.push ob).objs.size = s.heap.objs.size + 1 := Heap.size_push _ _
    have ne : (s.heap.push ob).objs.size ≠ s.heap.objs.size := by
      rw [sz]
      exact Nat.succ_ne_self _
    have hd : H (s.heap.push ob).objs.size = Option.none := e0.hok.fresh (by rw [sz]; exact Nat.le_succ _)
    have z := h _ _ (ws ++ [V.ref s.heap.objs.size, V.ref (s.heap.push ob).objs.size]) (u1 ++ [Value.ref s.heap.objs.size, Value.ref (s.heap.push ob).objs.size]) e2 un2 rfl
      (fun e s' => StX.cxUp outer s H _ _ E e s' un2 (fun b o q => Heap.get?_push_of_some _ (Heap.get?_push_of_some _ q)) rfl) (r1.append (.cons rfl (.cons rfl .nil))) (by rw [List.length_append, List.length_append, hlw] <;> rfl) ⟨_, _, hn, hd, ne, rfl, rfl⟩
    rw [List.zip_append hl1.symm] at z
    exact z
  · subst ex eH
    have g1 : Grow G H (upd G p (.tup rest)) (upd H p (.tup rest)) := Grow.laidG hle.1 hp
    have hd2 : upd H p (.tup rest) d = none := by rw [upd_ne hne]; exact hd
    have g2 := Grow.laidG (o := .frz oD (.dK [])) g1.s hd2
    have g := g1.trans g2
    have rd : Rep wd (upd (upd G p (.tup rest)) d (.frz oD (.dK []))) (.dct false []) (.ref d) := by
      rw [Rep]; exact ⟨d, rfl, .inl ⟨rfl, [], oD, upd_same, by rw [RepK]⟩⟩
    obtain ⟨as2, l2, le2, ar2, hm2⟩ := go _ _ [.ref p, .ref d] g ⟨.ref p, [.ref d], rfl, rep_tup.mpr ⟨p, rest, rfl, .inl (.inl (by rw [upd_ne (Ne.symm hne), upd_same])), by have z := rr.mono g.g; rw [← hrest] at z; exact z⟩, ⟨.ref d, [], rfl, rd, rfl⟩⟩ rr
    rw [← hws] at ar2 hm2
    exact body_ok (hb cdv A outer s2 _ E ⟨hr', hr.gs⟩) (takes_of rfl rfl rfl rfl) (by have := scope_len S; simp at this ⊢; omega) (by simp [hlw]) ⟨le2, hle.2.1.ext g.h g.ot, g.t hle.2.2⟩ ar2 l2 hm2
end
end M
/-! MPY: dict comprehensions, items, enumerate, get, sorted, f-strings. -/
namespace M
open PySem L2

/-! ### dict comprehensions of one clause -/
def dcL (t : TF) (c : BF) (fk f : EF) (sl : List Nat) : List Val → List (Val × Val) → Env → DR
  | [], acc, r => .ok acc r
  | v :: vs, acc, r => match t v r with
    | some r1 => match c r1 with
      | .ok true r2 => match frz fk r2 with
        | .ok _ k r3 => match frz f r3 with
          | .ok _ y r4 => match keyOf k with
            | some q => if acc.length < 100000 then dcL t c fk f sl vs (dPut acc q y) (wipeR r4 sl) else .bad
            | none => .bad
          | _ => .bad
        | _ => .bad
      | .ok false r2 => dcL t c fk f sl vs acc (wipeR r2 sl)
      | _ => .bad
    | none => .bad
def dc (fi : IF) (t : TF) (c : BF) (fk f : EF) (sl : List Nat) : EF := fun r => match fi r with
  | .ok vs r1 => match dcL t c fk f sl vs [] (wipeR r1 sl) with
    | .ok ys r2 => .ok true (.dct false ys) (restR r1 r2 sl)
    | _ => .bad
  | .ex e r1 => .ex e r1
  | .bad => .bad
theorem repK_nil0 {w : Wd} {G : Hp} : RepK w G [] [] := by rw [RepK]
theorem root_dK {w : Wd} {G H : Hp} {a : Addr} {ds : List (Val × Val)} {kvs : List (Key × V)} (h : H a = some (.dK kvs)) (q : RepK w G ds kvs) : Root w G H (.dct false ds) a := .inl ⟨rfl, kvs, h, q⟩
theorem dc_of {A : Act} {W : WX} {fi : IF} {t : TF} {c : BF} {fk f : EF} {sl st' : List Nat} {σ : L2.St} {H : Hp} {Q : VK} (tok : TOk st' t) (hs : ∀ j ∈ st', j ∈ sl) (hio : ∀ i ∈ A.io, i ∉ sl) (h : tE A W (dc fi t c fk f sl) σ H Q) :
    tDc (tIt A W fi) (tTg A st' t) (tBo A (fun _ _ _ _ => False) c) (tE A (fun _ _ _ _ => False) (frz fk)) (tE A (fun _ _ _ _ => False) (frz f)) sl σ H Q := by
  obtain ⟨r, G, k, m⟩ := h
  refine ⟨r, G, k, ?_⟩
  unfold dc at m
  cases hf : fi r with
  | bad => rw [hf] at m; exact m.elim
  | ex e r' => rw [hf] at m; exact m
  | ok vs r1 =>
    simp only [hf] at m ⊢
    intro J G1 H1 k1 st1 io D hD
    have gr0 := Grow.laidH (o := .dK []) k1.sub hD
    have kw := (k1.wipe (sl := sl) hio).grow gr0
    let Fl : DR → Prop := fun a => match a with
      | .ok ys r2 => ∀ x G' H', Res A σ r G H (restR r1 r2 sl) G' H' true (.dct false ys) x → Q x H'
      | _ => False
    have m0 : Fl (dcL t c fk f sl vs [] (wipeR r1 sl)) := by
      cases hL : dcL t c fk f sl vs [] (wipeR r1 sl) with
      | ok ys r2 => rw [hL] at m; exact m
      | ex e r2 => rw [hL] at m; exact m
      | bad => rw [hL] at m; exact m
    refine ⟨fun i n H' => ∃ r' G' acc ds, i ≤ vs.length ∧ n = vs.length - i ∧ Ok A G' H' (wipe σ sl) r' ∧ Step (wipe σ sl) (wipeR r1 sl) G1 H1 r' G' H' ∧ H' D = some (.dK acc) ∧ RepK A.w G' ds acc ∧ G' D = none ∧ ¬ Rt r' (wipe σ sl) D ∧ Fl (dcL t c fk f sl (vs.drop i) ds r'),
      ⟨vs.length, wipeR r1 sl, G1, [], [], Nat.zero_le _, rfl, kw, gr0.step, upd_same, repK_nil0, k1.sub.back hD, (k1.wipe (sl := sl) hio).notRt hD, by simpa using m0⟩, ?_⟩
    rintro i n H2 ⟨r2, G2, acc, ds, hi, hn, k2, st2, hacc, hreps, hGD, hnr, hFl⟩
    have lD : A.L D ∨ A.H0 D = none := k1.fresh hD
    by_cases hlt : i < vs.length
    · refine .inr ⟨io.go G2 H2 i st2.ex k2.sub hlt, fun H' => ∃ r' G' acc ds, Ok A G' H' (wipe σ sl) r' ∧ Step (wipe σ sl) (wipeR r1 sl) G1 H1 r' G' H' ∧ H' D = some (.dK acc) ∧ RepK A.w G' ds acc ∧ G' D = none ∧ ¬ Rt r' (wipe σ sl) D ∧ Fl (dcL t c fk f sl (vs.drop (i + 1)) ds r'),
        fun H' ⟨r', G', acc, ds, q⟩ => ⟨vs.length - (i + 1), by omega, r', G', acc, ds, hlt, rfl, q⟩, fun x H3 hy => ?_⟩
      have ev : vs[i]? = some vs[i] := by simp [hlt]
      obtain ⟨G3, gr, rp⟩ := io.yld G2 H2 i vs[i] x H3 st2.ex k2.sub ev hy
      refine ⟨r2, G3, vs[i], k2.grow gr, rp, ?_⟩
      rw [List.drop_eq_getElem_cons hlt, dcL] at hFl
      cases ht : t vs[i] r2 with
      | none => simp only [ht] at hFl; exact hFl.elim
      | some r3 =>
        simp only [ht] at hFl ⊢
        intro σ2 k3 hj hl
        have hw := wipe_eq (σ := σ) (σ2 := σ2) hs hj hl
        obtain ⟨tk1, tk2⟩ := tok _ _ _ ht
        have rt3 : ∀ a, Rt r3 σ2 a → Rt r2 (wipe σ sl) a := fun a ⟨j, w, h1, h2⟩ => by
          by_cases q : j ∈ st'
          · exact absurd h1 (tk2 j q w)
          · exact ⟨j, w, by rw [← tk1 j q]; exact h1, by rw [← hj j q]; exact h2⟩
        have hacc3 : H3 D = some (.dK acc) := gr.h _ _ hacc
        have hGD3 : G3 D = none := by
          cases z : G3 D with
          | none => rfl
          | some o => have := gr.n D hGD (by rw [z]; simp); rw [hacc] at this; cases this
        have st3 := st2.trans gr.step
        -- from the target's state to the block's
        have conv : ∀ {r4 : Env} {G4 H4 : Hp}, Ok A G4 H4 σ2 r4 → Step σ2 r3 G3 H3 r4 G4 H4 → Ok A G4 H4 (wipe σ sl) (wipeR r4 sl) ∧ Step (wipe σ sl) (wipeR r1 sl) G1 H1 (wipeR r4 sl) G4 H4 ∧ H4 D = some (.dK acc) ∧ G4 D = none ∧ ¬ Rt (wipeR r4 sl) (wipe σ sl) D := fun {r4 G4 H4} k4 st4 => by
          have rt4 : ∀ a, Rt (wipeR r4 sl) (wipe σ sl) a → Rt r2 (wipe σ sl) a := fun a h => rt3 a (st4.rts a (by rw [← hw] at h; exact rt_wipe h))
          refine ⟨?_, st3.trans ⟨st4.ex, fun a o h n => st4.keep a o h fun z => n (rt3 a z), fun a h h' => (st4.grow a h h').imp id (rt3 a), rt4⟩, st4.keep D _ hacc3 fun z => hnr (rt3 D z), ?_, fun z => hnr (rt4 D z)⟩
          · have := k4.wipe (sl := sl) hio
            rw [hw] at this; exact this
          · cases z : G4 D with
            | none => rfl
            | some o =>
              rcases st4.grow D hGD3 (by rw [z]; simp) with y | y
              · rw [hacc3] at y; cases y
              · exact absurd (rt3 D y) hnr
        refine ⟨hw, r3, G3, k3, ?_⟩
        cases hc : c r3 with
        | bad => simp only [hc] at hFl; exact hFl.elim
        | ex e r4 => simp only [hc] at hFl; exact hFl.elim
        | ok b r4 =>
          simp only [hc] at hFl ⊢
          intro G4 H4 k4 st4
          cases b with
          | false =>
            simp only [Bool.false_eq_true, if_false]
            obtain ⟨c1, c2, c3, c4, c5⟩ := conv k4 st4
            exact ⟨_, G4, acc, ds, c1, c2, c3, hreps.mono (gr.g.trans st4.ex), c4, c5, hFl⟩
          | true =>
            simp only [if_true] at hFl ⊢
            refine ⟨r4, G4, k4, ?_⟩
            cases hk : frz fk r4 with
            | bad => simp only [hk] at hFl; exact hFl.elim
            | ex e r5 => simp only [hk] at hFl; exact hFl.elim
            | ok ok' kd rk =>
              have eo := frz_false hk
              subst eo
              simp only [hk] at hFl ⊢
              intro yk Gk Hk Rk
              refine ⟨rk, Gk, Rk.ok, ?_⟩
              cases he : frz f rk with
              | bad => simp only [he] at hFl; exact hFl.elim
              | ex e r5 => simp only [he] at hFl; exact hFl.elim
              | ok o y r5 =>
                have eo := frz_false he
                subst eo
                simp only [he] at hFl ⊢
                intro y' G5 H5 R5
                cases hq : keyOf kd with
                | none => simp only [hq] at hFl; exact hFl.elim
                | some q =>
                  simp only [hq] at hFl
                  by_cases hz : ds.length < 100000
                  case neg => rw [if_neg hz] at hFl; exact hFl.elim
                  rw [if_pos hz] at hFl
                  obtain ⟨c1, c2, c3, c4, c5⟩ := conv R5.ok ((st4.trans Rk.st).trans R5.st)
                  have le5 : Le G2 G5 := (gr.g.trans (st4.ex.trans Rk.st.ex)).trans R5.st.ex
                  obtain ⟨ekv, hb⟩ := rrep_key (H := Hk) (.inl (show Rep A.w Gk kd yk from Rk.tr)) hq
                  refine ⟨acc, q, ekv, c3, by rw [← repK_length hreps]; exact Nat.lt_of_lt_of_le hz (by decide), _, G5, putK acc q y', dPut ds q y, c1.tmp c4 (.inr ⟨_, c3, True.intro⟩) c5 lD, ⟨c2.ex, fun a o h nn => ?_, c2.grow, c2.rts⟩, upd_same, repK_put (hreps.mono le5) hb R5.tr, c4, c5, hFl⟩
                  have ne : a ≠ D := fun z => by subst z; rw [hD] at h; cases h
                  rw [upd_ne ne]; exact c2.keep a o h nn
    · have e : i = vs.length := by omega
      subst e
      rw [List.drop_length, dcL] at hFl
      obtain ⟨k3, st3⟩ := k1.unwipe k2 st2
      refine .inl ⟨io.stop G2 H2 _ st2.ex k2.sub (Nat.le_refl _), ?_⟩
      refine hFl (.ref D) G2 H2 ⟨k3, st1.trans st3, trep_t (root_dK hacc hreps) hGD ?_ lD, fun _ a e => by cases e; exact st1.fresh hD⟩
      intro z
      rcases k1.rt (st3.rts D z) with ⟨⟨o, ho⟩, _⟩
      rw [hD] at ho; cases ho
section
variable {X : Cx} {A : Act} {W : WX} {kx vx tg iter : Expr} {ifs : List Expr} {scope : Scope} {own : List (Str × Nat)} {pos : Pos} {fi : IF} {t : TF} {c : BF} {fk f : EF} {st' sl : List Nat}
theorem pe_dcM (hc : X.calm = true) (hN : X.N.Nodup) (hi : PI X tg iter (tIt A W fi)) (ok : BlkOk X.N X.env.scope scope own)
    (hg : ∀ (s : Shared) (H : Hp) (C : Addr) (cl : List (Str × Addr)) (fp : List Addr), PG (X.blk s H scope (compEnvC scope cl C X.env) fp) tg (tTg A st' t))
    (ht : ∀ (s : Shared) (H : Hp) (C : Addr) (cl : List (Str × Addr)) (fp : List Addr), PTs (X.blk s H scope (compEnvC scope cl C X.env) fp) ifs (tBo A W0 c))
    (hk : ∀ (s : Shared) (H : Hp) (C : Addr) (cl : List (Str × Addr)) (fp : List Addr), PE (X.blk s H scope (compEnvC scope cl C X.env) fp) kx (tE A W0 fk))
    (he : ∀ (s : Shared) (H : Hp) (C : Addr) (cl : List (Str × Addr)) (fp : List Addr), PE (X.blk s H scope (compEnvC scope cl C X.env) fp) vx (tE A W0 f))
    (tok : TOk st' t) (hs' : ∀ j ∈ st', j ∈ sl) (hio : ∀ i ∈ A.io, i ∉ sl) (hsl : own.map (·.2) = sl := by rfl) (hs : ∀ x, foldedSetIterable iter X.env x = pure x := by intro _; rfl) :
    PE X (.DictComp kx vx [⟨tg, iter, ifs, 0⟩] scope pos) (tE A W (dc fi t c fk f sl)) := by
  subst hsl
  exact PE.imp (pe_dc hc hN hi ok hg ht (fun s H C cl fp => pe_frz (hk s H C cl fp)) (fun s H C cl fp => pe_frz (he s H C cl fp)) hs) fun _ _ _ q => dc_of tok hs' hio q
end
/-! ### what is walked: items, values, enumerate -/
def pairsOf (kvs : List (Val × Val)) : List Val := kvs.map fun p => .tup [p.1, p.2]
def itI (f : EF) : IF := fun r => match frz f r with
  | .ok _ (.dct false kvs) r' => .ok (pairsOf kvs) r'
  | .ok _ _ _ => .bad
  | .ex e r' => .ex e r'
  | .bad => .bad
def itVs (f : EF) : IF := fun r => match frz f r with
  | .ok _ (.dct false kvs) r' => .ok (kvs.map (·.2)) r'
  | .ok _ _ _ => .bad
  | .ex e r' => .ex e r'
  | .bad => .bad
theorem rep_two {w : Wd} {G : Hp} {u v : Val} {x y : V} {p : Addr} (h : G p = some (.tup [x, y])) (hu : Rep w G u x) (hv : Rep w G v y) : Rep w G (.tup [u, v]) (.ref p) :=
  rep_tup.mpr ⟨p, [x, y], rfl, .inl (.inl h), reps_cons.mpr ⟨x, [y], rfl, hu, reps_one hv⟩⟩
section
variable {w : Wd} {K : PySem.W.Frag} {G H : Hp}
theorem itok_items {a : Addr} {o : Obj} {ds : List (Val × Val)} {kvs : List (Key × V)} (h : G a = some (.frz o (.dK kvs))) (r : RepK w G ds kvs) : ItOk w (Iti a o kvs) G (pairsOf ds) where
  go := fun G' H i le le' hi => ⟨le' _ _ (le _ _ h), by rw [← repK_length r]; simpa [pairsOf] using hi⟩
  stop := fun G' H i le le' hi => ⟨le' _ _ (le _ _ h), by rw [← repK_length r]; simpa [pairsOf] using hi⟩
  yld := fun G' H i v x H' le le' hv ⟨T, q, y, hk, hx, hT, e⟩ => by
    subst e
    subst hx
    obtain ⟨d, h1, h2, h3⟩ := repK_at r hk
    simp only [pairsOf, List.getElem?_map, h1, Option.map_some, Option.some.injEq] at hv
    subst hv
    have g := Grow.laidG (o := .tup [kV q, y]) le' hT
    exact ⟨_, g, rep_two upd_same ((rep_kv h2).mono g.g) ((h3.mono le).mono g.g)⟩
theorem itok_vals {a : Addr} {o : Obj} {ds : List (Val × Val)} {kvs : List (Key × V)} (h : G a = some (.frz o (.dK kvs))) (r : RepK w G ds kvs) : ItOk w (Itd a o kvs) G (ds.map (·.2)) where
  go := fun G' H i le le' hi => ⟨le' _ _ (le _ _ h), by rw [← repK_length r]; simpa using hi⟩
  stop := fun G' H i le le' hi => ⟨le' _ _ (le _ _ h), by rw [← repK_length r]; simpa using hi⟩
  yld := fun G' H i v x H' le le' hv ⟨e, q, hk⟩ => by
    subst e
    obtain ⟨d, h1, h2, h3⟩ := repK_at r hk
    simp only [List.getElem?_map, h1, Option.map_some, Option.some.injEq] at hv
    subst hv
    exact ⟨G', Grow.refl le', h3.mono le⟩
/-- i, x for the i-th x -/
def enumV (vs : List Val) : List Val := vs.mapIdx fun i v => .tup [.int (i : Nat), v]
theorem itok_enumL {a : Addr} {ds : List Val} {xs : List V} (h : SqL K G a xs) (r : Reps w G ds xs) : ItOk w (Ite K a) G (enumV ds) where
  go := fun G' H i le le' hi => by
    have hl := reps_length r
    have : i < xs.length := by rw [← hl]; simpa [enumV] using hi
    exact ⟨xs, xs[i], sql_mono (le.trans le') h, by simp [this]⟩
  stop := fun G' H i le le' hi => ⟨xs, sql_mono (le.trans le') h, by rw [← reps_length r]; simpa [enumV] using hi⟩
  yld := fun G' H i v x H' le le' hv ⟨T, y, hx, hT, e, hy⟩ => by
    subst e
    subst hx
    have hy' := hy xs (sql_mono (le.trans le') h)
    obtain ⟨d, h1, h2⟩ := reps_get' r hy'
    simp only [enumV, List.getElem?_mapIdx, h1, Option.map_some, Option.some.injEq] at hv
    subst hv
    have g := Grow.laidG (o := .tup [.int (i : Nat), y]) le' hT
    exact ⟨_, g, rep_two upd_same (rep_int.mpr rfl) ((h2.mono le).mono g.g)⟩
end
section
variable {X : Cx} {A : Act} {W : WX} {e : Expr} {f : EF} {apos cpos tpos : Pos} {elts : List Expr} {kk : Nat} {tg : Expr}
theorem itI_of {Iz : Addr → Obj → List (Key × V) → It} {vf : List (Val × Val) → List Val} {g : IF} {σ : L2.St} {H : Hp} {R : It → Hp → Prop}
    (hok : ∀ {G : Hp} {a : Addr} {o : Obj} {ds : List (Val × Val)} {kvs : List (Key × V)}, G a = some (.frz o (.dK kvs)) → RepK A.w G ds kvs → ItOk A.w (Iz a o kvs) G (vf ds))
    (hg : ∀ r, g r = match frz f r with
      | .ok _ (.dct false kvs) r' => .ok (vf kvs) r'
      | .ok _ _ _ => .bad
      | .ex e r' => .ex e r'
      | .bad => .bad) (h : tIt A W g σ H R) : tE A W (frz f) σ H fun x H1 => ∃ d o kvs, x = .ref d ∧ H1 d = some (.frz o (.dK kvs)) ∧ R (Iz d o kvs) H1 := by
  obtain ⟨r, G, k, m⟩ := h
  refine ⟨r, G, k, ?_⟩
  rw [hg] at m
  cases hf : frz f r with
  | bad => simp only [hf] at m
  | ex e r' => simp only [hf] at m ⊢; exact m
  | ok o v r' =>
    have eo := frz_false hf
    subst eo
    simp only [hf] at m ⊢
    intro x G1 H1 R1
    have rp : Rep A.w G1 v x := R1.tr
    cases v with
    | dct t ds =>
      cases t with
      | true => simp only at m
      | false =>
        simp only at m
        rw [Rep] at rp
        obtain ⟨a, rfl, ⟨_, kvs, o, h, rk⟩ | ⟨ht, _⟩⟩ := rp
        · exact ⟨a, o, kvs, rfl, R1.ok.sub _ _ h, m _ G1 H1 R1.ok R1.st (hok h rk)⟩
        · cases ht
    | _ => simp only at m
theorem pi_I (he : PE X e (tE A W f)) (hbase : AsItIs X e "items" := by rfl) (hline : (apos.endLine == cpos.line) = true := by rfl) :
    PI X (.Tuple elts kk tpos) (.Call (.Attribute e "items" apos) [] [] cpos) (tIt A W (itI f)) :=
  PI.imp (pi_items (pe_frz he) hbase hline) fun σ H R h => itI_of (Iz := Iti) itok_items (fun r => by unfold itI; rfl) h
theorem pi_Vs (he : PE X e (tE A W f)) (hbase : AsItIs X e "values" := by rfl) (hline : (apos.endLine == cpos.line) = true := by rfl) :
    PI X tg (.Call (.Attribute e "values" apos) [] [] cpos) (tIt A W (itVs f)) :=
  PI.imp (pi_values (pe_frz he) hbase hline) fun σ H R h => itI_of (Iz := Itd) itok_vals (fun r => by unfold itVs; rfl) h
end
end M
namespace PySem
open Sem (wp)
/-- what enumerate(v) makes beside v's iterator -/
abbrev enumCell (it : Addr) : Obj := { cls := .type "enumerate", data := .fields #[.none, .bool false, .ref it, rawInt 0, .none, .none] }
set_option maxHeartbeats 1000000 in
theorem enum_new {v : Value} {o : Obj} {C : Heap → Prop} (B : Begins v o C) :
    Meets (Builtin.«enumerate.__new__» ⟨[.type "enumerate", v], []⟩) (fun _ R s => C s.heap ∧ R (.ok (.ret (.ref (s.heap.push o).objs.size))) { s with heap := (s.heap.push o).push (enumCell s.heap.objs.size) }) :=
  .of_wp fun prog w A R s given => by
    have sub := sub_enumerate
    rcases s with ⟨hp, ge, dr, tk, os⟩
    obtain ⟨c, r⟩ := given
    have starts : ∀ {A2 : Around} {E2 Q2 : Value → Shared → Prop}, Q2 (.ref hp.objs.size) ⟨hp.push o, ge, dr, tk, os⟩ → wpAny (model prog w) A2 (pyIter v) Q2 E2 ⟨hp, ge, dr, tk, os⟩ := fun {A2 E2 Q2} q => B.iter prog w A2 E2 _ Q2 c q
    wp_walk using starts
    refine wpAny_stack_any fun frames => wpAny_pure ?_
    have rest : ∃ v', (Fin.done (Flow.ret (.ref (hp.push o).objs.size)) : Fin) = .done (.ret v') ∧ R (.ok (.ret v')) _ := ⟨_, rfl, r⟩
    split
    · rename_i cl _ _ _ _ _
      by_cases own : (cl == Value.type "enumerate") = true <;> simp only [own] <;> wp_walk using starts <;> exact rest
    · wp_walk using starts
      exact rest
theorem enum_starts {prog : Program} {w : World} {A : Around} {E : Value → Shared → Prop} {s : Shared} {v : Value} {o : Obj} {C : Heap → Prop} {Q : Value → Shared → Prop} (B : Begins v o C) (c : C s.heap)
    (then_ : ∀ g, IsEnum g (s.heap.objs.size + 1) s.heap.objs.size 0 .none → g.get? s.heap.objs.size = some o → g.objs.size = s.heap.objs.size + 2 → (∀ b u, s.heap.get? b = some u → g.get? b = some u) →
      Q (.ref (s.heap.objs.size + 1)) { s with heap := g }) : wpAny (model prog w) A (call (.type "enumerate") [v]) Q E s := by
  have one : (s.heap.push o).objs.size = s.heap.objs.size + 1 := by rw [Heap.size_push]
  have cell : ((s.heap.push o).push (enumCell s.heap.objs.size)).get? (s.heap.objs.size + 1) = some (enumCell s.heap.objs.size) := one ▸ Heap.get?_push_size _ rfl
  refine callType_new F.called_enumerate (by decide) (F.typeCall_enumerate_1 v) (F.newCall_enumerate_1 v) (fun x => F.args_object_init_2 x v) F.entry_enumerate_new (enum_new B) ⟨c, ?_⟩
  refine ⟨⟨_, one ▸ cell, rfl⟩, ?_⟩
  rw [one]
  refine then_ _ cell ?_ ?_ fun b u e => ?_
  · exact Heap.get?_push_of_some _ (Heap.get?_push_size _ B.free)
  · rw [Heap.size_push, one]
  · exact Heap.get?_push_of_some _ (Heap.get?_push_of_some _ e)
/-- a tuple's iterator behind the last place -/
theorem draws_past {prog : Program} {w : World} {A : Around} (calm : A.handled = none) {it t : Addr} {items : Array Value} {i : Nat} (past : items.size ≤ i) (ne : t ≠ it) :
    Draws prog w A it [it, t] i (fun _ _ => True) (fun j h => j = i ∧ h.IsTupleIter it t i ∧ h.IsTuple t items) where
  live := fun _ _ st => (Draws.tuple (prog := prog) (w := w) calm it t ne items).live i _ st.2
  frame := fun _ _ _ st k => ⟨st.1, (Draws.tuple (prog := prog) (w := w) calm it t ne items).frame i _ _ st.2 k⟩
  item := fun _ _ _ _ lt st _ => absurd st.1 (Nat.ne_of_lt lt)
  done := fun _ _ _ st e => wpAny_nextOf_tuple_end calm st.2.1 st.2.2 (by simpa using past) e
end PySem
namespace M
open PySem L2
/-- what an enumerate over the tuple at a yields -/
def IteT (K : PySem.W.Frag) (a : Addr) : It :=
  ⟨fun i H => ∃ (xs : List V) (x : V), SqT K H a xs ∧ xs[i]? = some x, fun i H v H' => ∃ T x, v = .ref T ∧ H T = none ∧ H' = upd H T (.tup [.int (i : Nat), x]) ∧ ∀ xs, SqT K H a xs → xs[i]? = some x, fun i H => ∃ xs : List V, SqT K H a xs ∧ xs.length ≤ i⟩
theorem turn_enumT {P : Program} {w : World} {K : PySem.W.Frag} {elts : List Expr} {kk : Nat} {tpos : Pos} (a e it : Addr) :
    Turn P w K (.Tuple elts kk tpos) (IteT K a) [e, it] e (fun i h => (∃ old, IsEnum h e it ((i : Nat) : Int) old) ∧ h.IsTupleIter it a i ∧ e ≠ it ∧ a ≠ it ∧ a ≠ e) where
  mem := List.mem_cons_self ..
  obj := fun i h st b hb => by
    obtain ⟨⟨_, en⟩, ⟨o, at_, _, da⟩, _⟩ := st
    rcases List.mem_cons.mp hb with rfl | hb
    · exact ⟨_, en, fun _ q => nomatch q⟩
    · rw [List.mem_singleton.mp hb]
      exact ⟨o, at_, fun _ q => by rw [da] at q; cases q⟩
  keep := fun i h h' st k => ⟨st.1.imp fun _ en => k e (List.mem_cons_self ..) _ en, st.2.1.at fun o q => k it (List.mem_cons_of_mem _ (List.mem_singleton.mpr rfl)) o q, st.2.2⟩
  item := by
    intro X eP ew eK calm i pins s σ H E I fp st go
    subst eP ew eK
    obtain ⟨en, ti, n1, n2, n3⟩ := st
    obtain ⟨xs, x, sq, at_⟩ := go
    obtain ⟨its, rel, tup, _⟩ := I.tuple sq
    obtain ⟨u, hu, ru⟩ := rel.get at_
    have hu2 : its.toArray[i]? = some u := by simpa using hu
    have Wk := WalksT.enumerateD (Draws.tuple (prog := X.prog) (w := X.w) (A := X.A.in1) (I.ok.hd calm) it a n2 its.toArray) e n1 (by simpa using ⟨n1, n3.symm⟩) (List.mem_cons_self ..)
    refine Wk.item i s _ E (Array.getElem?_eq_some_iff.mp hu2).1 ⟨en, ti, tup⟩ fun T vals h1 tk drawn new tupT mid kept => ?_
    obtain ⟨tk2, u2, hu3, rfl⟩ := drawn
    obtain rfl : u2 = u := Option.some.inj (hu3.symm.trans hu2)
    refine ⟨.ref T, rfl, Wk.go elts kk tpos i T { s with heap := h1, toks := tk } _ E mid fun h2 st2 kept2 => ?_⟩
    have out := Wk.apart i T h1 mid
    obtain ⟨o, oAt, oIs⟩ := tupT
    have I2 : Inv X pins σ (upd H T (.tup [.int (i : Nat), x])) { s with heap := h2, toks := tk } :=
      I.turnedNew (ch := [e, it]) (fun b o hb q => kept2 b o hb (kept b o hb q)) fp new ⟨by show 2 ≤ sizeLine; decide, [.int i tk2, u2], .cons ⟨_, rfl⟩ (.cons ru .nil), o, kept2 T o out oAt, oIs⟩
    refine ⟨.ref T, _, I2, rfl, ⟨T, x, rfl, I.hok.fresh new, rfl, fun ys hy => ?_⟩, ⟨?_, st2.2.1, n1, n2, n3⟩, fun b hb => ?_⟩
    · rw [I.tuple_inj hy sq]; exact at_
    · exact st2.1
    · rw [upd_ne fun z => out (by subst z; exact hb)]; exact (fp b hb).1
  done := by
    intro X eP ew eK calm i pins s σ H E I fp st stop
    subst eP ew eK
    obtain ⟨⟨_, en⟩, ti, _, n2, _⟩ := st
    obtain ⟨xs, sq, past⟩ := stop
    obtain ⟨its, rel, tup, _⟩ := I.tuple sq
    have few : its.toArray.size ≤ i := by rw [List.size_toArray, ← rel.length]; exact past
    obtain ⟨f0, f1, _, f3, f4, f5⟩ := fp it (List.mem_cons_of_mem _ (List.mem_singleton.mpr rfl))
    exact wpAny_pyNext_enum_endD (draws_past (A := X.A.in1) (I.ok.hd calm) few n2) en ⟨rfl, ti, tup⟩ fun h' kept => ⟨rfl, I.turned (t' := s.toks) kept f0 f1 f3 f4 f5⟩
  self := fun A i s Q E st q => st.1.elim fun _ en => wpAny_pyIter_enum en q
section
variable {w : Wd} {K : PySem.W.Frag} {G : Hp}
theorem itok_enumT {a : Addr} {ds : List Val} {xs : List V} (h : SqT K G a xs) (r : Reps w G ds xs) : ItOk w (IteT K a) G (enumV ds) where
  go := fun G' H i le le' hi => by
    have hl := reps_length r
    have : i < xs.length := by rw [← hl]; simpa [enumV] using hi
    exact ⟨xs, xs[i], sqt_mono (le.trans le') h, by simp [this]⟩
  stop := fun G' H i le le' hi => ⟨xs, sqt_mono (le.trans le') h, by rw [← reps_length r]; simpa [enumV] using hi⟩
  yld := fun G' H i v x H' le le' hv ⟨T, y, hx, hT, e, hy⟩ => by
    subst e
    subst hx
    have hy' := hy xs (sqt_mono (le.trans le') h)
    obtain ⟨d, h1, h2⟩ := reps_get' r hy'
    simp only [enumV, List.getElem?_mapIdx, h1, Option.map_some, Option.some.injEq] at hv
    subst hv
    have g := Grow.laidG (o := .tup [.int (i : Nat), y]) le' hT
    exact ⟨_, g, rep_two upd_same (rep_int.mpr rfl) ((h2.mono le).mono g.g)⟩
end
def itE (f : EF) : IF := fun r => match frz f r with
  | .ok _ (.lst vs) r' => .ok (enumV vs) r'
  | .ok _ (.tup vs) r' => .ok (enumV vs) r'
  | .ok _ _ _ => .bad
  | .ex e r' => .ex e r'
  | .bad => .bad
section
variable {X : Cx} {A : Act} {W : WX} {e : Expr} {f : EF} {p pos tpos : Pos} {elts : List Expr} {kk : Nat}
theorem pi_E (hw : A.w.K = X.K) (hg : Gl X "enumerate") (hm : X.mg "enumerate" = none) (he : PE X e (tE A W f)) (hs : starEach [e] X.env = [(false, eval e X.env)] := by rfl) :
    PI X (.Tuple elts kk tpos) (.Call (.Name "enumerate" p) [e] [] pos) (tIt A W (itE f)) := by
  refine ⟨fun pins s σ H R I h => ?_⟩
  have h2 : tE A W (frz f) σ H fun x H1 => ∃ J, R J H1 ∧ ((∃ a xs, x = .ref a ∧ J = Ite X.K a ∧ SqL X.K H1 a xs) ∨ ∃ a xs, x = .ref a ∧ J = IteT X.K a ∧ SqT X.K H1 a xs) := by
    obtain ⟨r, G, k, m⟩ := h
    refine ⟨r, G, k, ?_⟩
    unfold itE at m
    cases hf : frz f r with
    | bad => simp only [hf] at m
    | ex e r' => simp only [hf] at m ⊢; exact m
    | ok o v r' =>
      have eo := frz_false hf
      subst eo
      simp only [hf] at m ⊢
      intro x G1 H1 R1
      have rp : Rep A.w G1 v x := R1.tr
      have le := R1.ok.sub
      cases v with
      | lst vs =>
        simp only at m
        obtain ⟨a, xs, rfl, h, rs⟩ := rep_lst.mp rp
        exact ⟨_, m _ G1 H1 R1.ok R1.st (itok_enumL (K := X.K) (.inl (.inl h)) rs), .inl ⟨a, xs, rfl, rfl, .inl (.inl (le _ _ h))⟩⟩
      | tup vs =>
        simp only at m
        obtain ⟨a, xs, rfl, h, rs⟩ := rep_tup.mp rp
        rw [hw] at h
        exact ⟨_, m _ G1 H1 R1.ok R1.st (itok_enumT h rs), .inr ⟨a, xs, rfl, rfl, sqt_mono le h⟩⟩
      | _ => simp only at m
  have pa : PA X [e] (fun σ H Q => tE A W (frz f) σ H fun x H1 => Q [x] H1) := ⟨fun pos pins s σ H Q I h => (pa_cons (pe_frz he) pa_nil hs).run pos pins s σ H Q I h⟩
  refine PyProof.Rows.Call_ (ld_blt I hg hm (show bootBuiltins "enumerate" = some (.type "enumerate") by decide +kernel) (PyProof.Rows.callWith_type1 (thn (pa.run pos pins s σ H (fun vs H1 => ∃ x, vs = [x] ∧ ∃ J, R J H1 ∧ ((∃ a xs, x = .ref a ∧ J = Ite X.K a ∧ SqL X.K H1 a xs) ∨ ∃ a xs, x = .ref a ∧ J = IteT X.K a ∧ SqT X.K H1 a xs)) I (by
    obtain ⟨r, G, k, m⟩ := h2
    refine ⟨r, G, k, ?_⟩
    cases hf : frz f r with
    | bad => rw [hf] at m; exact m.elim
    | ex e r' => rw [hf] at m; exact m
    | ok o v r' => rw [hf] at m; exact fun x G' H' R' => ⟨x, rfl, m x G' H' R'⟩)) fun us s1 ⟨vs, H1, I1, r1, x, ev, J, hR, hx⟩ => ?_) hs rfl))
  subst ev
  cases r1 with
  | cons r rr =>
    cases rr
    have foot : ∀ {h' : Heap}, h'.objs.size = s1.heap.objs.size + 2 → ∀ b ∈ [s1.heap.objs.size + 1, s1.heap.objs.size], s1.heap.objs.size ≤ b := fun {h'} _ b hb => by
      have e' : b = s1.heap.objs.size + 1 ∨ b = s1.heap.objs.size := by simpa using hb
      rcases e' with z | z <;> omega
    rcases hx with ⟨a, xs, rfl, rfl, hq⟩ | ⟨a, xs, rfl, rfl, hq⟩
    · cases r
      obtain ⟨its, rv, p', hz⟩ := I1.list hq
      refine PySem.enum_starts (begins_list a its.toArray) p'.isList fun h' he hit hsz hk => wpAny_pyIter_enum he ?_
      have I2 : Inv X pins σ H1 { s1 with heap := h' } := I1.kept (t' := s1.toks) hk
      exact ⟨s1.heap.objs.size + 1, [s1.heap.objs.size + 1, s1.heap.objs.size], _, _, H1, rfl, I2, turn_enum a (s1.heap.objs.size + 1) s1.heap.objs.size, ⟨⟨.none, he⟩, ⟨_, hit, rfl, rfl⟩, Nat.succ_ne_self _⟩, fun b hb => I1.fpOk (foot hsz b hb) (I1.hok.fresh (foot hsz b hb)), hR⟩
    · cases r
      obtain ⟨its, rv, p', hz⟩ := I1.tuple hq
      have la : a < s1.heap.objs.size := by obtain ⟨o, ho, _⟩ := p'; exact Heap.lt_size ho
      refine PySem.enum_starts (begins_tuple a its.toArray) p' fun h' he hit hsz hk => wpAny_pyIter_enum he ?_
      have I2 : Inv X pins σ H1 { s1 with heap := h' } := I1.kept (t' := s1.toks) hk
      exact ⟨s1.heap.objs.size + 1, [s1.heap.objs.size + 1, s1.heap.objs.size], _, _, H1, rfl, I2, turn_enumT a (s1.heap.objs.size + 1) s1.heap.objs.size, ⟨⟨.none, he⟩, ⟨_, hit, rfl, rfl⟩, Nat.succ_ne_self _, Nat.ne_of_lt la, Nat.ne_of_lt (Nat.lt_succ_of_lt la)⟩, fun b hb => I1.fpOk (foot hsz b hb) (I1.hok.fresh (foot hsz b hb)), hR⟩
end
end M
/-! MPZ: get, sorted, dict(..), isinstance of several types. -/
namespace M
open PySem L2

/-! ### d.get -/
def Pdget : List Val → Option (Bool × Val)
  | [.dct false ds, k, .tup d] => (keyOf k).map fun q => (false, (dGet ds q).getD (.tup d))
  | [.dct false ds, k, .non] => (keyOf k).map fun q => (false, (dGet ds q).getD .non)
  | [.dct false ds, k] => (keyOf k).map fun q => (false, (dGet ds q).getD .non)
  | _ => none
theorem mtp_dget {X : Cx} {w : Wd} (c : Cal X w) : MtP X w "dict.get" Pdget := by
  intro pins s σ H x xs v us Q I rx rxs ⟨G, vs, o, z, le, rr, hp, q⟩
  have hu : X.A.units + 1 < cLine := by have := c.un; omega
  have two : ∀ {ds : List (Val × Val)} {k d : Val}, vs = [.dct false ds, k, d] → (∀ y, RRep w G H d y → Rep w G d y) → (keyOf k).map (fun q => (false, (dGet ds q).getD d)) = some (o, z) → EP X pins σ Q (.ref 0) s ∨ True → wpAny (model X.prog X.w) X.A (call (.builtin "dict.get") (v :: us)) (fun u s' => EP X pins σ Q u s') X.xe s := by
    intro ds k d e hd hq _
    subst e
    rw [Option.map_eq_some_iff] at hq
    obtain ⟨qk, hk, e⟩ := hq
    cases e
    obtain ⟨y1, ys, e, r1, r2⟩ := rr
    cases e
    obtain ⟨y2, ys, e, r2, r3⟩ := r2
    cases e
    obtain ⟨y3, ys, e, r3, r4⟩ := r3
    cases e
    obtain rfl := r4
    obtain ⟨rfl, _⟩ := rrep_key r2 hk
    obtain ⟨a, rfl, ⟨_, kvs, h, rk⟩ | ⟨ht, _⟩⟩ := rrep_dct le r1
    · obtain ⟨u1, u2, rfl, g1, g2⟩ := rxs.two
      cases (show v = Value.ref a from rx)
      have g : DGet H a (kV qk) (valV kvs qk) := .inl ⟨kvs, qk, h, rfl, rfl⟩
      refine d_get2 hu I g g1 g2 fun w' s3 I3 rw' => ⟨_, H, I3, rw', ?_⟩
      obtain ⟨h1, h2⟩ := repK_get (w := w) (G := G) qk rk
      cases e : dGet ds qk with
      | none => rw [h2 e]; rw [e] at q; exact q _ G H (Grow.refl le) (nrep_f (hd _ r3))
      | some d' => obtain ⟨b, e1, rb⟩ := h1 _ e; rw [e1]; rw [e] at q; exact q _ G H (Grow.refl le) (nrep_f rb)
    · cases ht
  unfold Pdget at hp
  split at hp
  · exact two rfl (fun y r => r.elim id fun ⟨_, _, z⟩ => z.elim) hp (.inr trivial)
  · exact two rfl (fun y r => r.elim id fun ⟨_, _, z⟩ => z.elim) hp (.inr trivial)
  · rw [Option.map_eq_some_iff] at hp
    obtain ⟨qk, hk, e⟩ := hp
    cases e
    obtain ⟨_, _, e, r1, r2⟩ := rreps_two rr
    cases e
    obtain ⟨rfl, _⟩ := rrep_key r2 hk
    obtain ⟨a, rfl, ⟨_, kvs, h, rk⟩ | ⟨ht, _⟩⟩ := rrep_dct le r1
    · obtain ⟨u1, rfl, g1⟩ := vals1 rxs
      cases (show v = Value.ref a from rx)
      have g : DGet H a (kV qk) (valV kvs qk) := .inl ⟨kvs, qk, h, rfl, rfl⟩
      refine d_get1 hu I g g1 fun w' s3 I3 rw' => ⟨_, H, I3, rw', ?_⟩
      obtain ⟨h1, h2⟩ := repK_get (w := w) (G := G) qk rk
      cases e : dGet _ qk with
      | none => rw [h2 e]; rw [e] at q; exact q _ G H (Grow.refl le) (nrep_f (rep_non.mpr rfl))
      | some d' => obtain ⟨b, e1, rb⟩ := h1 _ e; rw [e1]; rw [e] at q; exact q _ G H (Grow.refl le) (nrep_f rb)
    · cases ht
  · cases hp

/-! ### the sorted list of texts -/
def sle (a b : Str) : Bool := !Spec.ltCps b.cps.toList a.cps.toList
def srt (l : List Str) : List Str := l.mergeSort sle
theorem sle_iff {a b : Str} : sle a b = true ↔ a.cps.toList ≤ b.cps.toList := by
  unfold sle
  rw [PyProof.Rows.ltCps_eq, Bool.not_eq_true', decide_eq_false_iff_not, List.not_lt]
theorem sle_trans (a b c : Str) (h : sle a b = true) (h' : sle b c = true) : sle a c = true := sle_iff.mpr (List.le_trans (sle_iff.mp h) (sle_iff.mp h'))
theorem sle_total (a b : Str) : (sle a b || sle b a) = true := by
  rw [Bool.or_eq_true, sle_iff, sle_iff]; exact List.le_total ..
theorem sle_antisymm {a b : Str} (h : sle a b = true) (h' : sle b a = true) : a = b := by
  have := List.le_antisymm (sle_iff.mp h) (sle_iff.mp h')
  cases a; cases b
  simpa using this
theorem srt_perm (l : List Str) : (srt l).Perm l := List.mergeSort_perm ..
theorem srt_pair (l : List Str) : (srt l).Pairwise fun a b => sle a b = true := List.pairwise_mergeSort sle_trans sle_total l
theorem rising_pair : ∀ {l : List Str} {p : Str}, PyProof.Rows.risingS p l = true → (p :: l).Pairwise fun a b => sle a b = true
  | [], p, _ => by simp
  | x :: r, p, h => by
    simp only [PyProof.Rows.risingS, Bool.and_eq_true] at h
    have i := rising_pair h.2
    refine List.pairwise_cons.mpr ⟨fun y hy => ?_, i⟩
    rcases List.mem_cons.mp hy with rfl | hy
    · exact h.1
    · exact sle_trans _ _ _ h.1 (List.rel_of_pairwise_cons i hy)
theorem sortedS_pair {l : List Str} (h : PyProof.Rows.sortedS l = true) : l.Pairwise fun a b => sle a b = true := by
  cases l with
  | nil => exact .nil
  | cons x r => exact rising_pair h
theorem srt_unique {l l' : List Str} (hp : l'.Perm l) (hs : l'.Pairwise fun a b => sle a b = true) : l' = srt l :=
  (hp.trans (srt_perm l).symm).eq_of_pairwise (fun a b _ _ h h' => sle_antisymm h h') hs (srt_pair l)
theorem srt_eq {l ys : List Str} (hp : ys.Perm l) (hs : PyProof.Rows.sortedS ys = true) : ys = srt l := srt_unique hp (sortedS_pair hs)
theorem srt_congr {l l' : List Str} (h : l.Perm l') : srt l = srt l' := srt_unique ((srt_perm l).trans h) (srt_pair l)
theorem srt_len (l : List Str) : (srt l).length = l.length := (srt_perm l).length_eq
theorem srt_mem {l : List Str} {x : Str} : x ∈ srt l ↔ x ∈ l := (srt_perm l).mem_iff

def Psorted : List Val → Option (Bool × Val)
  | [.lst ds] => match asStrs ds with
    | some ys => if ys.length < 64 then some (true, .lst ((srt ys).map .str)) else none
    | none => none
  | [.tup ds] => match asStrs ds with
    | some ys => if ys.length < 64 then some (true, .lst ((srt ys).map .str)) else none
    | none => none
  | _ => none
theorem reps_of_strs {w : Wd} {G : Hp} : ∀ {ss : List Str}, (∀ s ∈ ss, s.length ≤ sizeLine) → Reps w G (ss.map Val.str) (ss.map V.str)
  | [], _ => reps_nil.mpr rfl
  | s :: ss, h => reps_cons.mpr ⟨_, _, rfl, rep_str.mpr ⟨rfl, h s (by simp)⟩, reps_of_strs fun x hx => h x (by simp [hx])⟩
theorem reps_strs_le {w : Wd} {G : Hp} : ∀ {ss : List Str} {xs : List V}, Reps w G (ss.map Val.str) xs → ∀ s ∈ ss, s.length ≤ sizeLine
  | [], _, _, _, h => by simp at h
  | s :: ss, _, r, x, h => by
    rw [List.map_cons, reps_cons] at r; obtain ⟨y, ys, e, r1, r2⟩ := r
    rcases List.mem_cons.mp h with rfl | h
    · exact (rep_str.mp r1).2
    · exact reps_strs_le r2 x h
section
open PyProof.Rows
variable {X : Cx} {w : Wd}
/-- l.sort() of fewer than 64 texts -/
theorem sort_texts {prog : Program} {wd : World} {A : Around} {E : Value → Shared → Prop} {s : Shared} {l : Addr} {its : List Value} {ks : List Str} {n : Nat} {Q : Value → Shared → Prop} (S : StrsAre its ks) (short : its.length < 64) (at_ : s.heap.get? l = some (seqObj "list" its.toArray n))
    (then_ : ∀ g out ys, StrsAre out ys → ys.Perm ks → sortedS ys = true → (∃ e, g.get? l = some (seqObj "list" out.toArray e)) → (∀ b u, b ≠ l → s.heap.get? b = some u → g.get? b = some u) → Q .none { s with heap := g }) :
    wpAny (model prog wd) A (call (.builtin "list.sort") [.ref l]) Q E s := by
  refine wpAny_call_entry slot_list_sort ⟨_, at_, rfl⟩ entry_list_sort (list_sort_treeK strKind_oneLt at_ S.keysOf (fun _ _ _ e => keyKind_strs (e ▸ S)) short fun st perm ord => ⟨_, rfl, ?_⟩) (args_list_sort _)
  obtain ⟨ys, so, pm, up⟩ := sorted_out_str S perm ord
  refine then_ _ _ ys so pm up ?_ fun b u ne e => ?_
  · rw [Array.toArray_toList]
    exact sortedHeap_at at_
  · rw [sortedHeap_old ne (Heap.lt_size e)]
    exact e
/-- sorted(t) of a tuple of fewer than 64 texts -/
theorem call_sortedT : CallR X (.builtin "sorted") (fun xs H Q => ∃ (a : Addr) (ks : List Str), xs = [.ref a] ∧ SqT X.K H a (ks.map V.str) ∧ ks.length < 64 ∧
    ∀ ys p, ys.Perm ks → sortedS ys = true → H p = none → Q (.ref p) (upd H p (.lst (ys.map V.str)))) := by
  intro pins s σ H xs us Q I r q
  obtain ⟨a, ks, rfl, told, few, q⟩ := q
  obtain ⟨u, rfl, ru⟩ := vals1 r
  obtain rfl : u = Value.ref a := ru
  obtain ⟨its, rel, ⟨o, oAt, oCls, n, oDa⟩, _⟩ := I.tuple told
  have S : StrsAre its ks := rel.strs
  have short : its.length < 64 := by rw [S.length]; exact few
  have room : its.toArray.size ≤ sizeLine := by rw [List.size_toArray, sizeLine_eq]; omega
  refine Calls.call_function_entry kind_sorted plain_sorted entry_sorted (args_sorted1 _) ?_
  unfold Builtin.«sorted»
  refine wpAny_bind (m := checkCount "sorted" 1 1 _) (wpAny_pure (wpAny_bind (wpAny_collect_seq a (.inr rfl) oAt oCls oDa (fun g kept => ?_) room)))
  refine wpAny_bind (wpAny_newList ?_ (by simpa using room))
  show wpAny _ _ _ _ _ { s with heap := g.push (seqObj "list" its.toArray 0) }
  refine wpAny_bind (wpAny_holding (sort_texts (s := { s with heap := g.push (seqObj "list" its.toArray 0) }) S short (Heap.get?_push_size _ rfl) fun g2 out ys so pm up at2 old => ?_))
  obtain ⟨e, at2⟩ := at2
  have I1 : Inv X pins σ H { s with heap := g } := I.kept (t' := s.toks) kept
  have long : (ys.map V.str).length ≤ sizeLine := by rw [List.length_map, pm.length_eq, sizeLine_eq]; omega
  refine wpAny_pure ⟨_, rfl, .ref g.objs.size, upd H g.objs.size (.lst (ys.map V.str)), ?_, rfl, q ys _ pm up (I1.hok.fresh (Nat.le_refl _))⟩
  exact I1.laid (t' := s.toks) (fun b u eb => old b u (Nat.ne_of_lt (Heap.lt_size eb)) (Heap.get?_push_of_some _ eb)) (Nat.le_refl _) ⟨long, out, e, vals_of_strs so, at2⟩
theorem bi_sorted (c : Cal X w) : CallR X (.builtin "sorted") (rOf w Psorted) := by
  intro pins s σ H xs us Q I r ⟨G, vs, o, z, le, rr, hp, q⟩
  unfold Psorted at hp
  split at hp
  · split at hp
    · rename_i ys hy
      split at hp
      · rename_i hb
        cases hp
        obtain ⟨x, e, r1⟩ := rreps_one rr
        subst e
        obtain ⟨a, zs, rfl, h, rs⟩ := rrep_lst le r1
        rw [asStrs_some hy] at rs
        have hz := reps_strs_le rs
        rw [reps_strs rs] at h
        refine cr_sortedS pins s σ H _ us Q I r ⟨a, ys, rfl, .inl (.inl h), hb, fun ys' p hp hs hn => ?_⟩
        rw [srt_eq hp hs]
        exact new_lst le hn (reps_of_strs fun x hx => hz x (srt_mem.mp hx)) q
      · cases hp
    · cases hp
  · split at hp
    · rename_i ys hy
      split at hp
      · rename_i hb
        cases hp
        obtain ⟨x, e, r1⟩ := rreps_one rr
        subst e
        obtain ⟨a, zs, rfl, h, rs⟩ := rrep_tup le r1
        rw [asStrs_some hy] at rs
        have hz := reps_strs_le rs
        rw [reps_strs rs, c.K] at h
        refine call_sortedT pins s σ H _ us Q I r ⟨a, ys, rfl, h, hb, fun ys' p hp hs hn => ?_⟩
        rw [srt_eq hp hs]
        exact new_lst le hn (reps_of_strs fun x hx => hz x (srt_mem.mp hx)) q
      · cases hp
    · cases hp
  · cases hp
end

/-! ### isinstance(x, (T, U)) -/
def kitA (a : String) : List Val → Option Bool
  | [] => some false
  | .ty T :: ts => match kitB a T with
    | some true => some true
    | some false => kitA a ts
    | none => none
  | _ => none
def Pisis : List Val → Option (Bool × Val)
  | [v, .tup ts] => match tyOf v with
    | some a => (kitA a ts).map fun b => (false, .bl b)
    | none => none
  | _ => none
theorem kitA_any {K : PySem.W.Frag} {G : Hp} {w : Wd} {a : String} : ∀ {ts : List Val} {xs : List V} {us : List Value} {b : Bool}, kitA a ts = some b → Reps w G ts xs → Vals xs us → PySem.W.kitAny K (.type a) us = some b
  | [], _, _, b, h, r, v => by
    rw [reps_nil] at r; subst r; cases v; cases h; rfl
  | .ty T :: ts, _, _, b, h, r, v => by
    rw [reps_cons] at r; obtain ⟨y, ys, e, r1, r2⟩ := r
    subst e
    obtain rfl := rep_ty.mp r1
    cases v with
    | @cons _ u _ us h1 h2 =>
      obtain rfl : u = .type T := h1
      simp only [kitA] at h
      split at h
      · rename_i e; cases h
        exact L2.kitAny_cons (kit_ty e) (fun z => nomatch z) fun _ => rfl
      · rename_i e
        exact L2.kitAny_cons (kit_ty e) (fun _ => kitA_any h r2 h2) fun z => nomatch z
      · cases h
theorem bi_isis {X : Cx} {w : Wd} (c : Cal X w) : CallR X (.builtin "isinstance") (rOf w Pisis) := by
  intro pins s σ H xs us Q I r ⟨G, vs, o, z, le, rr, hp, q⟩
  unfold Pisis at hp
  split at hp
  · split at hp
    · rename_i T hT
      rw [Option.map_eq_some_iff] at hp
      obtain ⟨b, hb, e⟩ := hp
      cases e
      obtain ⟨x, y, e, r1, r2⟩ := rreps_two rr
      subst e
      obtain ⟨u1, u2, rfl, g1, g2⟩ := vals2 r
      obtain ⟨a, zs, rfl, h, rs⟩ := rrep_tup le r2
      obtain ⟨P, hx, hP, hn⟩ := kit_val c I g1 le r1 hT
      rw [c.K] at h
      obtain ⟨its, rv, ⟨ob, ho, hc, n, hd⟩, _⟩ := I.tuple h
      cases (show u2 = Value.ref a from g2)
      obtain ⟨oc, od, dt, sl⟩ := ob
      simp only at hc hd
      subst hc hd
      exact PySem.W.kia_tup hx I.kIn hP ho (kitA_any hb rs rv) hn fun tk => ⟨.bl b, H, I.tok tk, rfl, bl_new le q⟩
    · cases hp
  · cases hp
end M
/-! MPM: {**d, k: v}. -/
namespace M
open PySem L2 PySem.Spec
/-- the keys of a put stay apart -/
theorem nodup_put {kvs : List (Key × Value)} (k : Key) (v : Value) (hn : (kvs.map (·.1)).Nodup) : ((stored kvs k v).map (·.1)).Nodup := by
  unfold stored
  by_cases c : kvs.any (fun kv => decide (kv.1 = k)) = true
  · simp only [c, if_true, keys_map_store]; exact hn
  · simp only [c, Bool.false_eq_true, if_false, List.map_append, List.map_cons, List.map_nil]
    have out : k ∉ kvs.map (·.1) := by
      intro hk
      obtain ⟨q, hq, e⟩ := List.mem_map.mp hk
      exact c (List.any_eq_true.mpr ⟨q, hq, by simp [e]⟩)
    exact List.nodup_append.mpr ⟨hn, List.pairwise_singleton _ _, fun a ha b hb z => out (by rw [List.mem_singleton.mp hb] at z; exact z ▸ ha)⟩
/-- which of the two kinds a put is -/
theorem put_at {kvs : List (Key × Value)} {k : Key} {i : Nat} (v : Value) (h : kvs.findIdx? (fun kv => decide (kv.1 = k)) = some i) : stored kvs k v = kvs.map fun kv => if kv.1 = k then (kv.1, v) else kv :=
  if_pos (any_of_findIdx_some h)
theorem put_end {kvs : List (Key × Value)} {k : Key} (v : Value) (h : kvs.findIdx? (fun kv => decide (kv.1 = k)) = none) : stored kvs k v = kvs ++ [(k, v)] :=
  if_neg fun c => not_mem_of_findIdx_none h (by
    obtain ⟨q, hq, e⟩ := List.any_eq_true.mp c
    exact List.mem_map.mpr ⟨q, hq, of_decide_eq_true e⟩)
section
variable {prog : Program} {w : World} {A : Around} {E : Value → Shared → Prop} {s : Shared}
theorem wp_put {d : Addr} {kvs : List (Key × Value)} {k : Key} {key v : Value} {Q : Unit → Shared → Prop} (is : (mixKind prog w).is k key = true) (D : s.heap.DictOf (mixKind prog w) d kvs) (room : kvs.length ≤ sizeLine)
    (then_ : ∀ g, g.DictOf (mixKind prog w) d (stored kvs k v) → Heap.SameBut d s.heap g → Q () { s with heap := g }) : wpAny (model prog w) A (dictPut d ((mixKind prog w).hash k) key v) Q E s := by
  obtain ⟨ob, ar, n, at_, ex, da, ks, prs, apart⟩ := D
  have room' : ar.size ≤ sizeLine := by
    have := prs.length
    rw [Array.length_toList] at this
    omega
  have where_ : (ar.toList.findIdx? fun e => (mixKind prog w).is k e.key) = ar.findIdx? fun e => (mixKind prog w).is k e.key := by
    cases ar; simp
  have same := prs.findIdx k
  have ap := nodup_put k v apart
  refine wpAny_bind (wpAny_dictFind_of is at_ da ks ?_)
  rw [← where_]
  cases found : (ar.toList.findIdx? fun e => (mixKind prog w).is k e.key) with
  | none =>
    rw [found] at same
    refine wpAny_updateDictKeys (hz := room') at_ da (then_ _ ⟨_, _, n + 1, Heap.get?_update_self _ at_ (Obj.isFreed_of_dict (Obj.data_mapDictKeys da _)), ex.mapDictKeys _, Obj.data_mapDictKeys da _, ks.push is v, ?_, ap⟩ (Heap.SameBut.update ..))
    rw [put_end v same.symm, Array.toList_push]
    exact prs.append is _ v
  | some i =>
    rw [found] at same
    refine wpAny_updateDict at_ da (then_ _ ⟨_, _, n, Heap.get?_update_self _ at_ (Obj.isFreed_of_dict (Obj.data_mapDict da _)), ex.mapDict _, Obj.data_mapDict da _, ks.modify i v, ?_, ap⟩ (Heap.SameBut.update ..))
    rw [put_at v same.symm, Array.toList_modify]
    exact prs.modify apart found v
/-- a walk over 0, 1, .. with an invariant of the place -/
theorem wp_range {n : Nat} {f : Nat → PUnit → Sem (ForInStep PUnit)} {Q : PUnit → Shared → Prop} (I : Nat → Shared → Prop) (start : I 0 s) (done : ∀ t, I n t → Q PUnit.unit t)
    (turn : ∀ i t, i < n → I i t → wpAny (model prog w) A (f i PUnit.unit) (fun r t' => r = .yield PUnit.unit ∧ I (i + 1) t') E t) : wpAny (model prog w) A (forIn (List.range n) PUnit.unit f) Q E s := by
  refine wpAny_forIn_list f (fun l _ t => ∃ i, i ≤ n ∧ l = (List.range n).drop i ∧ I i t) Q ?_ ?_ _ _ ⟨0, Nat.zero_le _, rfl, start⟩
  · intro x rest b t ⟨i, _, hl, hi⟩
    have lt : i < n := by
      rcases Nat.lt_or_ge i n with c | c
      · exact c
      · rw [List.drop_eq_nil_of_le (by simpa using c)] at hl; cases hl
    rw [List.drop_eq_getElem_cons (by simpa using lt), List.getElem_range] at hl
    cases hl
    refine wpAny_mono (turn x t lt hi) (fun r t' hr => ?_) fun _ _ e => e
    obtain ⟨e, hi'⟩ := hr
    subst e
    exact ⟨x + 1, lt, rfl, hi'⟩
  · intro b t ⟨i, le, hl, hi⟩
    have ge : n ≤ i := by
      have := congrArg List.length hl
      simp at this
      omega
    obtain rfl := Nat.le_antisymm le ge
    exact done t hi
/-- a step that may be taken, and changes nothing -/
theorem wp_maybe {α : Type} {c : Prop} [Decidable c] {first go : Sem α} {Q : α → Shared → Prop} (h1 : c → wpAny (model prog w) A go Q E s → wpAny (model prog w) A first Q E s) (h2 : wpAny (model prog w) A go Q E s) :
    wpAny (model prog w) A (if c then first else go) Q E s := by
  by_cases h : c
  · rw [if_pos h]; exact h1 h h2
  · rw [if_neg h]; exact h2
/-- d takes in what stands in o -/
theorem wp_merge {d o : Addr} {kvs more : List (Key × Value)} {Q : Unit → Shared → Prop} (apart : d ≠ o) (plain : (o == sysModules) = false) (D : s.heap.DictOf (mixKind prog w) d kvs) (O : s.heap.DictOf (mixKind prog w) o more)
    (room : kvs.length + more.length ≤ sizeLine) (then_ : ∀ g, g.DictOf (mixKind prog w) d (merged kvs more) → g.DictOf (mixKind prog w) o more → Heap.SameBut d s.heap g → Q () { s with heap := g }) :
    wpAny (model prog w) A (mergeMapping d (.ref o) false) Q E s := by
  obtain ⟨_, _, _, dAt, _, dDa, _⟩ := id D
  obtain ⟨oo, ar, n, oAt, oEx, oDa, ks, prs, nod⟩ := id O
  have len : ar.size = more.length := by rw [← prs.length, Array.length_toList]
  unfold mergeMapping
  refine wpAny_bind (wpAny_isInstance O.typeIs isSubtype_dict_dict ?_)
  rw [if_pos rfl]
  refine wpAny_bind (wpAny_specialOf O.typeIs F.slot_dict_iter.lookup ?_)
  simp only [beq_self_eq_true, pure_bind, plain, Bool.false_eq_true, if_false]
  refine wpAny_bind (wpAny_dictEntries dAt dDa ?_)
  refine wp_maybe (fun _ go => ?_) ?_
  · refine wpAny_bind (wpAny_dictEntries oAt oDa (wpAny_bind ?_))
    rw [← Array.forIn_toList]
    refine wpAny_forIn_list _ (fun l _ t => t = s ∧ ∀ e ∈ l, ∃ k, (mixKind prog w).is k e.key = true) _ ?_ (fun b t h => h.1 ▸ go) _ _ ⟨rfl, fun e he => ?_⟩
    · intro e rest b t ⟨et, hl⟩
      subst et
      obtain ⟨k, hk⟩ := hl e (List.mem_cons_self ..)
      have left : ∀ x ∈ rest, ∃ k, (mixKind prog w).is k x.key = true := fun x hx => hl x (List.mem_cons_of_mem _ hx)
      rcases keyIs_shape (show L2.keyIs k e.key = true from hk) with ⟨_, _, _, ev⟩ | ⟨_, _, _, ev⟩ <;> rw [ev] <;> exact wpAny_pure ⟨rfl, left⟩
    · obtain ⟨k, hk, _⟩ := ks e (Array.mem_toList_iff.mp he)
      exact ⟨k, hk⟩
  · refine wpAny_bind (wpAny_dictEntries oAt oDa (wpAny_bind (wpAny_dictEpoch oAt oDa (wpAny_bind ?_))))
    refine wp_range (fun i t => ∃ g, t = { s with heap := g } ∧ g.DictOf (mixKind prog w) d (merged kvs (more.take i)) ∧ g.get? o = some oo ∧ Heap.SameBut d s.heap g) ⟨s.heap, rfl, by rw [List.take_zero]; exact D, oAt, Heap.SameBut.refl _ _⟩ ?_ ?_
    · intro t ⟨g, et, D2, oAt2, sb⟩
      subst et
      rw [len, List.take_length] at D2
      exact wpAny_pure (then_ g D2 ⟨oo, ar, n, oAt2, oEx, oDa, ks, prs, nod⟩ sb)
    · intro i t lt ⟨g, et, D2, oAt2, sb⟩
      subst et
      have lt2 : i < more.length := len ▸ lt
      have keyAt := ks ar[i] (Array.getElem_mem lt)
      have pairAt := prs.get? (i := i) (e := ar[i]) (k := more[i].1) (v := more[i].2) (by simp [lt]) (by simp [lt2])
      have hashAt : ar[i].hash = (mixKind prog w).hash more[i].1 := by
        obtain ⟨k, hk, hh⟩ := keyAt
        rw [hh, (mixKind prog w).inj _ _ _ hk pairAt.1]
      have room2 : (merged kvs (more.take i)).length ≤ sizeLine := by
        have := merged_length_le kvs (more.take i)
        have := List.length_take_le i more
        omega
      refine wpAny_bind (wpAny_dictEntries oAt2 oDa ?_)
      rw [Array.getElem?_eq_getElem lt]
      simp only [Bool.false_eq_true, if_false, pure_bind, hashAt, pairAt.2]
      refine wpAny_bind (wpAny_holding (wp_put pairAt.1 D2 room2 fun g2 D3 sb2 => ?_))
      have oAt3 : g2.get? o = some oo := by rw [sb2.2 o fun z => apart z.symm]; exact oAt2
      refine wpAny_bind (wpAny_dictEpoch oAt3 oDa ?_)
      rw [if_neg (by simp)]
      refine wpAny_pure ⟨rfl, g2, rfl, ?_, oAt3, sb.trans sb2⟩
      rw [merged_take_succ kvs more i more[i] (by simp [lt2])]
      exact D3
theorem disp_star {v1 k v2 : Sem Value} {Q : Value → Shared → Prop}
    (h : wpAny (model prog w) A v1 (fun m s1 => wpAny (model prog w) A (mergeMapping s.heap.objs.size m false) (fun _ s2 => wpAny (model prog w) A (subDict [(k, v2)])
      (fun sub s3 => wpAny (model prog w) A (mergeMapping s.heap.objs.size (.ref sub) false) (fun _ s4 => Q (.ref s.heap.objs.size) s4) (fun _ _ => False) s3) E s2) (fun _ _ => False) s1) E
      { s with heap := s.heap.push { cls := .type "dict", data := .dict #[] } }) : wpAny (model prog w) A (dictDisplay [(none, v1), (some k, v2)]) Q E s := by
  unfold dictDisplay
  simp only [List.forIn_cons, List.forIn_nil, List.isEmpty_nil, if_true, pure_bind, List.nil_append, List.length_cons, List.length_nil, Bool.false_eq_true, if_false, List.isEmpty_cons, bind_assoc]
  refine wpAny_bind (wpAny_alloc ?_)
  refine wpAny_bind (wpAny_holding (wpAny_mono h (fun m s1 h1 => ?_) fun _ _ e => e))
  refine wpAny_bind (wpAny_onRaise (wpAny_tryCatch (wpAny_onRaise (wpAny_holding (wpAny_mono h1 (fun _ s2 h2 => ?_) fun _ _ z => z.elim)))))
  rw [if_neg (by decide)]
  simp only [pure_bind, List.isEmpty_cons, Bool.false_eq_true, if_false, bind_assoc]
  refine wpAny_bind (wpAny_holding (wpAny_mono h2 (fun sub s3 h3 => ?_) fun _ _ e => e))
  refine wpAny_bind (wpAny_onRaise (wpAny_holding (wpAny_mono h3 (fun _ s4 h4 => wpAny_pure h4) fun _ _ z => z.elim)))
end

/-- a new dict is told of -/
theorem inv_dict {X : Cx} {pins : List (Addr × Obj)} {σ : L2.St} {H : Hp} {s : Shared} (I : Inv X pins σ H s) : Inv X pins σ (upd H s.heap.objs.size (.dK [])) { s with heap := s.heap.push { cls := .type "dict", data := .dict #[] } } :=
  I.laid (t' := s.toks) (fun _ _ e => Heap.get?_push_of_some _ e) (Nat.le_refl _) (dk_empty s.heap I.big)
/-- {**d, k: v} with keys ints and texts; the new dict and the one of the pair stand while the parts are made -/
def tDst (te tk tv : TE) : TE := fun σ H Q => ∀ n, H n = none → te σ (upd H n (.dK [])) fun x H1 => H1 n = some (.dK []) ∧ ∃ o more, x = .ref o ∧ o ≠ n ∧ Rd H1 o (.dK more) ∧ more.length < sizeLine ∧
  ∀ p, upd H1 n (.dK more) p = none → tk σ (upd (upd H1 n (.dK more)) p (.dK [])) fun y H2 => tv σ H2 fun z H3 => H3 p = some (.dK []) ∧ H3 n = some (.dK more) ∧ n ≠ p ∧ ∃ q : Key, y = kV q ∧
    Q (.ref n) (upd (upd H3 p (.dK [(q, z)])) n (.dK (putK more q z)))
theorem pe_dst {X : Cx} {pos : Pos} {e k v : Expr} {te tk tv : TE} (he : PE X e te) (hk : PE X k tk) (hv : PE X v tv) : PE X (.Dict [none, some k] [e, v] pos) (tDst te tk tv) := by
  refine ⟨fun pins s σ H Q I q => ?_⟩
  have hn := I.hok.fresh (Nat.le_refl s.heap.objs.size)
  have I1 := inv_dict I
  rw [arm_eval_Dict]
  refine wpAny_bind (wpAny_standAt ?_)
  show wpAny _ _ (dictDisplay [(none, do let x ← eval e X.env; standAt pos; pure x), (some (eval k X.env), do let x ← eval v X.env; standAt pos; pure x)]) _ _ _
  refine disp_star (wpAny_bind (wpAny_mono (he.run pins _ σ _ _ I1 (q _ hn)) (fun u s1 ⟨x, H1, I2, rx, e1, o, more, ex, hne, hr, hl, q1⟩ => ?_) fun _ _ z => z))
  subst ex
  obtain rfl : u = Value.ref o := rx
  obtain ⟨z, ho, vs, rel, dd⟩ := dk_rd I2.hok hr
  obtain ⟨_, hd, vs0, r0, d0⟩ := dk_of I2.hok e1
  cases r0
  refine wpAny_bind (wpAny_standAt (wpAny_pure ?_))
  have hnd : (vs.map (·.1)).Nodup := let ⟨_, _, _, _, _, _, _, _, hn⟩ := dd; hn
  refine wp_merge (Ne.symm hne) ho d0 dd (by rw [List.length_nil, ← rel.length]; omega) fun h' dn dd' hs => ?_
  rw [merged_nil_of_nodup vs hnd] at dn
  have I3 : Inv X pins σ (upd H1 s.heap.objs.size (.dK more)) { s1 with heap := h' } := d_write (t' := s1.toks) I2 (by rw [e1]; exact True.intro) hs (let ⟨q, _, _, hq, _⟩ := dn; ⟨q, hq⟩) (dk_new z hd rel dn)
  have hp := I3.hok.fresh (Nat.le_refl h'.objs.size)
  have I4 := inv_dict I3
  refine wpAny_subDict (knd := mixKind X.prog X.w) (by show 1 ≤ 15; omega) (evalPairs_cons (wpAny_mono (hk.run pins _ σ _ _ I4 (q1 _ hp)) (fun u s2 ⟨y, H2, I5, ry, q2⟩ => wpAny_bind (wpAny_mono (hv.run pins _ σ _ _ I5 q2) (fun u' s3 ⟨zz, H3, I6, rz, e3, e4, hnp, qk, ey, q3⟩ => ?_) fun _ _ z => z)) fun _ _ z => z))
  subst ey
  refine wpAny_bind (wpAny_standAt (wpAny_pure (evalPairs_nil ?_)))
  obtain ⟨_, hd3, vs3, r3, d3⟩ := dk_of I6.hok e3
  cases r3
  refine ⟨[(qk, u')], ⟨kV_is ry, rfl, True.intro⟩, d3, fun h4 d4 hs4 => ?_⟩
  have d4' : h4.DictOf (mixKind X.prog X.w) h'.objs.size [(qk, u')] := d4
  have I7 : Inv X pins σ (upd H3 h'.objs.size (.dK [(qk, zz)])) { s3 with heap := h4, toks := s3.toks + 1 } := d_write (t' := s3.toks + 1) I6 (by rw [e3]; exact True.intro) hs4 (let ⟨q, _, _, hq, _⟩ := d4'; ⟨q, hq⟩)
    (dk_new (by show 1 ≤ sizeLine; rw [sizeLine_eq]; omega) hd3 (.cons ⟨rfl, rz⟩ .nil) d4')
  have e5 : upd H3 h'.objs.size (.dK [(qk, zz)]) s.heap.objs.size = some (.dK more) := by rw [upd_ne hnp]; exact e4
  obtain ⟨z5, hd5, vs5, r5, d5⟩ := dk_of I7.hok e5
  refine wp_merge hnp hd3 d5 d4' (by rw [← r5.length]; show more.length + 1 ≤ sizeLine; omega) fun h6 d6 _ hs6 => ?_
  have hlp := length_putK more qk zz
  exact ⟨.ref s.heap.objs.size, _, d_write (t' := s3.toks + 1) I7 (by rw [e5]; exact True.intro) hs6 (let ⟨q, _, _, hq, _⟩ := d6; ⟨q, hq⟩) (dk_new (by omega) hd5 (r5.put qk rz) d6), rfl, q3⟩
end M
/-! MPT: {**d, k: v} by combinators; len, list, dict, tuple of dicts. -/
namespace M
open PySem L2
def dst (fe fk fv : EF) : EF := fun r => match frz fe r with
  | .ok _ (.dct false ds) r1 => if ds.length < 100000 then match frz fk r1 with
      | .ok _ k r2 => match frz fv r2 with
        | .ok _ v r3 => match keyOf k with
          | some q => .ok true (.dct false (dPut ds q v)) r3
          | none => .bad
        | .ex e r3 => .ex e r3
        | .bad => .bad
      | .ex e r2 => .ex e r2
      | .bad => .bad
    else .bad
  | .ok _ _ _ => .bad
  | .ex e r1 => .ex e r1
  | .bad => .bad
section
variable {A : Act}
/-- a temporary of ours stays out of the known heap -/
theorem Step.none {σ : L2.St} {r r1 : Env} {G G1 H H1 : Hp} {p : Addr} (st : Step σ r G H r1 G1 H1) (h : G p = none) (e : H p ≠ none) (nr : ¬ Rt r σ p) : G1 p = none := by
  cases z : G1 p with
  | none => rfl
  | some u =>
    rcases st.grow p h (by rw [z]; simp) with y | y
    · exact absurd y e
    · exact absurd y nr
end
theorem pe_dstM {X : Cx} {A : Act} {W : WX} {pos : Pos} {e k v : Expr} {fe fk fv : EF} (he : PE X e (tE A W fe)) (hk : PE X k (tE A W fk)) (hv : PE X v (tE A W fv)) : PE X (.Dict [none, some k] [e, v] pos) (tE A W (dst fe fk fv)) := by
  refine PE.imp (pe_dst (pe_frz he) (pe_frz hk) (pe_frz hv)) fun σ H Q ⟨r, G, k, m⟩ n hn => ?_
  have k0 := k.grow (Grow.laidH (o := .dK []) k.sub hn)
  refine ⟨r, G, k0, ?_⟩
  unfold dst at m
  cases h1 : frz fe r with
  | bad => simp only [h1] at m
  | ex e r1 => simp only [h1] at m ⊢; exact m
  | ok o1 dv r1 =>
    have eo := frz_false h1
    subst eo
    simp only [h1] at m ⊢
    intro x G1 H1 R1
    cases dv with
    | dct t ds =>
      cases t with
      | true => exact m.elim
      | false =>
        simp only at m
        have nr := k.notRt hn
        have e1 : H1 n = some (.dK []) := R1.st.keep n _ upd_same nr
        have n1 : G1 n = none := R1.st.none (k.sub.back hn) (by rw [upd_same]; simp) nr
        have nr1 : ¬ Rt r1 σ n := fun z => nr (R1.st.rts n z)
        have tr := (show Rep A.w G1 (.dct false ds) x from R1.tr)
        rw [Rep] at tr
        obtain ⟨a, ex, ⟨_, kvs, ob, hG, rk⟩ | ⟨z, _⟩⟩ := tr
        case inr => cases z
        by_cases hd : ds.length < 100000
        case neg => rw [if_neg hd] at m; exact m.elim
        rw [if_pos hd] at m
        have hl : kvs.length < sizeLine := by rw [← repK_length rk]; exact Nat.lt_of_lt_of_le hd (by decide)
        have hne : a ≠ n := fun z => by rw [z, n1] at hG; cases hG
        have k1 : Ok A G1 (upd H1 n (.dK kvs)) σ r1 := R1.ok.other n1 (.inr ⟨_, e1, True.intro⟩) nr1 (k.fresh hn)
        refine ⟨e1, a, kvs, ex, hne, .inr ⟨ob, R1.ok.sub _ _ hG⟩, hl, fun p hp => ?_⟩
        have hpn : p ≠ n := fun z => by rw [z, upd_same] at hp; cases hp
        have hp1 : H1 p = none := by rw [upd_ne hpn] at hp; exact hp
        have k2 := k1.grow (Grow.laidH (o := .dK []) k1.sub hp)
        have nrp := R1.ok.notRt hp1
        refine ⟨r1, G1, k2, ?_⟩
        cases h2 : frz fk r1 with
        | bad => simp only [h2] at m
        | ex e r2 => simp only [h2] at m ⊢; exact m.mono R1.st.ex
        | ok o2 kd r2 =>
          have eo := frz_false h2
          subst eo
          simp only [h2] at m ⊢
          intro y G2 H2 R2
          refine ⟨r2, G2, R2.ok, ?_⟩
          cases h3 : frz fv r2 with
          | bad => simp only [h3] at m
          | ex e r3 => simp only [h3] at m ⊢; exact m.mono (R1.st.ex.trans R2.st.ex)
          | ok o3 vd r3 =>
            have eo := frz_false h3
            subst eo
            simp only [h3] at m ⊢
            intro z G3 H3 R3
            cases hq : keyOf kd with
            | none => simp only [hq] at m
            | some q =>
              simp only [hq] at m
              have st := R2.st.trans R3.st
              have i2 : upd (upd H1 n (.dK kvs)) p (.dK []) n = some (.dK kvs) := by rw [upd_ne (Ne.symm hpn), upd_same]
              have e3 : H3 p = some (.dK []) := st.keep p _ upd_same nrp
              have e4 : H3 n = some (.dK kvs) := st.keep n _ i2 nr1
              have p3 : G3 p = none := st.none (R1.ok.sub.back hp1) (by rw [upd_same]; simp) nrp
              have n3 : G3 n = none := st.none n1 (by rw [i2]; simp) nr1
              have nr3 : ¬ Rt r3 σ n := fun z => nr1 (st.rts n z)
              have np3 : ¬ Rt r3 σ p := fun z => nrp (st.rts p z)
              obtain ⟨ek, hb⟩ := rrep_key (H := H2) (.inl (show Rep A.w G2 kd y from R2.tr)) hq
              refine ⟨e3, e4, Ne.symm hpn, q, ek, ?_⟩
              have lp : A.L p ∨ A.H0 p = none := R1.ok.fresh hp1
              refine m _ G3 _ ⟨(R3.ok.other p3 (.inr ⟨.dK [], e3, True.intro⟩) np3 lp).other n3 (.inr ⟨.dK kvs, by rw [upd_ne (Ne.symm hpn)]; exact e4, True.intro⟩) nr3 (k.fresh hn), ⟨R1.st.ex.trans st.ex, fun b o hb nb => ?_, fun b hb hb' => ?_, fun b z => R1.st.rts b (st.rts b z)⟩, trep_t (.inl ⟨rfl, _, upd_same, repK_put (rk.mono st.ex) hb R3.tr⟩) n3 nr3 (k.fresh hn), fun _ a e => by cases e; exact .inl hn⟩
              · have ne : b ≠ n := ne_of_none hb hn
                have hb1 := R1.st.keep b o (by rw [upd_ne ne]; exact hb) nb
                have nep : b ≠ p := let ⟨_, e⟩ := hb1.has; ne_of_none e hp1
                rw [upd_ne ne, upd_ne nep]
                exact hb1.trans fun u hu => st.keep b u (by rw [upd_ne nep, upd_ne ne]; exact hu) fun z => nb (R1.st.rts b z)
              · have ne : b ≠ n := fun z => hb' (by rw [z]; exact n3)
                have nep : b ≠ p := fun z => hb' (by rw [z]; exact p3)
                by_cases g : G1 b = none
                · rcases st.grow b g hb' with y | y
                  · rw [upd_ne nep, upd_ne ne] at y
                    have := R1.st.fresh y
                    rw [upd_ne ne] at this
                    exact this
                  · exact .inr (R1.st.rts b y)
                · have := R1.st.grow b hb g
                  rw [upd_ne ne] at this
                  exact this
    | _ => exact m.elim

/-! ### built-in functions on dicts -/
def PlenD : List Val → Option (Bool × Val)
  | [.dct false ds] => some (false, .int ds.length)
  | _ => none
def keysOfD (ds : List (Val × Val)) : List Val := ds.map (·.1)
def PlistD : List Val → Option (Bool × Val)
  | [.dct false ds] => some (true, .lst (keysOfD ds))
  | _ => none
def asPairs : List Val → Option (List (Val × Val))
  | [] => some []
  | .tup [k, v] :: l => (asPairs l).map ((k, v) :: ·)
  | _ => none
def Pdict : List Val → Option (Bool × Val)
  | [.dct false ds] => some (true, .dct false ds)
  | [.lst ds] => match asPairs ds with
    | some kvs => match putAll [] kvs with
      | some es => some (true, .dct false es)
      | none => none
    | none => none
  | _ => none
def PsortedD : List Val → Option (Bool × Val)
  | [.dct false ds] => match asStrs (keysOfD ds) with
    | some ys => if ys.length < 64 then some (true, .lst ((srt ys).map .str)) else none
    | none => none
  | _ => none
def PlenX := orP Plen PlenD
def PlistX := orP Plist PlistD
def PsortedX := orP Psorted PsortedD
section
variable {X : Cx} {w : Wd}
theorem reps_keys {G : Hp} : ∀ {ds : List (Val × Val)} {kvs : List (Key × V)}, RepK w G ds kvs → Reps w G (keysOfD ds) (kvs.map fun kv => kV kv.1)
  | [], _, r => by rw [RepK] at r; subst r; exact reps_nil.mpr rfl
  | (k, d) :: ds, _, r => by
    rw [RepK] at r
    obtain ⟨q, y, ys, e, ⟨ek, hb⟩, r1, r2⟩ := r
    subst e
    refine reps_cons.mpr ⟨kV q, _, rfl, ?_, reps_keys r2⟩
    subst ek
    cases q with
    | inl i => exact rep_int.mpr rfl
    | inr z => exact rep_str.mpr ⟨rfl, hb⟩
theorem rrep_dK {G H : Hp} {ds : List (Val × Val)} {x : V} (le : Le G H) (r : RRep w G H (.dct false ds) x) : ∃ a kvs, x = .ref a ∧ Rd H a (.dK kvs) ∧ RepK w G ds kvs := by
  obtain ⟨a, e, ⟨_, kvs, h, rk⟩ | ⟨ht, _⟩⟩ := rrep_dct le r
  · exact ⟨a, kvs, e, h, rk⟩
  · cases ht
theorem bi_lenD : CallR X (.builtin "len") (rOf w PlenD) := by
  intro pins s σ H xs us Q I r ⟨G, vs, o, z, le, rr, hp, q⟩
  unfold PlenD at hp
  split at hp
  · cases hp
    obtain ⟨x, e, r1⟩ := rreps_one rr
    subst e
    obtain ⟨a, kvs, rfl, h, rk⟩ := rrep_dK le r1
    obtain ⟨u, rfl, ru⟩ := vals1 r
    cases ru
    refine d_len I h fun t s' I' => ⟨.int kvs.length, H, I', ⟨t, rfl⟩, ?_⟩
    rw [← repK_length rk]
    exact int_new le q
  · cases hp
theorem bi_listD (c : Cal X w) : CallR X (.type "list") (rOf w PlistD) := by
  intro pins s σ H xs us Q I r ⟨G, vs, o, z, le, rr, hp, q⟩
  unfold PlistD at hp
  split at hp
  · cases hp
    obtain ⟨x, e, r1⟩ := rreps_one rr
    subst e
    obtain ⟨a, kvs, rfl, h, rk⟩ := rrep_dK le r1
    exact call_listD c.calm pins s σ H _ us Q I r ⟨a, kvs, rfl, h, fun p hp => new_lst le hp (reps_keys rk) q⟩
  · cases hp
theorem new_dK {G H : Hp} {p : Addr} {kvs : List (Key × V)} {ds : List (Val × Val)} {Q : VK} (le : Le G H) (hp : H p = none) (rp : RepK w G ds kvs)
    (q : ∀ u G' H', Grow G H G' H' → NRep w G H G' H' true (.dct false ds) u → Q u H') : Q (.ref p) (upd H p (.dK kvs)) :=
  q _ G _ (Grow.laidH le hp) ⟨_, rfl, root_dK upd_same rp, le.back hp, hp⟩
theorem pairs_reps {G H : Hp} (le : Le G H) : ∀ {ds : List Val} {kvs : List (Val × Val)} {xs : List V}, asPairs ds = some kvs → Reps w G ds xs → ∃ (ps : List Addr) (vs : List (V × V)), xs = ps.map V.ref ∧ Paired (fun p kv => SqT w.K H p [kv.1, kv.2]) ps vs ∧ Paired (fun (p : Val × Val) (q : V × V) => Rep w G p.1 q.1 ∧ Rep w G p.2 q.2) kvs vs
  | [], kvs, xs, h, r => by
    cases h
    rw [reps_nil] at r; subst r
    exact ⟨[], [], rfl, .nil, .nil⟩
  | .tup [k, v] :: ds, kvs, xs, h, r => by
    simp only [asPairs, Option.map_eq_some_iff] at h
    obtain ⟨l, hl, e⟩ := h
    subst e
    rw [reps_cons] at r
    obtain ⟨y, ys, e, r1, r2⟩ := r
    subst e
    obtain ⟨a, zs, rfl, hs, rs⟩ := rep_tup.mp r1
    rw [reps_cons] at rs
    obtain ⟨y1, ys1, e, g1, rs⟩ := rs
    subst e
    rw [reps_cons] at rs
    obtain ⟨y2, ys2, e, g2, rs⟩ := rs
    subst e
    rw [reps_nil] at rs
    subst rs
    obtain ⟨ps, vs, e1, e2, e3⟩ := pairs_reps le hl r2
    exact ⟨a :: ps, (y1, y2) :: vs, by rw [e1]; rfl, .cons (sqt_mono le hs) e2, .cons ⟨g1, g2⟩ e3⟩
theorem paired_map {α β γ : Type} {F : α → β → Prop} {f : γ → β} : ∀ {l : List α} {m : List γ}, Paired F l (m.map f) → Paired (fun a c => F a (f c)) l m
  | [], [], _ => .nil
  | [], _ :: _, h => nomatch h
  | _ :: _, [], h => nomatch h
  | _ :: _, _ :: _, .cons h t => .cons h (paired_map t)
theorem bi_dict (c : Cal X w) : CallR X (.type "dict") (rOf w Pdict) := by
  intro pins s σ H xs us Q I r ⟨G, vs, o, z, le, rr, hp, q⟩
  unfold Pdict at hp
  split at hp
  · cases hp
    obtain ⟨x, e, r1⟩ := rreps_one rr
    subst e
    obtain ⟨a, kvs, rfl, h, rk⟩ := rrep_dK le r1
    exact call_dictD pins s σ H _ us Q I r ⟨a, kvs, rfl, h, fun p hp => new_dK le hp rk q⟩
  · split at hp
    · rename_i kvs hk
      split at hp
      · rename_i es he
        cases hp
        obtain ⟨x, e, r1⟩ := rreps_one rr
        subst e
        obtain ⟨a, zs, rfl, h, rs⟩ := rrep_lst le r1
        obtain ⟨ps, ws, e1, e2, e3⟩ := pairs_reps le hk rs
        obtain ⟨qs, f1, f2, f3⟩ := reps_pairs (ks := []) he repK_nil0 e3
        subst e1
        subst f1
        refine call_dictP c.calm pins s σ H _ us Q I r ⟨a, ps, qs, rfl, .inl (.inl h), ?_, fun p hp => new_dK le hp f3 q⟩
        have e4 := paired_map (F := fun (p : Addr) (kv : V × V) => SqT w.K H p [kv.1, kv.2]) (f := fun kv : Key × V => (kV kv.1, kv.2)) e2
        rw [c.K] at e4
        exact e4
      · cases hp
    · cases hp
  · cases hp
theorem strs_keys {G : Hp} : ∀ {ds : List (Val × Val)} {kvs : List (Key × V)} {ys : List Str}, RepK w G ds kvs → asStrs (keysOfD ds) = some ys → kvs.map (·.1) = ys.map Sum.inr ∧ ∀ y ∈ ys, y.length ≤ sizeLine
  | [], _, ys, r, h => by rw [RepK] at r; subst r; cases h; exact ⟨rfl, fun _ h => nomatch h⟩
  | (k, d) :: ds, _, ys, r, h => by
    rw [RepK] at r
    obtain ⟨q, y, zs, e, ⟨ek, hb⟩, r1, r2⟩ := r
    subst e
    subst ek
    cases q with
    | inl i => cases h
    | inr z =>
      simp only [keysOfD, List.map_cons, kv, asStrs, Option.map_eq_some_iff] at h
      obtain ⟨l, hl, e⟩ := h
      subst e
      obtain ⟨e1, e2⟩ := strs_keys r2 hl
      exact ⟨by rw [List.map_cons, List.map_cons, e1], fun y h => (List.mem_cons.mp h).elim (fun h => by subst h; exact hb) (e2 y)⟩
theorem bi_sortedD (c : Cal X w) : CallR X (.builtin "sorted") (rOf w PsortedD) := by
  intro pins s σ H xs us Q I r ⟨G, vs, o, z, le, rr, hp, q⟩
  unfold PsortedD at hp
  split at hp
  · split at hp
    · rename_i ys hy
      split at hp
      · rename_i hb
        cases hp
        obtain ⟨x, e, r1⟩ := rreps_one rr
        subst e
        obtain ⟨a, kvs, rfl, h, rk⟩ := rrep_dK le r1
        obtain ⟨e1, e2⟩ := strs_keys rk hy
        refine call_sortedD c.calm pins s σ H _ us Q I r ⟨a, kvs, ys, rfl, h, e1, hb, fun ys' p hp hs hn => ?_⟩
        rw [srt_eq hp hs]
        exact new_lst le hn (reps_of_strs fun x hx => e2 x (srt_mem.mp hx)) q
      · cases hp
    · cases hp
  · cases hp
theorem bi_lenX (c : Cal X w) : CallR X (.builtin "len") (rOf w PlenX) := cr_or (bi_len c) bi_lenD
theorem bi_listX (c : Cal X w) : CallR X (.type "list") (rOf w PlistX) := cr_or (bi_list c) (bi_listD c)
theorem bi_sortedX (c : Cal X w) : CallR X (.builtin "sorted") (rOf w PsortedX) := cr_or (bi_sorted c) (bi_sortedD c)
theorem bi_isiX (c : Cal X w) : CallR X (.builtin "isinstance") (rOf w (orP Pisi Pisis)) := cr_or (bi_isi c) (bi_isis c)
end

/-! ### *d in a display -/
theorem star_dct {X : Cx} {pins : List (Addr × Obj)} {σ : L2.St} {H : Hp} {s : Shared} {a : Addr} {kvs : List (Key × V)} {E : Value → Shared → Prop} {Q : List Value → Shared → Prop} (hc : X.calm = true) (I : Inv X pins σ H s) (h : Rd H a (.dK kvs))
    (hQ : ∀ us s', Inv X pins σ H s' → Vals (kvs.map fun kv => kV kv.1) us → Q us s') : PySem.W.StarOf (model X.prog X.w) X.A E (.ref a) Q s := by
  obtain ⟨z, lo, vs, rel, dd⟩ := dk_rd I.hok h
  obtain ⟨ep, hat⟩ := dd.dictAt
  have ek : (kvs.map fun kv => kV kv.1) = vs.map fun p => kV p.1 := by
    have e := congrArg (List.map kV) rel.keys
    rw [List.map_map, List.map_map] at e
    exact e
  have z2 : wpAny (model X.prog X.w) X.A (collect (.ref a)) Q E s := by
    refine PySem.W.kdu_collect (PySem.W.kdl_dict (knd := mixKind X.prog X.w) (kvs := vs) (ep := ep) lo) (I.ok.hd hc) hat (by rw [← rel.length]; exact z) fun h' tk acc hk hacc => ?_
    have hv : Vals (vs.map fun p => kV p.1) acc.toList := keys_at (by rw [Array.length_toList]; exact hacc.1) fun j v e => hacc.2 j v (by rw [← Array.getElem?_toList]; exact e)
    exact hQ _ _ (I.kept (t' := tk) hk) (by rw [ek]; exact hv)
  unfold PySem.W.StarOf notIterableAtAll
  exact wpAny_bind (wpAny_specialOf dd.typeIs PySem.F.slot_dict_iter.lookup (wpAny_pure ⟨rfl, z2⟩))
def tStarD (te : TE) (t : TA) : TA := fun σ H Q => te σ H fun x H1 => ∃ a kvs, x = V.ref a ∧ Rd H1 a (.dK kvs) ∧ t σ H1 fun ys H2 => Q ((kvs.map fun kv => kV kv.1) ++ ys) H2
theorem pa_starD0 {X : Cx} {e : Expr} {es : List Expr} {te : TE} {t : TA} {p : Pos} (hc : X.calm = true) (he : PE X e te) (hr : PA X es t) (hs : starEach (.Starred e p :: es) X.env = (true, eval e X.env) :: starEach es X.env := by rfl) : PA X (.Starred e p :: es) (tStarD te t) := by
  refine ⟨fun pos pins s σ H Q I h => ?_⟩
  refine PySem.W.items_star (thn (he.run pins s σ H _ I h) fun v s1 ⟨y, H1, I1, ry, a, kvs, ey, hx, q⟩ => ?_) hs
  subst ey
  obtain rfl : v = Value.ref a := ry
  refine star_dct hc I1 hx fun us s2 I2 rv => ?_
  exact thn (hr.run pos pins s2 σ H1 _ I2 q) fun ws s3 ⟨vs, H3, I3, r3, q3⟩ => ⟨_ ++ vs, H3, I3, rv.append r3, q3⟩
/-- d in a display, told by the shape of the text: the value is a dict -/
def asStD (f : EF) (g : AF) : AF := fun r => match frz f r with
  | .ok _ (.dct false ds) r1 => match g r1 with
    | .ok vs r2 => .ok (keysOfD ds ++ vs) r2
    | .ex e r2 => .ex e r2
    | .bad => .bad
  | .ok _ _ _ => .bad
  | .ex e r1 => .ex e r1
  | .bad => .bad
theorem pa_asStD {X : Cx} {A : Act} {W : WX} {e : Expr} {es : List Expr} {f : EF} {g : AF} {p : Pos} (hc : X.calm = true) (he : PE X e (tE A W f)) (hr : PA X es (tAs A W g)) (hs : starEach (.Starred e p :: es) X.env = (true, eval e X.env) :: starEach es X.env := by rfl) : PA X (.Starred e p :: es) (tAs A W (asStD f g)) :=
  PA.imp (pa_starD0 hc (pe_frz he) hr hs) fun σ H Q ⟨r, G, k, m⟩ => ⟨r, G, k, by
    unfold asStD at m
    cases hf : frz f r with
    | bad => simp only [hf] at m
    | ex e r' => simp only [hf] at m ⊢; exact m
    | ok o v r1 =>
      have eo := frz_false hf
      subst eo
      simp only [hf] at m ⊢
      intro x G1 H1 R1
      cases v with
      | dct t ds =>
        cases t with
        | true => exact m.elim
        | false =>
          simp only at m
          obtain ⟨a, kvs, rfl, h, rk⟩ := rrep_dK R1.ok.sub (.inl R1.tr)
          refine ⟨a, kvs, rfl, h, r1, G1, R1.ok, ?_⟩
          cases hg : g r1 with
          | bad => simp only [hg] at m
          | ex e r2 => simp only [hg] at m ⊢; exact m.mono R1.st.ex
          | ok vs r2 =>
            simp only [hg] at m ⊢
            intro ys G2 H2 k2 st2 rs2
            exact m _ G2 H2 k2 (R1.st.trans st2) (reps_append ((reps_keys rk).mono st2.ex) rs2)
      | _ => exact m.elim⟩
end M
/-! MPQ: dict comprehensions of two clauses. One lemma says what a clause's loop does, whatever stands behind its tests; it serves for both clauses. -/
namespace M
open PySem L2 PySem.Spec PyProof.Rows
/-- σ' knows what σ knows -/
def Kp (σ σ' : L2.St) : Prop := σ'.length = σ.length ∧ ∀ (j : Nat) (v : V), σ[j]? = some (some v) → σ'[j]? = some (some v)
theorem Kp.refl (σ : L2.St) : Kp σ σ := ⟨rfl, fun _ _ h => h⟩
/-- a clause's turn, behind whose tests stands m -/
def turnOf (e : Expr) (d : Nat) (tg iter : Expr) (ifs : List Expr) (m : Sem Unit) (it acc : Value) (env : PySem.Env) : Sem PySem.Fin := do
  standAt iter.pos
  match ← pyNext it with
  | none => pure (.done .next)
  | some v =>
    letOwnedTupleGo tg it v
    assign tg env v
    let ok ← forIn ifs true fun c r => if r = true then do let ok ← isTrue c env (eval c env); pure (ForInStep.yield ok) else pure (ForInStep.yield r)
    if ok = true then
      m
      again (.compLoop e d it acc env)
    else again (.compLoop e d it acc env)
theorem clause_loop {X : Cx} {pins : List (Addr × Obj)} {σb : L2.St} {e tg iter : Expr} {d : Nat} {it : Addr} {acc : Value} {fp : List Addr} {tn : Nat → Heap → Prop} {J : It} {ifs : List Expr} {g : TG} {tt : TT} {m : Sem Unit} {R : Result → Shared → Prop} {Fin' : Hp → Prop}
    {body : L2.St → Hp → (Hp → Prop) → Prop} {W : Nat → Nat → Hp → Prop} {m0 i0 : Nat} {H0 : Hp} {s0 : Shared}
    (hc : X.calm = true) (hx : X.xe = fun _ _ => False) (hturn : compTurn e d (.ref it) acc X.env = turnOf e d tg iter ifs m (.ref it) acc X.env) 
    (hu : X.A.under (.compLoop e d (.ref it) acc X.env) = X.A) (hd : (model X.prog X.w).den (.compLoop e d (.ref it) acc X.env) = (compTurn e d (.ref it) acc X.env).onRaise fun x => do noteFrame x X.env; theTreesLotGoes x)
    (T : Turn X.prog X.w X.K tg J fp it tn) (pg : PG X tg g) (pt : PTs X ifs tt)
    (stat : ∀ (σ : L2.St) (H : Hp) (s : Shared), Inv X pins σ H s → (∀ b ∈ fp, H b = none) → ∀ b ∈ fp, FpOk X pins H b)
    (hb : ∀ (ps : List (Addr × Obj)) (s : Shared) (σ : L2.St) (H : Hp) (Q : Hp → Prop), Inv X (pins ++ ps) σ H s → Kp σb σ → body σ H Q → wpAny (model X.prog X.w) X.A m (fun _ s' => ∃ σ' H', Inv X (pins ++ ps) σ' H' s' ∧ Kp σb σ' ∧ Q H') (fun _ _ => False) s)
    (hf : ∀ (s : Shared) (H : Hp), Inv X pins σb H s → Fin' H → R (.ok .next) s)
    (turn : ∀ i m H, W i m H → (J.stop i H ∧ Fin' H) ∨ (J.go i H ∧ ∃ Nx : Hp → Prop, (∀ H', Nx H' → ∃ m', m' < m ∧ W (i + 1) m' H') ∧
      ∀ x H', J.yld i H x H' → g x σb H' fun σ2 H2 => Kp σb σ2 ∧ tt σ2 H2 fun b H3 => if b = true then body σ2 H3 Nx else Nx H3))
    (I0 : Inv X pins σb H0 s0) (t0 : tn i0 s0.heap) (n0 : ∀ b ∈ fp, H0 b = none) (w0 : W i0 m0 H0) :
    codeAny (model X.prog X.w) X.A (.compLoop e d (.ref it) acc X.env) R s0 := by
  refine codeAny_loop rfl (fun k s => ∃ i H, Inv X pins σb H s ∧ tn i s.heap ∧ (∀ b ∈ fp, H b = none) ∧ W i k H) (fun k s ⟨i, H, I, t, n, wk⟩ => ?_) m0 ⟨i0, H0, I0, t0, n0, w0⟩
  rw [hu, hd]
  refine wpAny_noted ?_
  rw [hturn]
  refine wpAny_bind (wpAny_standAt (wpAny_bind ?_))
  rcases turn i k H wk with ⟨stop, fin⟩ | ⟨go, Nx, hNx, step⟩
  · refine thnF (T.done X rfl rfl rfl hc i pins s σb H (fun _ _ => False) I (stat _ _ _ I n) t stop) fun r s1 ⟨hr, I1⟩ => ?_
    subst hr
    exact wpAny_pure (hf s1 H I1 fin)
  · refine thnF (T.item X rfl rfl rfl hc i pins s σb H (fun _ _ => False) I (stat _ _ _ I n) t go) fun r s1 ⟨u, hr, h1⟩ => ?_
    subst hr
    refine wpAny_bind (thnF h1 fun _ s2 ⟨x, H2, I2, r2, y2, t2, n2⟩ => ?_)
    have P2 := I2.pinned (stat _ _ _ I2 n2) (T.obj _ _ t2)
    have again_ : ∀ {σ' : L2.St} {s' : Shared} {H' : Hp}, Inv X (pins ++ pinsAt fp s2.heap) σ' H' s' → Kp σb σ' → Nx H' → ∃ k', k' < k ∧ ∃ i H, Inv X pins σb H s' ∧ tn i s'.heap ∧ (∀ b ∈ fp, H b = none) ∧ W i k' H := fun {σ' s' H'} I' kp nx => by
      obtain ⟨k', hk, w'⟩ := hNx H' nx
      have pin : ∀ b ∈ fp, ∀ o, s2.heap.get? b = some o → s'.heap.get? b = some o ∧ H' b = none := fun b hb o e =>
        have z := I'.pin (b, o) (List.mem_append_right _ (List.mem_append_right _ (mem_pinsAt hb e)))
        ⟨z.1, z.2.1⟩
      exact ⟨k', hk, i + 1, H', I'.unpinned.weak kp.1.symm kp.2, T.keep _ _ _ t2 fun b hb o e => (pin b hb o e).1, fun b hb => let ⟨o, e, _⟩ := T.obj _ _ t2 b hb; (pin b hb o e).2, w'⟩
    have no : ∀ {α : Type} {t : Sem α} {Q Q' : α → Shared → Prop} {E : Value → Shared → Prop} {s : Shared}, wpAny (model X.prog X.w) X.A t Q X.xe s → (∀ a s, Q a s → Q' a s) → wpAny (model X.prog X.w) X.A t Q' E s := fun h hQ => thnF (by rw [hx] at h; exact h) hQ
    refine wpAny_bind (no (pg.run _ s2 _ H2 x u _ P2 r2 (step x H2 y2)) fun _ s3 ⟨σ3, H3, I3, kp3, q3⟩ => ?_)
    refine wpAny_bind (no (pt.run _ s3 σ3 H3 _ I3 q3) fun b s4 ⟨H4, I4, q4⟩ => ?_)
    cases b with
    | false =>
      simp only [Bool.false_eq_true, if_false] at q4 ⊢
      exact wpAny_pure ⟨rfl, again_ I4 kp3 q4⟩
    | true =>
      simp only [if_true] at q4 ⊢
      exact wpAny_bind (thnF (hb _ s4 σ3 H4 Nx I4 kp3 q4) fun _ s5 ⟨σ5, H5, I5, kp5, q5⟩ => wpAny_pure ⟨rfl, again_ I5 kp5 q5⟩)

section
variable {kx vx t0 i0 t1 i1 : Expr} {ifs0 ifs1 : List Expr} {scope : Scope} {pos : Pos}
abbrev dc2E (kx vx t0 i0 : Expr) (ifs0 : List Expr) (t1 i1 : Expr) (ifs1 : List Expr) (scope : Scope) (pos : Pos) : Expr := .DictComp kx vx [⟨t0, i0, ifs0, 0⟩, ⟨t1, i1, ifs1, 0⟩] scope pos
/-- the pair that is laid in -/
def putKV (kx vx : Expr) (D : Addr) (env : PySem.Env) : Sem Unit := do
  let kv ← eval kx env
  let vv ← holding [kv] (eval vx env)
  standAt { kx.pos with endLine := vx.pos.endLine, endCol := vx.pos.endCol }
  holding [kv, vv] (dictSet D kv vv)
/-- the second clause -/
def runSecond (e i1 : Expr) (acc : Value) (env : PySem.Env) : Sem Unit := do
  let x ← eval i1 env
  standAt i1.pos
  let x ← foldedSetIterable i1 env x
  let _ ← runOwn (.compStart e 1 (← holding [x] (pyIter x)) acc env) env
theorem turn_second (it : Value) (D : Addr) (env : PySem.Env) : compTurn (dc2E kx vx t0 i0 ifs0 t1 i1 ifs1 scope pos) 1 it (.ref D) env = turnOf (dc2E kx vx t0 i0 ifs0 t1 i1 ifs1 scope pos) 1 t1 i1 ifs1 (putKV kx vx D env) it (.ref D) env := by rfl
theorem turn_first (it : Value) (D : Addr) (env : PySem.Env) : compTurn (dc2E kx vx t0 i0 ifs0 t1 i1 ifs1 scope pos) 0 it (.ref D) env = turnOf (dc2E kx vx t0 i0 ifs0 t1 i1 ifs1 scope pos) 0 t0 i0 ifs0 (runSecond (dc2E kx vx t0 i0 ifs0 t1 i1 ifs1 scope pos) i1 (.ref D) env) it (.ref D) env := by
  simp only [turnOf, runSecond, bind_assoc]
  rfl

/-- the second clause's start: once more iter, where the model does not follow the text -/
theorem second_start {prog : Program} {w : World} {A : Around} {R : Result → Shared → Prop} {s : Shared} {it acc : Value} {env : PySem.Env}
    (h : codeAny (model prog w) A (.compLoop (dc2E kx vx t0 i0 ifs0 t1 i1 ifs1 scope pos) 1 it acc env) R s)
    (hs : wpAny (model prog w) A (pyIter it) (fun it' s' => codeAny (model prog w) A (.compLoop (dc2E kx vx t0 i0 ifs0 t1 i1 ifs1 scope pos) 1 it' acc env) R s') (notedBy (model prog w) A env fun x s' => R (.error x) s') s) :
    codeAny (model prog w) A (.compStart (dc2E kx vx t0 i0 ifs0 t1 i1 ifs1 scope pos) 1 it acc env) R s := by
  refine codeAny_of_tree ?_
  show wpAny _ A ((compStart (dc2E kx vx t0 i0 ifs0 t1 i1 ifs1 scope pos) 1 it acc env).onRaise fun x => do noteFrame x env; standAt theWindowsPlace) _ _ s
  refine wpAny_notedAt ?_
  unfold compStart
  show wpAny _ _ (ask >>= _) _ _ s
  refine wpAny_bind (wpAny_askSetting (wpAny_ite ?_))
  split
  · exact wpAny_pure ⟨rfl, h⟩
  · refine wpAny_bind (wpAny_rule ?_)
    show wpAny _ _ (standAt i1.pos >>= _) _ _ s
    exact wpAny_bind (wpAny_standAt (wpAny_bind (wpAny_mono hs (fun it' s' h' => wpAny_pure ⟨rfl, h'⟩) fun _ _ x => x)))
end
/-- one more pair of a comprehension's dict -/
def tLay (D : Addr) (tk tv : TE) (σ : L2.St) (H : Hp) (Nx : Hp → Prop) : Prop := tk σ H fun y H4 => tv σ H4 fun z H5 => ∃ kvs k, y = kV k ∧ H5 D = some (.dK kvs) ∧ kvs.length < sizeLine ∧ Nx (upd H5 D (.dK (putK kvs k z)))
/-- the second clause, from what the first knows -/
def tSec (D : Addr) (wi1 : TI) (g1 : TG) (tt1 : TT) (tk tv : TE) (vs1 : List Nat) (σ : L2.St) (H : Hp) (Nx : Hp → Prop) : Prop := wi1 σ H fun J H1 => ∃ W : Nat → Nat → Hp → Prop, (∃ m, W 0 m H1) ∧ ∀ j k H, W j k H →
  (J.stop j H ∧ Nx H) ∨ (J.go j H ∧ ∃ Nx1 : Hp → Prop, (∀ H', Nx1 H' → ∃ k', k' < k ∧ W (j + 1) k' H') ∧ ∀ x H', J.yld j H x H' → g1 x (wipe σ vs1) H' fun σ3 H5 => Kp (wipe σ vs1) σ3 ∧ tt1 σ3 H5 fun b H6 =>
    if b = true then tLay D tk tv σ3 H6 Nx1 else Nx1 H6)
def tDc2 (wi : TI) (g : TG) (tt : TT) (wi1 : TI) (g1 : TG) (tt1 : TT) (tk tv : TE) (vs vs1 : List Nat) : TE := fun σ H Q => wi σ H fun J H1 => ∀ D, H1 D = none → ∃ W : Nat → Nat → Hp → Prop, (∃ m, W 0 m (upd H1 D (.dK []))) ∧ ∀ i m H, W i m H →
  (J.stop i H ∧ Q (.ref D) H) ∨ (J.go i H ∧ ∃ Nx : Hp → Prop, (∀ H', Nx H' → ∃ m', m' < m ∧ W (i + 1) m' H') ∧ ∀ x H', J.yld i H x H' → g x (wipe σ vs) H' fun σ2 H2 => Kp (wipe σ vs) σ2 ∧ tt σ2 H2 fun b H3 =>
    if b = true then tSec D wi1 g1 tt1 tk tv vs1 σ2 H3 Nx else Nx H3)
theorem kp_wipe {σ σ' : L2.St} {vs vs1 : List Nat} (h : Kp (wipe σ vs) σ') (hv : ∀ i ∈ vs1, i ∈ vs) : Kp (wipe σ vs) (wipe σ' vs1) := ⟨(wipe_length _ _).trans h.1, fun j v e => by
  rw [wipe_out fun z => (wipe_some e).2 (hv j z)]
  exact h.2 j v e⟩
section
variable {X : Cx} {pins : List (Addr × Obj)} {kx vx t0 i0 t1 i1 : Expr} {ifs0 ifs1 : List Expr} {scope : Scope} {pos : Pos} {D : Addr} {tk tv : TE} {wi1 : TI} {g1 : TG} {tt1 : TT} {σb : L2.St} {vs vs1 : List Nat}
theorem lay_run (hx : X.xe = fun _ _ => False) (hk : PE X kx tk) (hv : PE X vx tv) {ps : List (Addr × Obj)} {s : Shared} {σ : L2.St} {H : Hp} {Q : Hp → Prop} (I : Inv X ps σ H s) (kp : Kp σb σ) (h : tLay D tk tv σ H Q) :
    wpAny (model X.prog X.w) X.A (putKV kx vx D X.env) (fun _ s' => ∃ σ' H', Inv X ps σ' H' s' ∧ Kp σb σ' ∧ Q H') (fun _ _ => False) s := by
  have r1 := hk.run ps s σ H _ I h
  rw [hx] at r1
  refine wpAny_bind (thnF r1 fun u s1 ⟨y, H1, I1, ry, q1⟩ => ?_)
  have r2 := hv.run ps s1 σ H1 _ I1 q1
  rw [hx] at r2
  refine wpAny_bind (wpAny_holding (thnF r2 fun u2 s2 ⟨z, H2, I2, rz, kvs, k, ek, hD, hl, nx⟩ => ?_))
  subst ek
  exact wpAny_bind (wpAny_standAt (wpAny_holding (d_dictSet I2 hD hl ry rz fun s3 I3 => ⟨σ, _, I3, kp, nx⟩)))
theorem sec_run (hx : X.xe = fun _ _ => False) (hc : X.calm = true) (hk : PE X kx tk) (hv : PE X vx tv) (hi1 : PI X t1 i1 wi1) (hg1 : PG X t1 g1) (ht1 : PTs X ifs1 tt1) (hs1 : ∀ x, foldedSetIterable i1 X.env x = pure x) (hvs : ∀ i ∈ vs1, i ∈ vs)
    {ps : List (Addr × Obj)} {s : Shared} {σ0 σ : L2.St} {H : Hp} {Q : Hp → Prop} (I : Inv X ps σ H s) (kp : Kp (wipe σ0 vs) σ) (h : tSec D wi1 g1 tt1 tk tv vs1 σ H Q) :
    wpAny (model X.prog X.w) X.A (runSecond (dc2E kx vx t0 i0 ifs0 t1 i1 ifs1 scope pos) i1 (.ref D) X.env) (fun _ s' => ∃ σ' H', Inv X ps σ' H' s' ∧ Kp (wipe σ0 vs) σ' ∧ Q H') (fun _ _ => False) s := by
  have r1 := hi1.run ps s σ H _ I h
  rw [hx] at r1
  refine wpAny_bind (thnF r1 fun xv s1 h1 => wpAny_bind (wpAny_standAt (wpAny_bind (wpAny_of_eq (hs1 xv) (wpAny_bind (wpAny_holding (thnF h1 fun itv s2 h2 => ?_)))))))
  obtain ⟨it, fp, tn, J, H2, e, I2, T, st2, f2, W, ⟨m1, w1⟩, turn⟩ := h2
  subst e
  refine wpAny_bind (wpAny_runOwn ?_)
  rw [Around.mark_none]
  have loop : codeAny (model X.prog X.w) X.A (.compLoop (dc2E kx vx t0 i0 ifs0 t1 i1 ifs1 scope pos) 1 (.ref it) (.ref D) X.env)
      (fun r s' => match r with
        | .ok _ => ∃ σ' H', Inv X ps σ' H' s' ∧ Kp (wipe σ0 vs) σ' ∧ Q H'
        | .error _ => False) s2 :=
    clause_loop hc hx (turn_second _ _ _) rfl rfl T hg1 ht1 (fun σ' H' s' I' n b hb => ⟨n b hb, (f2 b hb).2⟩) (fun ps' s' σ' H' Q' I' kp' q' => lay_run hx hk hv I' kp' q')
      (fun s' H' I' q' => ⟨_, H', I', kp_wipe kp hvs, q'⟩) turn (I2.weak (wipe_length _ _) fun j v e => (wipe_some e).1) st2 (fun b hb => (f2 b hb).1) w1
  refine codeAny_mono (second_start loop (T.self X.A 0 _ _ _ st2 loop)) fun r s' hr => ?_
  cases r with
  | ok f => exact wpAny_pure hr
  | error e => exact hr.elim
end

section
variable {X : Cx}
theorem pe_dc2 {kx vx t0 i0 t1 i1 : Expr} {ifs0 ifs1 : List Expr} {scope : Scope} {own : List (Str × Nat)} {vs1 : List Nat} {pos : Pos} {wi wi1 : TI} {g g1 : TG} {tt tt1 : TT} {tk tv : TE} (hc : X.calm = true) (hN : X.N.Nodup) (hi : PI X t0 i0 wi)
    (ok : BlkOk X.N X.env.scope scope own) (hv : ∀ i ∈ vs1, i ∈ own.map (·.2))
    (hg : ∀ (s : Shared) (H : Hp) (C : Addr) (cl : List (Str × Addr)) (fp : List Addr), PG (X.blk s H scope (compEnvC scope cl C X.env) fp) t0 g)
    (ht : ∀ (s : Shared) (H : Hp) (C : Addr) (cl : List (Str × Addr)) (fp : List Addr), PTs (X.blk s H scope (compEnvC scope cl C X.env) fp) ifs0 tt)
    (hi1 : ∀ (s : Shared) (H : Hp) (C : Addr) (cl : List (Str × Addr)) (fp : List Addr), PI (X.blk s H scope (compEnvC scope cl C X.env) fp) t1 i1 wi1)
    (hg1 : ∀ (s : Shared) (H : Hp) (C : Addr) (cl : List (Str × Addr)) (fp : List Addr), PG (X.blk s H scope (compEnvC scope cl C X.env) fp) t1 g1)
    (ht1 : ∀ (s : Shared) (H : Hp) (C : Addr) (cl : List (Str × Addr)) (fp : List Addr), PTs (X.blk s H scope (compEnvC scope cl C X.env) fp) ifs1 tt1)
    (hk : ∀ (s : Shared) (H : Hp) (C : Addr) (cl : List (Str × Addr)) (fp : List Addr), PE (X.blk s H scope (compEnvC scope cl C X.env) fp) kx tk)
    (he : ∀ (s : Shared) (H : Hp) (C : Addr) (cl : List (Str × Addr)) (fp : List Addr), PE (X.blk s H scope (compEnvC scope cl C X.env) fp) vx tv)
    (hs : ∀ x, foldedSetIterable i0 X.env x = pure x := by intro _; rfl) (hs1 : ∀ env x, foldedSetIterable i1 env x = pure x := by intro _ _; rfl) :
    PE X (dc2E kx vx t0 i0 ifs0 t1 i1 ifs1 scope pos) (tDc2 wi g tt wi1 g1 tt1 tk tv (own.map (·.2)) vs1) := by
  refine ⟨fun pins s σ H Q I h => ?_⟩
  rw [arm_eval_DictComp]
  have hfree : ∀ y ∈ scope.names, y.2 = .free → ∃ c, X.env.cells.lookup y.1 = some c := fun y hy e => (ok.free y hy e).elim (fun k => I.ok.has _ (.inl k)) fun k => I.ok.has _ (.inr k)
  refine wpAny_comprehension_free (use := none) rfl hs (closure_ok hfree) ok.kind (fun y hy e => by rw [ok.uniq y hy, e]) (thn (hi.run pins s σ H _ I h) fun xv s1 hx => thn hx fun itv s2 h2 => ?_)
  obtain ⟨it, fp, tn, J, H2, e, I2, T, t2, f2, q⟩ := h2
  subst e
  refine wpAny_newObj_type (newEnv_comp ?_)
  obtain ⟨W, ⟨m0, w0⟩, turn⟩ := q _ (I2.hok.fresh (Nat.le_refl _))
  -- the dict, then the block's own namespace
  obtain ⟨s3, e3⟩ : ∃ s3 : Shared, s3 = { s2 with heap := s2.heap.push { cls := .type "dict", data := .dict #[] } } := ⟨_, rfl⟩
  obtain ⟨H3, eH⟩ : ∃ H3 : Hp, H3 = upd H2 s2.heap.objs.size (.dK []) := ⟨_, rfl⟩
  have I3 : Inv X pins σ H3 s3 := by
    rw [e3, eH]
    exact I2.laid (t' := s2.toks) (fun b o e => Heap.get?_push_of_some _ e) (Nat.le_refl _) (dk_empty s2.heap I2.big)
  have old : ∀ b ∈ fp, b < s2.heap.objs.size := fun b hb => let ⟨o, e, _⟩ := T.obj _ _ t2 b hb; Heap.lt_size e
  have push3 : ∀ {b o}, s2.heap.get? b = some o → s3.heap.get? b = some o := fun e => by rw [e3]; exact Heap.get?_push_of_some _ e
  have f3 : ∀ b ∈ fp, FpOk X pins H3 b ∧ b < s3.heap.objs.size := fun b hb => by
    refine ⟨⟨by rw [eH, upd_ne (Nat.ne_of_lt (old b hb))]; exact (f2 b hb).1, (f2 b hb).2⟩, ?_⟩
    obtain ⟨o, e, _⟩ := T.obj _ _ t2 b hb
    exact Heap.lt_size (push3 e)
  have t3 : tn 0 s3.heap := T.keep _ _ _ t2 fun b _ o e => push3 e
  have I4 := block_start I3 ok hN f3
  rw [← e3]
  rw [← eH] at w0
  show codeAny _ _ (.compStart (dc2E kx vx t0 i0 ifs0 t1 i1 ifs1 scope pos) 0 (.ref it) (.ref s2.heap.objs.size) (compEnvC scope (cellsFrom (s3.heap.objs.size + 1) scope.names (cloFrom X.env.cells scope.names [])) s3.heap.objs.size X.env))
    (compPost (model X.prog X.w) X.A X.xe none _ (.ref s2.heap.objs.size) s3.heap.objs.size) { s3 with heap := pushCells (s3.heap.push { cls := .type "dict", data := .dict #[] }) scope.names }
  have pi1 := hi1 s3 H3 s3.heap.objs.size (cellsFrom (s3.heap.objs.size + 1) scope.names (cloFrom X.env.cells scope.names [])) fp
  have pg1 := hg1 s3 H3 s3.heap.objs.size (cellsFrom (s3.heap.objs.size + 1) scope.names (cloFrom X.env.cells scope.names [])) fp
  have pt1 := ht1 s3 H3 s3.heap.objs.size (cellsFrom (s3.heap.objs.size + 1) scope.names (cloFrom X.env.cells scope.names [])) fp
  have pk := hk s3 H3 s3.heap.objs.size (cellsFrom (s3.heap.objs.size + 1) scope.names (cloFrom X.env.cells scope.names [])) fp
  have pv := he s3 H3 s3.heap.objs.size (cellsFrom (s3.heap.objs.size + 1) scope.names (cloFrom X.env.cells scope.names [])) fp
  have pg := hg s3 H3 s3.heap.objs.size (cellsFrom (s3.heap.objs.size + 1) scope.names (cloFrom X.env.cells scope.names [])) fp
  have pt := ht s3 H3 s3.heap.objs.size (cellsFrom (s3.heap.objs.size + 1) scope.names (cloFrom X.env.cells scope.names [])) fp
  have t4 : tn 0 (pushCells (s3.heap.push { cls := .type "dict", data := .dict #[] }) scope.names) := T.keep _ _ _ t3 fun b _ o e => pushCells_keeps _ _ _ _ (Heap.get?_push_of_some _ e)
  have hL : (compEnvC scope (cellsFrom (s3.heap.objs.size + 1) scope.names (cloFrom X.env.cells scope.names [])) s3.heap.objs.size X.env).locals = s3.heap.objs.size := rfl
  generalize compEnvC scope (cellsFrom (s3.heap.objs.size + 1) scope.names (cloFrom X.env.cells scope.names [])) s3.heap.objs.size X.env = ce at I4 pi1 pg1 pt1 pk pv pg pt hL ⊢
  have loop : codeAny (model X.prog X.w) X.A (.compLoop (dc2E kx vx t0 i0 ifs0 t1 i1 ifs1 scope pos) 0 (.ref it) (.ref s2.heap.objs.size) ce) (compPost (model X.prog X.w) X.A X.xe none (fun v s' => EP X pins σ Q v s') (.ref s2.heap.objs.size) s3.heap.objs.size)
      { s3 with heap := pushCells (s3.heap.push { cls := .type "dict", data := .dict #[] }) scope.names } := by
    refine clause_loop (X := X.blk s3 H3 scope ce fp) (pins := []) (Fin' := Q (.ref s2.heap.objs.size)) hc rfl (turn_first _ _ _) rfl rfl T pg pt (fun σ' H' s' I' n b hb => ⟨n b hb, (I'.ok.exf b hb).1, I'.ok.exfs b hb, .inl hb, fun x c e => (I'.ok.exf b hb).2 x c e, fun p hp => absurd (show p ∈ ([] : List (Addr × Obj)) ++ [] from hp) (by simp)⟩)
      (fun ps s' σ' H' Q' I' kp q' => sec_run (X := X.blk s3 H3 scope ce fp) rfl hc pk pv pi1 pg1 pt1 (hs1 ce) hv I' kp q') (fun s' H' I' q' => ?_) turn I4 t4 (fun b hb => (f3 b hb).1.1) w0
    -- back in the def's context
    have back : Inv X pins σ H' s' := I3.call' (ch := fp) I'.os I'.base I'.hok I'.bare fun b hb => ⟨(f3 b hb).1.2.2.2.1, (f3 b hb).1.2.1, (f3 b hb).1.2.2.2.2.1, (f3 b hb).1.2.2.2.2.2⟩
    obtain ⟨m, hn, _⟩ := I'.loc
    have free : H' ce.locals = none := I'.free
    have hn : s'.heap.Ns ce.locals m := hn
    rw [hL] at hn free
    obtain ⟨a0, a1, a2, a3, a4, a5⟩ := I3.fpOk (b := s3.heap.objs.size) (H' := H') (Nat.le_refl _) free
    exact ⟨m, hn, fun h'' sb => ⟨.ref s2.heap.objs.size, H', back.turned (t' := s'.toks) (fun b o hb e => (sb.2 b hb).trans e) a0 a1 a3 a4 a5, rfl, q'⟩⟩
  exact codeAny_compStart_dict loop (T.self X.A 0 _ _ _ t4 loop)
end
end M
/-! MPR: dict comprehensions of two clauses, by combinators. -/
namespace M
open PySem L2
/-- the state while a comprehension's dict is built at D -/
structure Bd (A : Act) (D : Addr) (σ : L2.St) (r : Env) (G H : Hp) (ds : List (Val × Val)) : Prop where
  ok : Ok A G H σ r
  kv : ∃ acc, H D = some (.dK acc) ∧ RepK A.w G ds acc
  ng : G D = none
  nr : ¬ Rt r σ D
/-- what happens meanwhile, but for D -/
structure Chg (D : Addr) (σ : L2.St) (r : Env) (G H : Hp) (σ' : L2.St) (r' : Env) (G' H' : Hp) : Prop where
  ex : Le G G'
  keep : ∀ a o, a ≠ D → H a = some o → ¬ Rt r σ a → KpO o (H' a)
  grow : ∀ a, a ≠ D → G a = none → G' a ≠ none → H a = none ∨ Rt r σ a
  rts : ∀ a, Rt r' σ' a → Rt r σ a
theorem Chg.refl {D : Addr} {σ : L2.St} {r : Env} {G H : Hp} : Chg D σ r G H σ r G H := ⟨Le.refl _, fun _ _ _ h _ => KpO.of h, fun _ _ h h' => absurd h h', fun _ h => h⟩
theorem Chg.trans {D : Addr} {σ σ1 σ2 : L2.St} {r r1 r2 : Env} {G H G1 H1 G2 H2 : Hp} (a : Chg D σ r G H σ1 r1 G1 H1) (b : Chg D σ1 r1 G1 H1 σ2 r2 G2 H2) : Chg D σ r G H σ2 r2 G2 H2 where
  ex := a.ex.trans b.ex
  keep := fun x o ne h n => (a.keep x o ne h n).trans fun u e => b.keep x u ne e fun z => n (a.rts x z)
  grow := fun x ne h h' => by
    by_cases g : G1 x = none
    · rcases b.grow x ne g h' with y | y
      · by_cases n : Rt r σ x
        · exact .inr n
        · refine .inl ?_
          cases e : H x with
          | none => rfl
          | some o => obtain ⟨u, e'⟩ := (a.keep x o ne e n).has; rw [e'] at y; cases y
      · exact .inr (a.rts x y)
    · exact a.grow x ne h g
  rts := fun x z => a.rts x (b.rts x z)
theorem Step.chg {D : Addr} {σ : L2.St} {r r' : Env} {G H G' H' : Hp} (s : Step σ r G H r' G' H') : Chg D σ r G H σ r' G' H' := ⟨s.ex, fun a o _ h n => s.keep a o h n, fun a _ h h' => s.grow a h h', s.rts⟩
section
variable {A : Act} {D : Addr} {σ : L2.St} {r : Env} {G H : Hp} {ds : List (Val × Val)}
/-- a step that keeps D -/
theorem Bd.step {r' : Env} {G' H' : Hp} (b : Bd A D σ r G H ds) (k : Ok A G' H' σ r') (s : Step σ r G H r' G' H') : Bd A D σ r' G' H' ds :=
  ⟨k, let ⟨acc, h, q⟩ := b.kv; ⟨acc, s.keep D _ h b.nr, q.mono s.ex⟩, s.none b.ng (let ⟨acc, h, q⟩ := b.kv; by rw [h]; simp) b.nr, fun z => b.nr (s.rts D z)⟩
theorem Bd.wipe {sl : List Nat} (b : Bd A D σ r G H ds) (hio : ∀ i ∈ A.io, i ∉ sl) : Bd A D (L2.wipe σ sl) (wipeR r sl) G H ds := ⟨b.ok.wipe hio, b.kv, b.ng, fun z => b.nr (rt_wipe z)⟩
end
/-- m says what body does to the dict at D -/
def BodyOk (A : Act) (D : Addr) (sl : List Nat) (body : L2.St → Hp → (Hp → Prop) → Prop) (m : List (Val × Val) → Env → DR) : Prop := ∀ (σ : L2.St) (r : Env) (G H : Hp) (ds : List (Val × Val)) (Nx : Hp → Prop), Bd A D σ r G H ds →
  (match m ds r with
    | .ok ds' r' => ∀ σ' G' H', Bd A D σ' r' G' H' ds' → Chg D σ r G H σ' r' G' H' → wipe σ' sl = wipe σ sl → Nx H'
    | _ => False) → body σ H Nx
def clL (t : TF) (c : BF) (m : List (Val × Val) → Env → DR) (sl : List Nat) : List Val → List (Val × Val) → Env → DR
  | [], acc, r => .ok acc r
  | v :: vs, acc, r => match t v r with
    | some r1 => match c r1 with
      | .ok true r2 => match m acc r2 with
        | .ok acc' r3 => clL t c m sl vs acc' (wipeR r3 sl)
        | _ => .bad
      | .ok false r2 => clL t c m sl vs acc (wipeR r2 sl)
      | _ => .bad
    | none => .bad
def layM (fk f : EF) : List (Val × Val) → Env → DR := fun acc r => match frz fk r with
  | .ok _ k r1 => match frz f r1 with
    | .ok _ y r2 => match keyOf k with
      | some q => if acc.length < 100000 then .ok (dPut acc q y) r2 else .bad
      | none => .bad
    | _ => .bad
  | _ => .bad
def secM (fi : IF) (t : TF) (c : BF) (m : List (Val × Val) → Env → DR) (sl : List Nat) : List (Val × Val) → Env → DR := fun acc r => match fi r with
  | .ok vs r1 => clL t c m sl vs acc (wipeR r1 sl)
  | _ => .bad
theorem lay_ok {A : Act} {D : Addr} {sl : List Nat} {fk f : EF} (lD : A.L D ∨ A.H0 D = none) : BodyOk A D sl (tLay D (tE A W0 (frz fk)) (tE A W0 (frz f))) (layM fk f) := fun σ r G H ds Nx b h => by
  refine ⟨r, G, b.ok, ?_⟩
  unfold layM at h
  cases hk : frz fk r with
  | bad => simp only [hk] at h
  | ex e r1 => simp only [hk] at h
  | ok o1 kd r1 =>
    have eo := frz_false hk
    subst eo
    simp only [hk] at h ⊢
    intro x G1 H1 R1
    refine ⟨r1, G1, R1.ok, ?_⟩
    cases hv : frz f r1 with
    | bad => simp only [hv] at h
    | ex e r2 => simp only [hv] at h
    | ok o2 vd r2 =>
      have eo := frz_false hv
      subst eo
      simp only [hv] at h ⊢
      intro y G2 H2 R2
      cases hq : keyOf kd with
      | none => simp only [hq] at h
      | some q =>
        simp only [hq] at h
        by_cases hz : ds.length < 100000
        case neg => rw [if_neg hz] at h; exact h.elim
        rw [if_pos hz] at h
        have st := R1.st.trans R2.st
        have b2 := b.step R2.ok st
        obtain ⟨acc, hacc, rk⟩ := b2.kv
        obtain ⟨ek, hb⟩ := rrep_key (H := H1) (.inl (show Rep A.w G1 kd x from R1.tr)) hq
        refine ⟨acc, q, ek, hacc, by rw [← repK_length rk]; exact Nat.lt_of_lt_of_le hz (by decide), h σ G2 _ ⟨b2.ok.tmp b2.ng (let ⟨_, h, _⟩ := b2.kv; .inr ⟨_, h, True.intro⟩) b2.nr lD, ⟨_, upd_same, repK_put rk hb R2.tr⟩, b2.ng, b2.nr⟩ ⟨st.ex, fun a o ne ha n => ?_, fun a _ ha ha' => st.grow a ha ha', st.rts⟩ rfl⟩
        rw [upd_ne ne]
        exact st.keep a o ha n
theorem clause_ok {A : Act} {D : Addr} {sl st' : List Nat} {t : TF} {c : BF} {m : List (Val × Val) → Env → DR} {body : L2.St → Hp → (Hp → Prop) → Prop} {σ : L2.St} {J : It} {vs : List Val} {G1 : Hp} {r0 : Env} {G0 H0 : Hp} {ds0 : List (Val × Val)} {Fin' : Hp → Prop}
    (tok : TOk st' t) (hs : ∀ j ∈ st', j ∈ sl) (hio : ∀ i ∈ A.io, i ∉ sl) (hb : BodyOk A D sl body m) (io : ItOk A.w J G1 vs) (b0 : Bd A D (wipe σ sl) r0 G0 H0 ds0) (le : Le G1 G0)
    (h : match clL t c m sl vs ds0 r0 with
      | .ok ds' r' => ∀ G' H', Bd A D (wipe σ sl) r' G' H' ds' → Chg D (wipe σ sl) r0 G0 H0 (wipe σ sl) r' G' H' → Fin' H'
      | _ => False) :
    ∃ W : Nat → Nat → Hp → Prop, (∃ m, W 0 m H0) ∧ ∀ i m H, W i m H → (J.stop i H ∧ Fin' H) ∨ (J.go i H ∧ ∃ Nx : Hp → Prop, (∀ H', Nx H' → ∃ m', m' < m ∧ W (i + 1) m' H') ∧
      ∀ x H', J.yld i H x H' → tTg A st' t x (wipe σ sl) H' fun σ2 H2 => Kp (wipe σ sl) σ2 ∧ tBo A W0 c σ2 H2 fun b H3 => if b = true then body σ2 H3 Nx else Nx H3) := by
  let Fl : DR → Prop := fun a => match a with
    | .ok ds' r' => ∀ G' H', Bd A D (wipe σ sl) r' G' H' ds' → Chg D (wipe σ sl) r0 G0 H0 (wipe σ sl) r' G' H' → Fin' H'
    | _ => False
  let Iv : Nat → Hp → Prop := fun i H => ∃ r G ds, Bd A D (wipe σ sl) r G H ds ∧ Chg D (wipe σ sl) r0 G0 H0 (wipe σ sl) r G H ∧ Fl (clL t c m sl (vs.drop i) ds r)
  refine ⟨fun i n H => i ≤ vs.length ∧ n = vs.length - i ∧ Iv i H, ⟨vs.length, Nat.zero_le _, rfl, r0, G0, ds0, b0, Chg.refl, h⟩, ?_⟩
  rintro i n H ⟨hi, hn, r, G, ds, b, ch, fl⟩
  have leG : Le G1 G := le.trans ch.ex
  by_cases hlt : i < vs.length
  · refine .inr ⟨io.go G H i leG b.ok.sub hlt, Iv (i + 1), fun H' q => ⟨vs.length - (i + 1), by omega, hlt, rfl, q⟩, fun x H' hy => ?_⟩
    obtain ⟨G2, gr, rp⟩ := io.yld G H i vs[i] x H' leG b.ok.sub (by simp [hlt]) hy
    have b2 := b.step (b.ok.grow gr) gr.step
    refine ⟨r, G2, vs[i], b2.ok, rp, ?_⟩
    rw [List.drop_eq_getElem_cons hlt, clL] at fl
    cases ht : t vs[i] r with
    | none => simp only [ht] at fl; exact fl.elim
    | some r3 =>
      simp only [ht] at fl ⊢
      intro σ2 k3 hj hl
      have hw := wipe_eq (σ := σ) (σ2 := σ2) hs hj hl
      obtain ⟨tk1, tk2⟩ := tok _ _ _ ht
      have rt3 : ∀ a, Rt r3 σ2 a → Rt r (wipe σ sl) a := fun a ⟨j, w, h1, h2⟩ => by
        by_cases q : j ∈ st'
        · exact absurd h1 (tk2 j q w)
        · exact ⟨j, w, by rw [← tk1 j q]; exact h1, by rw [← hj j q]; exact h2⟩
      have b3 : Bd A D σ2 r3 G2 H' ds := ⟨k3, b2.kv, b2.ng, fun z => b2.nr (rt3 D z)⟩
      have c3 : Chg D (wipe σ sl) r0 G0 H0 σ2 r3 G2 H' := ch.trans (gr.step.chg.trans ⟨Le.refl _, fun _ _ _ h _ => KpO.of h, fun _ _ h h' => absurd h h', rt3⟩)
      -- the turn's end
      have fin : ∀ {σ4 : L2.St} {r4 : Env} {G4 H4 : Hp} {ds4 : List (Val × Val)}, Bd A D σ4 r4 G4 H4 ds4 → Chg D σ2 r3 G2 H' σ4 r4 G4 H4 → wipe σ4 sl = wipe σ2 sl → Fl (clL t c m sl (vs.drop (i + 1)) ds4 (wipeR r4 sl)) → Iv (i + 1) H4 := fun {σ4 r4 G4 H4 ds4} b4 c4 e4 f4 => by
        have e5 : wipe σ4 sl = wipe σ sl := e4.trans hw
        have b5 := b4.wipe (sl := sl) hio
        rw [e5] at b5
        refine ⟨_, G4, ds4, b5, c3.trans (c4.trans ⟨Le.refl _, fun _ _ _ h _ => KpO.of h, fun _ _ h h' => absurd h h', fun a z => rt_wipe (sl := sl) (by rw [e5]; exact z)⟩), f4⟩
      refine ⟨⟨by rw [← hw, wipe_length], fun j v e => by rw [← hw] at e; exact (wipe_some e).1⟩, r3, G2, k3, ?_⟩
      cases hc : c r3 with
      | bad => simp only [hc] at fl; exact fl.elim
      | ex e r4 => simp only [hc] at fl; exact fl.elim
      | ok bb r4 =>
        simp only [hc] at fl ⊢
        intro G4 H4 k4 st4
        have b4 := b3.step k4 st4
        cases bb with
        | false =>
          simp only [Bool.false_eq_true, if_false]
          exact fin b4 st4.chg rfl fl
        | true =>
          simp only [if_true] at fl ⊢
          refine hb σ2 r4 G4 H4 ds _ b4 ?_
          cases hm : m ds r4 with
          | bad => simp only [hm] at fl; exact fl.elim
          | ex e r5 => simp only [hm] at fl; exact fl.elim
          | ok ds5 r5 =>
            simp only [hm] at fl ⊢
            intro σ5 G5 H5 b5 c5 e5
            exact fin b5 (st4.chg.trans c5) e5 fl
  · have e : i = vs.length := by omega
    subst e
    rw [List.drop_length, clL] at fl
    exact .inl ⟨io.stop G H _ leG b.ok.sub (Nat.le_refl _), fl G H b ch⟩

theorem wipe_wipe {σ : L2.St} {sl sl1 : List Nat} (h : ∀ i ∈ sl1, i ∈ sl) : wipe (wipe σ sl1) sl = wipe σ sl :=
  wipe_eq (sl' := sl) (fun _ h => h) (fun j hj => by rw [wipe_out hj, wipe_out fun z => hj (h j z)]) (by rw [wipe_length, wipe_length])
theorem sec_ok {A : Act} {D : Addr} {sl sl1 st1 : List Nat} {fi1 : IF} {t1 : TF} {c1 : BF} {fk f : EF} (lD : A.L D ∨ A.H0 D = none) (tok : TOk st1 t1) (hs : ∀ j ∈ st1, j ∈ sl1) (hio : ∀ i ∈ A.io, i ∉ sl1) (hsl : ∀ i ∈ sl1, i ∈ sl) :
    BodyOk A D sl (tSec D (tIt A W0 fi1) (tTg A st1 t1) (tBo A W0 c1) (tE A W0 (frz fk)) (tE A W0 (frz f)) sl1) (secM fi1 t1 c1 (layM fk f) sl1) := fun σ r G H ds Nx b h => by
  refine ⟨r, G, b.ok, ?_⟩
  unfold secM at h
  cases hf : fi1 r with
  | bad => simp only [hf] at h
  | ex e r1 => simp only [hf] at h
  | ok vs r1 =>
    simp only [hf] at h ⊢
    intro J G1 H1 k1 st1 io
    refine clause_ok tok hs hio (lay_ok lD) io ((b.step k1 st1).wipe hio) (Le.refl _) ?_
    cases hm : clL t1 c1 (layM fk f) sl1 vs ds (wipeR r1 sl1) with
    | bad => simp only [hm] at h
    | ex e r2 => simp only [hm] at h
    | ok ds2 r2 =>
      simp only [hm] at h ⊢
      intro G2 H2 b2 c2
      exact h _ G2 H2 b2 (st1.chg.trans (Chg.trans ⟨Le.refl _, fun _ _ _ h _ => KpO.of h, fun _ _ h h' => absurd h h', fun a z => rt_wipe z⟩ c2)) (wipe_wipe hsl)
def dc2 (fi : IF) (t : TF) (c : BF) (fi1 : IF) (t1 : TF) (c1 : BF) (fk f : EF) (sl sl1 : List Nat) : EF := fun r => match fi r with
  | .ok vs r1 => match clL t c (secM fi1 t1 c1 (layM fk f) sl1) sl vs [] (wipeR r1 sl) with
    | .ok ys r2 => .ok true (.dct false ys) (restR r1 r2 sl)
    | _ => .bad
  | .ex e r1 => .ex e r1
  | .bad => .bad
theorem dc2_of {A : Act} {W : WX} {fi fi1 : IF} {t t1 : TF} {c c1 : BF} {fk f : EF} {sl sl1 st' st1 : List Nat} {σ : L2.St} {H : Hp} {Q : VK} (tok : TOk st' t) (hs : ∀ j ∈ st', j ∈ sl) (hio : ∀ i ∈ A.io, i ∉ sl) (tok1 : TOk st1 t1) (hs1 : ∀ j ∈ st1, j ∈ sl1) (hsl : ∀ i ∈ sl1, i ∈ sl)
    (h : tE A W (dc2 fi t c fi1 t1 c1 fk f sl sl1) σ H Q) :
    tDc2 (tIt A W fi) (tTg A st' t) (tBo A W0 c) (tIt A W0 fi1) (tTg A st1 t1) (tBo A W0 c1) (tE A W0 (frz fk)) (tE A W0 (frz f)) sl sl1 σ H Q := by
  obtain ⟨r, G, k, m⟩ := h
  refine ⟨r, G, k, ?_⟩
  unfold dc2 at m
  cases hf : fi r with
  | bad => rw [hf] at m; exact m.elim
  | ex e r' => rw [hf] at m; exact m
  | ok vs r1 =>
    simp only [hf] at m ⊢
    intro J G1 H1 k1 st1 io D hD
    have lD : A.L D ∨ A.H0 D = none := k1.fresh hD
    have b0 : Bd A D (wipe σ sl) (wipeR r1 sl) G1 (upd H1 D (.dK [])) [] :=
      ⟨(k1.wipe (sl := sl) hio).grow (Grow.laidH (o := .dK []) k1.sub hD), ⟨[], upd_same, repK_nil0⟩, k1.sub.back hD, (k1.wipe (sl := sl) hio).notRt hD⟩
    refine clause_ok tok hs hio (sec_ok lD tok1 hs1 (fun i hi z => hio i hi (hsl i z)) hsl) io b0 (Le.refl _) ?_
    cases hm : clL t c (secM fi1 t1 c1 (layM fk f) sl1) sl vs [] (wipeR r1 sl) with
    | bad => simp only [hm] at m
    | ex e r2 => simp only [hm] at m
    | ok ys r2 =>
      simp only [hm] at m ⊢
      intro G2 H2 b2 c2
      have st2 : Step (wipe σ sl) (wipeR r1 sl) G1 H1 r2 G2 H2 := ⟨c2.ex, fun a o ha n => c2.keep a o (ne_of_none ha hD) (by rw [upd_ne (ne_of_none ha hD)]; exact ha) n, fun a ha ha' => by
        have ne : a ≠ D := fun z => ha' (by rw [z]; exact b2.ng)
        have := c2.grow a ne ha ha'
        rw [upd_ne ne] at this
        exact this, c2.rts⟩
      obtain ⟨k3, st3⟩ := k1.unwipe b2.ok st2
      obtain ⟨acc, hacc, rk⟩ := b2.kv
      refine m (.ref D) G2 H2 ⟨k3, st1.trans st3, trep_t (root_dK hacc rk) b2.ng (fun z => ?_) lD, fun _ a e => by cases e; exact st1.fresh hD⟩
      rcases k1.rt (st3.rts D z) with ⟨⟨o, ho⟩, _⟩
      rw [hD] at ho; cases ho
section
variable {X : Cx} {A : Act} {W : WX} {kx vx t0 i0 t1 i1 : Expr} {ifs0 ifs1 : List Expr} {scope : Scope} {own : List (Str × Nat)} {pos : Pos} {fi fi1 : IF} {t t2 : TF} {c c1 : BF} {fk f : EF} {st' st1 sl sl1 : List Nat}
theorem pe_dc2M (hc : X.calm = true) (hN : X.N.Nodup) (hi : PI X t0 i0 (tIt A W fi)) (ok : BlkOk X.N X.env.scope scope own)
    (hg : ∀ (s : Shared) (H : Hp) (C : Addr) (cl : List (Str × Addr)) (fp : List Addr), PG (X.blk s H scope (compEnvC scope cl C X.env) fp) t0 (tTg A st' t))
    (ht : ∀ (s : Shared) (H : Hp) (C : Addr) (cl : List (Str × Addr)) (fp : List Addr), PTs (X.blk s H scope (compEnvC scope cl C X.env) fp) ifs0 (tBo A W0 c))
    (hi1 : ∀ (s : Shared) (H : Hp) (C : Addr) (cl : List (Str × Addr)) (fp : List Addr), PI (X.blk s H scope (compEnvC scope cl C X.env) fp) t1 i1 (tIt A W0 fi1))
    (hg1 : ∀ (s : Shared) (H : Hp) (C : Addr) (cl : List (Str × Addr)) (fp : List Addr), PG (X.blk s H scope (compEnvC scope cl C X.env) fp) t1 (tTg A st1 t2))
    (ht1 : ∀ (s : Shared) (H : Hp) (C : Addr) (cl : List (Str × Addr)) (fp : List Addr), PTs (X.blk s H scope (compEnvC scope cl C X.env) fp) ifs1 (tBo A W0 c1))
    (hk : ∀ (s : Shared) (H : Hp) (C : Addr) (cl : List (Str × Addr)) (fp : List Addr), PE (X.blk s H scope (compEnvC scope cl C X.env) fp) kx (tE A W0 fk))
    (he : ∀ (s : Shared) (H : Hp) (C : Addr) (cl : List (Str × Addr)) (fp : List Addr), PE (X.blk s H scope (compEnvC scope cl C X.env) fp) vx (tE A W0 f))
    (tok : TOk st' t) (hs' : ∀ j ∈ st', j ∈ sl) (tok1 : TOk st1 t2) (hs1' : ∀ j ∈ st1, j ∈ sl1) (hv : ∀ i ∈ sl1, i ∈ sl) (hio : ∀ i ∈ A.io, i ∉ sl) (hsl : own.map (·.2) = sl := by rfl)
    (hs : ∀ x, foldedSetIterable i0 X.env x = pure x := by intro _; rfl) (hs1 : ∀ env x, foldedSetIterable i1 env x = pure x := by intro _ _; rfl) :
    PE X (.DictComp kx vx [⟨t0, i0, ifs0, 0⟩, ⟨t1, i1, ifs1, 0⟩] scope pos) (tE A W (dc2 fi t c fi1 t2 c1 fk f sl sl1)) := by
  subst hsl
  exact PE.imp (pe_dc2 hc hN hi ok hv hg ht hi1 hg1 ht1 (fun s H C cl fp => pe_frz (hk s H C cl fp)) (fun s H C cl fp => pe_frz (he s H C cl fp)) hs hs1) fun _ _ _ q => dc2_of tok hs' hio tok1 hs1' hv q
end
end M
/-! MPJ: f-strings. -/
namespace M
open PySem L2
def Pfmt : List Val → Option (Bool × Val)
  | [.str s] => some (false, .str s)
  | [.int i] => if i.natAbs.log2 < 1920 ∧ (toString i : Str).length ≤ sizeLine then some (false, .str (toString i)) else none
  | _ => none
def fsL : List EF → Str → EF
  | [], acc, r => .ok false (.str acc) r
  | f :: fs, acc, r => match f r with
    | .ok _ (.str y) r1 => if (acc ++ y).length ≤ sizeLine then fsL fs (acc ++ y) r1 else .bad
    | .ok _ _ _ => .bad
    | .ex e r1 => .ex e r1
    | .bad => .bad
def fstr (fs : List EF) : EF := fsL fs Str.empty
section
variable {X : Cx} {A : Act} {W : WX} {pos : Pos}
theorem pe_fmtM {e : Expr} {fo : OF} (he : PE X e (tO A W fo)) : PE X (.FormattedValue e (-1) none pos) (tE A W (prim Pfmt (osCons fo osNil))) :=
  PE.imp (pe_fmt he) fun σ H Q q => by
    have q1 := prim_os1 q
    obtain ⟨r, G, k, m⟩ := q1
    refine ⟨r, G, k, ?_⟩
    cases hf : fo r with
    | bad => simp only [hf] at m
    | ex e r' => simp only [hf] at m ⊢; exact m
    | ok h r1 =>
      simp only [hf] at m ⊢
      intro x G1 H1 k1 st1 t1
      obtain ⟨G2, vs, o, z, le, rr, hp, q2⟩ := m x G1 H1 k1 st1 t1
      unfold Pfmt at hp
      split at hp
      · obtain ⟨y, e, r1⟩ := rreps_one rr
        cases e; cases hp
        obtain ⟨rfl, hz⟩ := rrep_str r1
        exact .inl ⟨_, rfl, hz, str_new le hz q2⟩
      · split at hp
        · rename_i hb
          obtain ⟨y, e, r1⟩ := rreps_one rr
          cases e; cases hp
          obtain rfl := rrep_int r1
          exact .inr ⟨_, rfl, hb.1, str_new le hb.2 q2⟩
        · cases hp
      · cases hp
theorem fs_of {σ : L2.St} : ∀ {fs : List EF} {acc : Str} {r : Env} {G H : Hp} {Q : VK}, Ok A G H σ r → acc.length ≤ sizeLine →
    (match fsL fs acc r with
      | .ok o v r' => ∀ x G' H', Res A σ r G H r' G' H' o v x → Q x H'
      | .ex e r' => ExP A W G σ e r'
      | .bad => False) → tJs (fs.map fun f => tE A W (frz f)) acc σ H fun out H1 => Q (.str out) H1
  | [], acc, r, G, H, Q, k, hz, m => m (.str acc) G H ⟨k, Step.refl, (show Rep A.w G (.str acc) (.str acc) from rep_str.mpr ⟨rfl, hz⟩), fun z => nomatch z⟩
  | f :: fs, acc, r, G, H, Q, k, hz, m => by
    show tE A W (frz f) σ H fun x H1 => ∃ y : Str, x = .str y ∧ (acc ++ y).length ≤ sizeLine ∧ tJs (fs.map fun f => tE A W (frz f)) (acc ++ y) σ H1 _
    refine ⟨r, G, k, ?_⟩
    simp only [fsL] at m
    unfold frz
    cases hf : f r with
    | bad => simp only [hf] at m
    | ex e r1 => simp only [hf] at m ⊢; exact m
    | ok o v r1 =>
      simp only [hf] at m ⊢
      intro x G1 H1 R1
      cases v with
      | str y =>
        simp only at m
        by_cases hb : (acc ++ y).length ≤ sizeLine
        case neg => rw [if_neg hb] at m; exact m.elim
        rw [if_pos hb] at m
        obtain ⟨rfl, _⟩ := rep_str.mp (show Rep A.w G1 (.str y) x from R1.tr)
        refine ⟨y, rfl, hb, fs_of R1.ok hb ?_⟩
        cases h2 : fsL fs (acc ++ y) r1 with
        | bad => simp only [h2] at m
        | ex e r2 => simp only [h2] at m ⊢; exact m.mono R1.st.ex
        | ok o2 v2 r2 =>
          simp only [h2] at m ⊢
          intro z G2 H2 R2
          refine m z G2 H2 ⟨R2.ok, R1.st.trans R2.st, R2.tr, fun e a ea => ?_⟩
          rcases R2.fr e a ea with y | y
          · exact R1.st.fresh y
          · exact .inr (R1.st.rts a y)
      | _ => exact m.elim
theorem pj_Nil : PJ X [] (([] : List EF).map fun f => tE A W (frz f)) := .nil
theorem pj_Cons {e : Expr} {es : List Expr} {f : EF} {fs : List EF} (h : PE X e (tE A W f)) (r : PJ X es (fs.map fun f => tE A W (frz f))) : PJ X (e :: es) ((f :: fs).map fun f => tE A W (frz f)) := .cons (pe_frz h) r
theorem pe_fstr {v1 v2 : Expr} {rest : List Expr} {fs : List EF} (h : PJ X (v1 :: v2 :: rest) (fs.map fun f => tE A W (frz f))) : PE X (.JoinedStr (v1 :: v2 :: rest) pos) (tE A W (fstr fs)) :=
  PE.imp (pe_joined h) fun σ H Q ⟨r, G, k, m⟩ => fs_of k (Nat.zero_le _) m
theorem pe_fstr1 {e : Expr} {f : EF} (h : PE X e (tE A W f)) : PE X (.JoinedStr [e] pos) (tE A W f) := pe_joined1 h
end
end M
/-! MPN: name = {k: v for ..} on one line; what the walk of classes leans on. -/
namespace M
open PySem L2
theorem sw_trueD {kx vx : Expr} {gs : List Comprehension} {scope : Scope} {pos py : Pos} {y : Str} {l : Nat} {env : PySem.Env} (hk : env.scope.kind = .function) (hy : env.scope.names.lookup y = some .local) (hl : (py.line == pos.line) = true)
    (ha : (scope.names.any fun (n, k) => n == y && (k == .local || k == .cell)) = false) : swapsWith (.DictComp kx vx gs scope pos) (some (.Name y py)) l env = pure true := by
  have hb : env.blockKind = .function := by unfold PySem.Env.blockKind; rw [hk]; rfl
  unfold swapsWith
  simp only [hb, show env.kindOf y = some .local from hy, ha, Expr.pos, hl]
  rfl
section
variable {X : Cx} {A : Act} {W : WX} {kx vx tg iter : Expr} {ifs : List Expr} {scope : Scope} {own : List (Str × Nat)} {pos spos : Pos} {fi : IF} {t : TF} {c : BF} {fk f : EF} {st' sl : List Nat}
theorem ps_asgDc {i : Nat} {y : Str} {py : Pos} (hc : X.calm = true) (hN : X.N.Nodup) (hy : X.N[i]? = some y) (hyl : X.env.scope.names.lookup y = some .local) (hyi : i ∉ A.io)
    (hsw : swapsWith (.DictComp kx vx [⟨tg, iter, ifs, 0⟩] scope pos) (some (.Name y py)) spos.line X.env = pure true) (hi : PI X tg iter (tIt A W fi)) (ok : BlkOk X.N X.env.scope scope own)
    (hg : ∀ (s : Shared) (H : Hp) (C : Addr) (cl : List (Str × Addr)) (fp : List Addr), PG (X.blk s H scope (compEnvC scope cl C X.env) fp) tg (tTg A st' t))
    (ht : ∀ (s : Shared) (H : Hp) (C : Addr) (cl : List (Str × Addr)) (fp : List Addr), PTs (X.blk s H scope (compEnvC scope cl C X.env) fp) ifs (tBo A W0 c))
    (hk : ∀ (s : Shared) (H : Hp) (C : Addr) (cl : List (Str × Addr)) (fp : List Addr), PE (X.blk s H scope (compEnvC scope cl C X.env) fp) kx (tE A W0 fk))
    (he : ∀ (s : Shared) (H : Hp) (C : Addr) (cl : List (Str × Addr)) (fp : List Addr), PE (X.blk s H scope (compEnvC scope cl C X.env) fp) vx (tE A W0 f))
    (tok : TOk st' t) (hs' : ∀ j ∈ st', j ∈ sl) (hio : ∀ i ∈ A.io, i ∉ sl) (hsl : own.map (·.2) = sl := by rfl) (hs : ∀ x, foldedSetIterable iter X.env x = pure x := by intro _; rfl) :
    PS X (.Assign [.Name y py] (.DictComp kx vx [⟨tg, iter, ifs, 0⟩] scope pos) spos) (tSt A W (asg i (dc fi t c fk f sl))) := by
  subst hsl
  refine ⟨fun pins s σ H D I h => ?_⟩
  have h2 : tDc (tIt A W fi) (tTg A st' t) (tBo A W0 c) (tE A W0 (frz fk)) (tE A W0 (frz f)) (own.map (·.2)) σ H (fun x H1 => gName i x σ H1 D.nx) := by
    obtain ⟨r, G, k, m⟩ := tSt_iff.mp h
    refine dc_of tok hs' hio ⟨r, G, k, ?_⟩
    unfold asg at m
    cases hf : dc fi t c fk f (own.map (·.2)) r with
    | bad => rw [hf] at m; exact m.elim
    | ex e r' => simp only [hf] at m ⊢; exact m σ
    | ok o v r' => simp only [hf] at m ⊢; exact fun x G' H' R => m _ G' H' (R.ok.store R.tr hyi) R.st.ex
  rw [exec_Assign_Name_used _ _ _ _ hsw]
  refine wpAny_bind (wpAny_standAt (wpAny_bind ?_))
  show wpAny _ X.A (do let _ ← comprehension (.DictComp kx vx [⟨tg, iter, ifs, 0⟩] scope pos) scope X.env (firstIterPos [⟨tg, iter, ifs, 0⟩] pos) newDict false (eval iter X.env) (some (assign (.Name y py) X.env))) _ _ s
  refine wpAny_bind (thn (dc_core (Qf := fun _ s' => SP X pins D .next s') hc hN I hi ok hg ht (fun s H C cl fp => pe_frz (hk s H C cl fp)) (fun s H C cl fp => pe_frz (he s H C cl fp)) hs h2 fun L C s' m H' I' q hn fp => ?_) fun _ s' hq => wpAny_pure (wpAny_pure hq))
  obtain ⟨a0, a1, a2, a3, a4, a5⟩ := fp
  show wpAny _ _ (assign (.Name y py) X.env (.ref L)) _ _ _
  refine wpAny_assign_Name (store_ok2 (v := V.ref L) I' hN hy (.inl hyl) rfl (fun s2 I2 ⟨a, sb, ha⟩ => ?_) (.inr hyl))
  have ne : C ≠ a := ha.elim (fun z => by rw [z]; exact a1) fun z e => a4 y a z e.symm
  exact ⟨m, hn.sameBut sb ne, fun h3 sb3 => ⟨_, H', I2.turned (t' := s2.toks) (fun b o hb e => (sb3.2 b hb).trans e) a0 a1 a3 a4 a5, q⟩⟩
end
/-! ### classes -/
/-- the world of a module whose classes stand under their names -/
def cmK (K : PySem.W.Frag) : Str → Option Addr := fun c => some (He.ga K c)
section
variable {X : Cx} {wd : Wd} {lvl lv n : Nat} {m c q x : Str} {st : Stmt} {ps : List Str} {g : GF} {C f : Addr}
theorem mth_of (d : DefQ X.prog X.w X.K X.mg X.base wd lv m q st ps g f) (hk : lv ≤ lvl) (hC : wd.CM c = some C) (cl : Cls X.K C) (me : Meth X.K C m f) (hn : ps.length = n := by rfl) : MthOk X wd lvl m c n g := ⟨⟨_, _, hC, cl, me, d.fnP hk hn⟩⟩
theorem prp_of {p : Addr} (d : DefQ X.prog X.w X.K X.mg X.base wd lv m q st ps g f) (hk : lv ≤ lvl) (hC : wd.CM c = some C) (cl : Cls X.K C) (po : PropOf X.K C m p f) (hn : ps.length = n := by rfl) : PrpOk X wd lvl m c n g := ⟨⟨_, _, _, hC, cl, po, d.fnP hk hn⟩⟩
theorem mk_of (d : DefQ X.prog X.w X.K X.mg X.base wd lv x q st ps g f) (hk : lv ≤ lvl) (hC : wd.CM c = some C) (mo : Mk X.K C f) (hn : ps.length = n := by rfl) : MkOk X wd lvl c n g := ⟨⟨_, _, hC, mo, d.fnP hk hn⟩⟩
theorem mk_ofP (F : FnP X.prog X.w X.K X.mg X.base (L2.CX X.prog X.w) lv f (spF wd n g)) (hk : lv ≤ lvl) (hC : wd.CM c = some C) (mo : Mk X.K C f) : MkOk X wd lvl c n g := ⟨⟨_, _, hC, mo, F.up hk⟩⟩
theorem cmt_of {mc : Value} {p : Addr} (d : DefQ X.prog X.w X.K X.mg X.base wd lv m q st ps g f) (hk : lv ≤ lvl) (hC : wd.CM c = some C) (cr : ClX.CRead X.K C mc) (cm : ClX.CMet X.K C mc m p f) (hn : ps.length = n := by rfl) : CmtOk X wd lvl m c n g := ⟨⟨_, _, _, _, hC, cr, cm, d.fnP hk hn⟩⟩
theorem fld_nil {f : Str} : FldOk wd [] f := fun _ h => nomatch h
theorem fld_cons {cs : List Str} {f : Str} (hC : wd.CM c = some C) (cl : Cls wd.K C) (na : NoAttr wd.K C f) (h : FldOk wd cs f) : FldOk wd (c :: cs) f := fun d hd => (List.mem_cons.mp hd).elim (fun z => by subst z; exact ⟨C, hC, cl, na⟩) (h d)
end
theorem bf_sorted : bootBuiltins "sorted" = some (.builtin "sorted") := by decide +kernel
theorem bf_sum : bootBuiltins "sum" = some (.builtin "sum") := by decide +kernel
/-- ps_whl' with the bound found by the goal (an explicit argument behind the proofs would keep the elaborator from looking at the goal first) -/
theorem ps_whlN {X : Cx} {A : Act} {W : WX} {c : BF} {f : SF} {t : Expr} {body : List Stmt} {pos : Pos} {n : Nat} (hp : PassesOwn (model X.prog X.w) X.A X.env X.xe) (hc : PT X t (tBo A W c)) (hb : PSs X body (tSt A W f)) : PS X (.While t body [] pos) (tSt A W (whl c f n)) := ps_whl' hp hc hb n
end M
/-! MPDQ: == and != of dicts whose values are data. -/
namespace M
open PySem L2
def eqD1 (v u : Val) : Option Bool := match toD v, toD u with
  | some d, some e => if shp d = true ∧ shp e = true then some (PyData.eqv d e) else none
  | _, _ => none
def eqDL (es : List (Val × Val)) : List (Val × Val) → Option Bool
  | [] => some true
  | (k, v) :: ds => match keyOf k with
    | some q => match dGet es q with
      | some u => match eqD1 v u, eqDL es ds with
        | some b, some b' => some (b && b')
        | _, _ => none
      | none => some false
    | none => none
def PeqDD : List Val → Option (Bool × Val)
  | [.dct false ds, .dct false es] => (eqDL es ds).map fun b => (false, .bl (ds.length == es.length && b))
  | _ => none
def PneDD : List Val → Option (Bool × Val)
  | [.dct false ds, .dct false es] => (eqDL es ds).map fun b => (false, .bl (!(ds.length == es.length && b)))
  | _ => none
section
variable {X : Cx} {w : Wd} {G H : Hp}
theorem hits_of {pins : List (Addr × Obj)} {σ : L2.St} {s : Shared} (c : Cal X w) (I : Inv X pins σ H s) (le : Le G H) {es : List (Val × Val)} {kvs' : List (Key × V)} {kb : List (Key × Value)} (re : RepK w G es kvs') (ke : KV kvs' kb) :
    ∀ {ds : List (Val × Val)} {kvs : List (Key × V)} {vs : List (Key × Value)} {b : Bool}, RepK w G ds kvs → KV kvs vs → eqDL es ds = some b → PySem.W.KeqHits X.A.in1 s kb vs b
  | [], _, vs, b, r, kv, h => by
    rw [RepK] at r; subst r
    cases kv
    simp only [eqDL, Option.some.injEq] at h
    subst h
    exact .nil
  | (k, d) :: ds, _, vs, b, r, kv, h => by
    rw [RepK] at r
    obtain ⟨q, y, ys, rfl, ⟨rfl, _⟩, r1, r2⟩ := r
    cases kv with
    | @cons _ p _ vs' h1 t =>
      obtain ⟨e1, e2⟩ := h1
      obtain ⟨pk, pv⟩ := p
      have e1 : q = pk := e1
      subst e1
      have hq : keyOf (M.kv q) = some q := by cases q <;> rfl
      rw [eqDL, hq] at h
      dsimp only at h
      obtain ⟨g1, g2⟩ := repK_get q re
      have kq := ke.val q
      cases hg : dGet es q with
      | none =>
        rw [hg] at h
        simp only [Option.some.injEq] at h
        subst h
        rw [g2 hg] at kq
        refine .miss ?_
        cases hv : valueAt kb q with
        | none => rfl
        | some u => rw [hv] at kq; exact kq.elim
      | some u =>
        rw [hg] at h
        dsimp only at h
        obtain ⟨x, hx, rx⟩ := g1 u hg
        rw [hx] at kq
        cases hv : valueAt kb q with
        | none => rw [hv] at kq; exact kq.elim
        | some z =>
          rw [hv] at kq
          cases h3 : eqD1 d u with
          | none => rw [h3] at h; cases h
          | some b1 =>
            cases h4 : eqDL es ds with
            | none => rw [h3, h4] at h; cases h
            | some b2 =>
              rw [h3, h4] at h
              simp only [Option.some.injEq] at h
              subst h
              unfold eqD1 at h3
              split at h3
              · rename_i dd de h5 h6
                split at h3
                · rename_i hs
                  cases h3
                  obtain ⟨as, ra⟩ := Dp.reads I dd y pv (dp_of c.K le r1 h5) e2
                  obtain ⟨bs, rb⟩ := Dp.reads I de x z (dp_of c.K le rx h6) kq
                  refine .hit hv ?_ (hits_of c I le re ke r2 t h4)
                  exact PySem.W.keq_at ra rb hs.1 hs.2 (by have := c.un; show X.A.units + 1 + 64 < cLine; omega)
                · cases h3
              · cases h3
theorem opr_eqDD (c : Cal X w) : OpR X (compareOp .Eq) (r2Of w PeqDD) := by
  intro pins s σ H x y v u Q I rx ry ⟨G, vs, o, z, le, rr, hp, q⟩
  unfold PeqDD at hp
  split at hp
  · rename_i ds es
    obtain ⟨_, _, e, r1, r2⟩ := rreps_two rr
    cases e
    rw [Option.map_eq_some_iff] at hp
    obtain ⟨b, hb, e⟩ := hp
    cases e
    obtain ⟨a1, rfl, ⟨_, kvs, hk, rk⟩ | ⟨z, _⟩⟩ := rrep_dct le r1
    · obtain ⟨a2, rfl, ⟨_, kvs', hk', rk'⟩ | ⟨z, _⟩⟩ := rrep_dct le r2
      · obtain ⟨_, s1, vs1, kv1, d1⟩ := dk_rd I.hok hk
        obtain ⟨_, s2, vs2, kv2, d2⟩ := dk_rd I.hok hk'
        obtain rfl : v = Value.ref a1 := rx
        obtain rfl : u = Value.ref a2 := ry
        refine PySem.W.keq_eq s1 s2 d1 d2 (by have := c.un; omega) (fun _ => hits_of c I le rk' kv2 rk kv1 hb) ?_
        rw [show (vs1.length == vs2.length) = (ds.length == es.length) by rw [← kv1.length, ← kv2.length, ← repK_length rk, ← repK_length rk']]
        exact ⟨.bl _, H, I, rfl, bl_new le q⟩
      · cases z
    · cases z
  · cases hp
theorem opr_neDD (c : Cal X w) : OpR X (compareOp .NotEq) (r2Of w PneDD) := by
  intro pins s σ H x y v u Q I rx ry ⟨G, vs, o, z, le, rr, hp, q⟩
  unfold PneDD at hp
  split at hp
  · rename_i ds es
    obtain ⟨_, _, e, r1, r2⟩ := rreps_two rr
    cases e
    rw [Option.map_eq_some_iff] at hp
    obtain ⟨b, hb, e⟩ := hp
    cases e
    obtain ⟨a1, rfl, ⟨_, kvs, hk, rk⟩ | ⟨z, _⟩⟩ := rrep_dct le r1
    · obtain ⟨a2, rfl, ⟨_, kvs', hk', rk'⟩ | ⟨z, _⟩⟩ := rrep_dct le r2
      · obtain ⟨_, s1, vs1, kv1, d1⟩ := dk_rd I.hok hk
        obtain ⟨_, s2, vs2, kv2, d2⟩ := dk_rd I.hok hk'
        obtain rfl : v = Value.ref a1 := rx
        obtain rfl : u = Value.ref a2 := ry
        refine PySem.W.keq_ne s1 s2 d1 d2 (by have := c.un; omega) (fun _ => hits_of c I le rk' kv2 rk kv1 hb) ?_
        rw [show (vs1.length == vs2.length) = (ds.length == es.length) by rw [← kv1.length, ← kv2.length, ← repK_length rk, ← repK_length rk']]
        exact ⟨.bl _, H, I, rfl, bl_new le q⟩
      · cases z
    · cases z
  · cases hp
end
def PeqY := orP PeqX PeqDD
def PneY := orP PneX PneDD
theorem opr_eqY {X : Cx} {w : Wd} (c : Cal X w) : OpR X (compareOp .Eq) (r2Of w PeqY) := opr_or (opr_eqX c) (opr_eqDD c)
theorem opr_neY {X : Cx} {w : Wd} (c : Cal X w) : OpR X (compareOp .NotEq) (r2Of w PneY) := opr_or (opr_neX c) (opr_neDD c)
/-! dicts with text keys whose values are lists of texts -/
/-- the dict ps as a function -/
theorem eqDL_sd (f : Str → List Str) (es : List (Str × Val)) (hf : ∀ k u, es.lookup k = some u → ∃ l : List Str, u = .lst (l.map .str) ∧ ∀ s ∈ l, CpOk s) :
    ∀ ks : List Str, (∀ k ∈ ks, ∀ s ∈ f k, CpOk s) → ∃ b, eqDL (sd es) (sd (ks.map fun k => (k, .lst ((f k).map .str)))) = some b ∧ (b = true ↔ ∀ k ∈ ks, es.lookup k = some (.lst ((f k).map .str)))
  | [], _ => ⟨true, rfl, by simp⟩
  | k :: ks, hk => by
    obtain ⟨b, e, hb⟩ := eqDL_sd f es hf ks fun k' h => hk k' (List.mem_cons_of_mem _ h)
    simp only [List.map_cons, sd]
    rw [eqDL]
    simp only [keyOf]
    have hg := dGet_sd k es
    simp only [sd] at hg e ⊢
    rw [hg]
    cases hl : es.lookup k with
    | none =>
      refine ⟨false, rfl, ?_⟩
      simp [hl]
    | some u =>
      obtain ⟨l, rfl, hc⟩ := hf k u hl
      have e1 : eqD1 (.lst ((f k).map .str)) (.lst (l.map .str)) = some (PyData.eqv (.list ((f k).map .str)) (.list (l.map .str))) := by
        simp only [eqD1, toD, toDs_strs, Option.map_some]
        rw [if_pos ⟨shp_strs _ (hk k (by simp)), shp_strs _ hc⟩]
      simp only [e1, e]
      refine ⟨_, rfl, ?_⟩
      have e2 : PyData.eqv (.list ((f k).map .str)) (.list (l.map .str)) = true ↔ l = f k := by
        have key : ∀ a b : List Str, PyData.eqvAll (a.map .str) (b.map .str) = true ↔ b = a := by
          intro a
          induction a with
          | nil => intro b; cases b <;> simp [PyData.eqvAll]
          | cons x a ih =>
            intro b
            cases b with
            | nil => simp [PyData.eqvAll]
            | cons z b => simp only [List.map_cons, PyData.eqvAll, Bool.and_eq_true, ih, eqv_str, beq_iff_eq, List.cons.injEq]; exact ⟨fun h => ⟨h.1.symm, h.2⟩, fun h => ⟨h.1.symm, h.2⟩⟩
        simp only [PyData.eqv]
        exact key _ _
      rw [Bool.and_eq_true, e2, hb]
      simp only [List.mem_cons, forall_eq_or_imp, hl, Option.some.injEq, Val.lst.injEq]
      have e3 : l = f k ↔ l.map Val.str = (f k).map Val.str := ⟨fun h => by rw [h], fun h => by
        have := congrArg (List.map unstr) h
        rwa [unstr_map, unstr_map] at this⟩
      rw [e3]
end M
/-! MPWN: reading with continuations: objects, dicts, f-strings. -/
namespace M
open PySem L2
section
variable {r : Env} {i n : Nat} {f fk fv : EF} {fo : OF} {fs : OsF} {g : AF} {tbl : Tbl} {m c : Str} {gf : GF} {cs : List Str}
def koCl1 (c m : Str) (h : Hd) (r : Env) (Q : OR → Prop) : Option Val → Prop
  | some (.obj c' fs) => (if c' = c ∧ fs.lookup m = none then Q (.ok h r) else Q .bad)
  | _ => Q .bad
def koCl (c m : Str) (Q : OR → Prop) : OR → Prop
  | .ok h r1 => koCl1 c m h r1 Q (h.get r1)
  | .ex e r1 => Q (.ex e r1)
  | .bad => Q .bad
theorem wO_Cl {Q : OR → Prop} : wO (oCl c m fo) r Q = wO fo r (koCl c m Q) := by
  unfold wO oCl
  cases fo r with
  | ok h r1 =>
    simp only [koCl]
    cases h.get r1 with
    | none => rfl
    | some v =>
      cases v with
      | obj c' xs => simp only [koCl1]; split <;> rfl
      | _ => rfl
  | _ => rfl
def kcm2 (c m : Str) (fo : OF) (fs : OsF) (r : Env) (Q : ER → Prop) : Option (Nat × GF) → Prop
  | some (n, g) => wE (callG n g (osCons (oCl c m fo) fs)) r Q
  | none => Q .bad
def kcm1 (tbl : Tbl) (m : Str) (fo : OF) (fs : OsF) (r : Env) (Q : ER → Prop) : Option Val → Prop
  | some (.obj c _) => kcm2 c m fo fs r Q (tbl.lookup c)
  | _ => Q .bad
def kcm (tbl : Tbl) (m : Str) (fo : OF) (fs : OsF) (r : Env) (Q : ER → Prop) : OR → Prop
  | .ok h r1 => kcm1 tbl m fo fs r Q (h.get r1)
  | .ex e r1 => Q (.ex e r1)
  | .bad => Q .bad
theorem wE_callM {Q : ER → Prop} : wE (callM tbl m fo fs) r Q = wO fo r (kcm tbl m fo fs r Q) := by
  unfold wE wO callM
  cases fo r with
  | ok h r1 =>
    simp only [kcm]
    cases h.get r1 with
    | none => rfl
    | some v =>
      cases v with
      | obj c xs =>
        simp only [kcm1]
        cases tbl.lookup c with
        | none => rfl
        | some p => rfl
      | _ => rfl
  | _ => rfl
def knoX (Q : ER → Prop) : ER → Prop
  | .ok o v r' => Q (.ok o v r')
  | .ex _ _ => Q .bad
  | .bad => Q .bad
theorem wE_noX {Q : ER → Prop} : wE (noX f) r Q = wE f r (knoX Q) := by unfold wE noX; cases f r <;> rfl
def kmk3 (r1 : Env) (Q : ER → Prop) : Bool → Val → Option (Bool × Val) → Prop
  | false, .non, some (true, v) => Q (.ok true v r1)
  | _, _, _ => Q .bad
def kmk2 (r1 : Env) (Q : ER → Prop) : GR → Prop
  | .ok o z out => kmk3 r1 Q o z out
  | .ex e _ => Q (.ex e r1)
  | .bad => Q .bad
def kmk1 (c : Str) (n : Nat) (g : GF) (r1 : Env) (Q : ER → Prop) : Option (List (Bool × Val)) → Prop
  | some as => (if lents as = 0 ∧ as.length + 1 = n then wG g ((true, .obj c []) :: as) (kmk2 r1 Q) else Q .bad)
  | none => Q .bad
def kmk (c : Str) (n : Nat) (g : GF) (Q : ER → Prop) : OsR → Prop
  | .ok hs r1 => kmk1 c n g r1 Q (lend r1 hs)
  | .ex e r1 => Q (.ex e r1)
  | .bad => Q .bad
theorem wE_mkC {Q : ER → Prop} : wE (mkC c n gf fs) r Q = wOs fs r (kmk c n gf Q) := by
  unfold wE wOs mkC
  cases fs r with
  | ok hs r1 =>
    simp only [kmk]
    cases lend r1 hs with
    | none => rfl
    | some as =>
      simp only [kmk1, wG]
      split
      · cases gf ((true, .obj c []) :: as) with
        | ok o z out =>
          simp only [kmk2]
          rcases o with _ | _
          · cases z with
            | non =>
              rcases out with _ | ⟨_ | _, v⟩ <;> rfl
            | _ => rfl
          · rfl
        | _ => rfl
      · rfl
  | _ => rfl
def kmd1 (c : Str) (fs : OsF) (r : Env) (Q : ER → Prop) : Option (Nat × GF) → Prop
  | some (n, g) => wE (mkC c n g fs) r Q
  | none => Q .bad
def kmd (tbl : Tbl) (fs : OsF) (r : Env) (Q : ER → Prop) : Option Slot → Prop
  | some (some (false, .cls c)) => kmd1 c fs r Q (tbl.lookup c)
  | _ => Q .bad
theorem wE_mkD {Q : ER → Prop} : wE (mkD tbl i fs) r Q = kmd tbl fs r Q r[i]? := by
  unfold wE mkD
  rcases r[i]? with _ | _ | ⟨_ | _, v⟩
  · rfl
  · rfl
  · cases v with
    | cls c =>
      simp only [kmd]
      cases tbl.lookup c <;> rfl
    | _ => rfl
  · rfl
def ksf1 (cs : List Str) (i : Nat) (x : Str) (v : Val) (r1 : Env) (Q : SR → Prop) : Option Slot → Prop
  | some (some (true, .obj c fs)) => (if c ∈ cs ∧ fs.length < 1000 then Q (.nx (r1.set i (some (true, .obj c (putV x v fs))))) else Q .bad)
  | _ => Q .bad
def ksf (cs : List Str) (i : Nat) (x : Str) (Q : SR → Prop) : ER → Prop
  | .ok _ v r1 => ksf1 cs i x v r1 Q r1[i]?
  | .ex e r1 => Q (.ex e r1)
  | .bad => Q .bad
theorem wS_setFld {x : Str} {Q : SR → Prop} : wS (setFld cs i x f) r Q = wE f r (ksf cs i x Q) := by
  unfold wS wE setFld frz
  cases f r with
  | ok o v r1 =>
    simp only [ksf]
    rcases r1[i]? with _ | _ | ⟨_ | _, u⟩
    · rfl
    · rfl
    · rfl
    · cases u with
      | obj c xs => simp only [ksf1]; split <;> rfl
      | _ => rfl
  | _ => rfl
theorem wS_never {Q : SR → Prop} : wS never r Q = Q .bad := rfl
def kitI (Q : IR → Prop) : ER → Prop
  | .ok _ (.dct false kvs) r' => Q (.ok (pairsOf kvs) r')
  | .ok _ _ _ => Q .bad
  | .ex e r' => Q (.ex e r')
  | .bad => Q .bad
theorem wI_I {Q : IR → Prop} : wI (itI f) r Q = wE f r (kitI Q) := by
  unfold wI wE itI frz
  cases f r with
  | ok o v r' =>
    cases v with
    | dct t kvs => cases t <;> rfl
    | _ => rfl
  | _ => rfl
def kitE (Q : IR → Prop) : ER → Prop
  | .ok _ (.lst vs) r' => Q (.ok (enumV vs) r')
  | .ok _ (.tup vs) r' => Q (.ok (enumV vs) r')
  | .ok _ _ _ => Q .bad
  | .ex e r' => Q (.ex e r')
  | .bad => Q .bad
theorem wI_E {Q : IR → Prop} : wI (itE f) r Q = wE f r (kitE Q) := by
  unfold wI wE itE frz
  cases f r with
  | ok o v r' => cases v <;> rfl
  | _ => rfl
def kasD2 (ds : List (Val × Val)) (Q : AR → Prop) : AR → Prop
  | .ok vs r2 => Q (.ok (keysOfD ds ++ vs) r2)
  | .ex e r2 => Q (.ex e r2)
  | .bad => Q .bad
def kasD (g : AF) (Q : AR → Prop) : ER → Prop
  | .ok _ (.dct false ds) r1 => wA g r1 (kasD2 ds Q)
  | .ok _ _ _ => Q .bad
  | .ex e r1 => Q (.ex e r1)
  | .bad => Q .bad
theorem wA_StD {Q : AR → Prop} : wA (asStD f g) r Q = wE f r (kasD g Q) := by
  unfold wA wE asStD frz
  cases f r with
  | ok o v r' =>
    cases v with
    | dct t kvs =>
      cases t with
      | false => simp only [kasD, wA]; cases g r' <;> rfl
      | true => rfl
    | _ => rfl
  | _ => rfl
def wF (fs : List EF) (acc : Str) (r : Env) (Q : ER → Prop) : Prop := Q (fsL fs acc r)
theorem wE_fstr {l : List EF} {Q : ER → Prop} : wE (fstr l) r Q = wF l Str.empty r Q := rfl
theorem wF_nil {acc : Str} {Q : ER → Prop} : wF [] acc r Q = Q (.ok false (.str acc) r) := rfl
def kF (l : List EF) (acc : Str) (Q : ER → Prop) : ER → Prop
  | .ok _ (.str y) r1 => (if (acc ++ y).length ≤ sizeLine then wF l (acc ++ y) r1 Q else Q .bad)
  | .ok _ _ _ => Q .bad
  | .ex e r1 => Q (.ex e r1)
  | .bad => Q .bad
theorem wF_cons {l : List EF} {acc : Str} {Q : ER → Prop} : wF (f :: l) acc r Q = wE f r (kF l acc Q) := by
  unfold wF wE
  rw [fsL]
  cases f r with
  | ok o v r1 =>
    cases v with
    | str y => simp only [kF, wF]; split <;> rfl
    | _ => rfl
  | _ => rfl
def kdst4 (ds : List (Val × Val)) (v : Val) (r3 : Env) (Q : ER → Prop) : Option Key → Prop
  | some q => Q (.ok true (.dct false (dPut ds q v)) r3)
  | none => Q .bad
def kdst3 (ds : List (Val × Val)) (k : Val) (Q : ER → Prop) : ER → Prop
  | .ok _ v r3 => kdst4 ds v r3 Q (keyOf k)
  | .ex e r3 => Q (.ex e r3)
  | .bad => Q .bad
def kdst2 (ds : List (Val × Val)) (fv : EF) (Q : ER → Prop) : ER → Prop
  | .ok _ k r2 => wE fv r2 (kdst3 ds k Q)
  | .ex e r2 => Q (.ex e r2)
  | .bad => Q .bad
def kdst1 (fk fv : EF) (Q : ER → Prop) : ER → Prop
  | .ok _ (.dct false ds) r1 => (if ds.length < 100000 then wE fk r1 (kdst2 ds fv Q) else Q .bad)
  | .ok _ _ _ => Q .bad
  | .ex e r1 => Q (.ex e r1)
  | .bad => Q .bad
theorem wE_dst {Q : ER → Prop} : wE (dst f fk fv) r Q = wE f r (kdst1 fk fv Q) := by
  unfold wE dst frz
  cases f r with
  | ok o v r1 =>
    cases v with
    | dct t ds =>
      cases t with
      | true => rfl
      | false =>
        simp only [kdst1]
        by_cases h : ds.length < 100000
        · simp only [if_pos h, wE]
          cases fk r1 with
          | ok o2 k r2 =>
            simp only [kdst2, wE]
            cases fv r2 with
            | ok o3 v r3 => simp only [kdst3]; cases keyOf k <;> rfl
            | _ => rfl
          | _ => rfl
        · simp only [if_neg h]
    | _ => rfl
  | _ => rfl
theorem wG_runS {b : SF} {kw : Bool} {ios : List Nat} {np N : Nat} {as : List (Bool × Val)} {Q : GR → Prop} (h : np ≤ as.length ∧ lents (as.drop np) = 0 ∧ as.length ≤ 100000 ∧ (∀ i ∈ ownIx (packS np kw as), i < np)) :
    wG (runDefS kw ios np N b) as Q = wG (runDef ios (np + 1 + (if kw then 1 else 0)) N b) (packS np kw as) Q := by
  unfold wG runDefS
  rw [if_pos h]
def wDC (t : TF) (c : BF) (fk f : EF) (sl : List Nat) (vs : List Val) (acc : List (Val × Val)) (r : Env) (Q : DR → Prop) : Prop := Q (dcL t c fk f sl vs acc r)
def kdc2 (r1 : Env) (sl : List Nat) (Q : ER → Prop) : DR → Prop
  | .ok ys r2 => Q (.ok true (.dct false ys) (restR r1 r2 sl))
  | _ => Q .bad
def kdc (t : TF) (c : BF) (fk f : EF) (sl : List Nat) (Q : ER → Prop) : IR → Prop
  | .ok vs r1 => wDC t c fk f sl vs [] (wipeR r1 sl) (kdc2 r1 sl Q)
  | .ex e r1 => Q (.ex e r1)
  | .bad => Q .bad
theorem wE_dc {fi : IF} {t : TF} {c : BF} {sl : List Nat} {Q : ER → Prop} : wE (dc fi t c fk f sl) r Q = wI fi r (kdc t c fk f sl Q) := by
  unfold wE wI dc
  cases fi r with
  | ok vs r1 => simp only [kdc, wDC]; cases dcL t c fk f sl vs [] (wipeR r1 sl) <;> rfl
  | _ => rfl
theorem wDC_inv {t : TF} {c : BF} {sl : List Nat} {Q : DR → Prop} (I : List Val → List (Val × Val) → Env → Prop)
    (hs : ∀ v vs acc r, I (v :: vs) acc r → ∃ r1, t v r = some r1 ∧ wB c r1 fun s => (∃ r2, s = .ok false r2 ∧ I vs acc (wipeR r2 sl)) ∨ ∃ r2, s = .ok true r2 ∧
      wE fk r2 fun s => ∃ o k r3, s = .ok o k r3 ∧ wE f r3 fun s => ∃ o y r4 q, s = .ok o y r4 ∧ keyOf k = some q ∧ acc.length < 100000 ∧ I vs (dPut acc q y) (wipeR r4 sl))
    (he : ∀ acc r, I [] acc r → Q (.ok acc r)) : ∀ vs acc r, I vs acc r → wDC t c fk f sl vs acc r Q
  | [], acc, r, h => he acc r h
  | v :: vs, acc, r, h => by
    obtain ⟨r1, ht, hc⟩ := hs v vs acc r h
    unfold wDC
    rw [dcL, ht]
    rcases hc with ⟨r2, e, h2⟩ | ⟨r2, e, hk⟩
    · simp only [e]
      exact wDC_inv I hs he vs acc _ h2
    · obtain ⟨o, k, r3, e3, hv⟩ := hk
      obtain ⟨o', y, r4, q, e4, hq, hl, h4⟩ := hv
      simp only [e, frz, e3, e4, hq, if_pos hl]
      exact wDC_inv I hs he vs _ _ h4
end
theorem lk1 {α : Type} (c : Str) (x : α) : List.lookup c [(c, x)] = some x := by simp [List.lookup]
def kitVs (Q : IR → Prop) : ER → Prop
  | .ok _ (.dct false kvs) r' => Q (.ok (kvs.map (·.2)) r')
  | .ok _ _ _ => Q .bad
  | .ex e r' => Q (.ex e r')
  | .bad => Q .bad
section
variable {r : Env} {f : EF}
theorem wI_Vs {Q : IR → Prop} : wI (itVs f) r Q = wE f r (kitVs Q) := by
  unfold wI wE itVs frz
  cases f r with
  | ok o v r' =>
    cases v with
    | dct t kvs => cases t <;> rfl
    | _ => rfl
  | _ => rfl
end
/-! dict comprehensions by maps -/
theorem wDC_map {α : Type} {t : TF} {c : BF} {fk f : EF} {sl : List Nat} {env : Env} {Q : DR → Prop} (y : α → Val) (kf : α → Str) (z : α → Val) (p : α → Bool) (xs : List α)
    (h : ∀ x ∈ xs, ∃ r1, t (y x) env = some r1 ∧ wB c r1 (fun s => s = .ok (p x) r1) ∧ wipeR r1 sl = env ∧ (p x = true → wE fk r1 fun s => ∃ o, s = .ok o (.str (kf x)) r1 ∧ wE f r1 fun s => ∃ o r3, s = .ok o (z x) r3 ∧ wipeR r3 sl = env)) (hl : xs.length ≤ 100000)
    (nd : ((xs.filter p).map kf).Nodup) (q : Q (.ok (sd ((xs.filter p).map fun x => (kf x, z x))) env)) : wDC t c fk f sl (xs.map y) [] env Q := by
  have key : ∀ (xs : List α) (acc : List (Str × Val)), (∀ x ∈ xs, ∃ r1, t (y x) env = some r1 ∧ wB c r1 (fun s => s = .ok (p x) r1) ∧ wipeR r1 sl = env ∧ (p x = true → wE fk r1 fun s => ∃ o, s = .ok o (.str (kf x)) r1 ∧ wE f r1 fun s => ∃ o r3, s = .ok o (z x) r3 ∧ wipeR r3 sl = env)) → acc.length + xs.length ≤ 100000 →
      ((acc.map (·.1)) ++ (xs.filter p).map kf).Nodup → dcL t c fk f sl (xs.map y) (sd acc) env = .ok (sd (acc ++ (xs.filter p).map fun x => (kf x, z x))) env := by
    intro xs
    induction xs with
    | nil => intro acc _ _ _; simp [dcL]
    | cons x xs ih =>
      intro acc h hl nd
      obtain ⟨r1, e1, e2, e3, e4⟩ := h x (by simp)
      unfold wB at e2
      rw [List.length_cons] at hl
      rw [List.map_cons, dcL]
      cases hp : p x with
      | false =>
        rw [hp] at e2
        rw [List.filter_cons_of_neg (by simp [hp])] at nd
        simp only [e1, e2, e3]
        rw [ih acc (fun x' hx' => h x' (List.mem_cons_of_mem _ hx')) (by omega) nd, List.filter_cons_of_neg (by simp [hp])]
      | true =>
        rw [hp] at e2
        obtain ⟨o, e5, o2, r3, e6, e7⟩ := e4 hp
        rw [List.filter_cons_of_pos (by simp [hp]), List.map_cons] at nd
        have hn : kf x ∉ acc.map (·.1) := fun hm => by
          have := (List.nodup_append.mp nd).2.2 _ hm (kf x) (by simp)
          exact this rfl
        have ha : (sd acc).length < 100000 := by rw [sd_len]; omega
        simp only [e1, e2, frz, e5, e6, keyOf, if_pos ha, e7]
        rw [dPut_new hn, ih (acc ++ [(kf x, z x)]) (fun x' hx' => h x' (List.mem_cons_of_mem _ hx')) (by simp; omega) (by simpa using nd), List.filter_cons_of_pos (by simp [hp])]
        simp
  unfold wDC
  have := key xs [] h (by simpa using hl) (by simpa using nd)
  rw [show (sd [] : List (Val × Val)) = [] from rfl] at this
  rw [this]
  simpa using q
/-! dict comprehensions of two clauses: a set of texts -/
def insS (acc : List Str) (x : Str) : List Str := if x ∈ acc then acc else acc ++ [x]
def insAll (acc xs : List Str) : List Str := xs.foldl insS acc
theorem insS_mem {acc : List Str} {x y : Str} : y ∈ insS acc x ↔ y ∈ acc ∨ y = x := by
  unfold insS
  split
  · constructor
    · exact .inl
    · rintro (h | h)
      · exact h
      · rw [h]; assumption
  · simp
theorem insAll_mem {xs : List Str} : ∀ {acc : List Str} {y : Str}, y ∈ insAll acc xs ↔ y ∈ acc ∨ y ∈ xs := by
  induction xs with
  | nil => intro acc y; simp [insAll]
  | cons x xs ih =>
    intro acc y
    have := ih (acc := insS acc x) (y := y)
    rw [insAll, List.foldl_cons]
    rw [insAll] at this
    rw [this, insS_mem, List.mem_cons, or_assoc]
theorem insS_nodup {acc : List Str} {x : Str} (h : acc.Nodup) : (insS acc x).Nodup := by
  unfold insS
  split
  · exact h
  · rename_i hx
    rw [List.nodup_append]
    exact ⟨h, by simp, fun a ha b hb e => hx (by rw [List.mem_singleton.mp hb] at e; rw [← e]; exact ha)⟩
theorem insAll_nodup {xs : List Str} : ∀ {acc : List Str}, acc.Nodup → (insAll acc xs).Nodup := by
  induction xs with
  | nil => exact fun h => h
  | cons x xs ih => exact fun h => ih (insS_nodup h)
theorem insS_len {acc : List Str} {x : Str} : (insS acc x).length ≤ acc.length + 1 := by
  unfold insS
  split <;> simp
theorem insAll_len {xs : List Str} : ∀ {acc : List Str}, (insAll acc xs).length ≤ acc.length + xs.length := by
  induction xs with
  | nil => intro acc; simp [insAll]
  | cons x xs ih =>
    intro acc
    have := ih (acc := insS acc x)
    have h2 := insS_len (acc := acc) (x := x)
    rw [insAll, List.foldl_cons, List.length_cons]
    rw [insAll] at this
    omega
theorem insAll_app {acc xs ys : List Str} : insAll acc (xs ++ ys) = insAll (insAll acc xs) ys := by unfold insAll; rw [List.foldl_append]
/-- a dict that is a set -/
abbrev tdict (u : Val) (ks : List Str) : List (Val × Val) := sd (ks.map fun k => (k, u))
theorem dPut_set {u : Val} {acc : List Str} {x : Str} : dPut (tdict u acc) (.inr x) u = tdict u (insS acc x) := by
  unfold insS
  by_cases h : x ∈ acc
  · rw [if_pos h]
    have hk : ((tdict u acc).any fun p => M.keyIs (.inr x) p.1) = true := by
      rw [sd_any]; exact decide_eq_true (by simpa using h)
    unfold dPut
    rw [if_pos hk]
    refine (List.map_congr_left fun p hp => ?_).trans (List.map_id _)
    obtain ⟨q, hq, rfl⟩ := List.mem_map.mp hp
    obtain ⟨k, _, rfl⟩ := List.mem_map.mp hq
    simp
  · rw [if_neg h, dPut_new (by simpa using h)]
    simp [tdict]
def wCL (t : TF) (c : BF) (m : List (Val × Val) → Env → DR) (sl : List Nat) (vs : List Val) (acc : List (Val × Val)) (r : Env) (Q : DR → Prop) : Prop := Q (clL t c m sl vs acc r)
def kdcc (t : TF) (c : BF) (m : List (Val × Val) → Env → DR) (sl : List Nat) (Q : ER → Prop) : IR → Prop
  | .ok vs r1 => wCL t c m sl vs [] (wipeR r1 sl) (kdc2 r1 sl Q)
  | .ex e r1 => Q (.ex e r1)
  | .bad => Q .bad
section
variable {r : Env} {f fk : EF}
theorem wE_dc2 {fi fi1 : IF} {t t1 : TF} {c c1 : BF} {sl sl1 : List Nat} {Q : ER → Prop} : wE (dc2 fi t c fi1 t1 c1 fk f sl sl1) r Q = wI fi r (kdcc t c (secM fi1 t1 c1 (layM fk f) sl1) sl Q) := by
  unfold wE wI dc2
  cases fi r with
  | ok vs r1 => simp only [kdcc, wCL]; cases clL t c (secM fi1 t1 c1 (layM fk f) sl1) sl vs [] (wipeR r1 sl) <;> rfl
  | _ => rfl
/-- the inner clause -/
theorem clL_in {t1 : TF} {c1 : BF} {sl1 : List Nat} {env : Env} {u : Val} : ∀ (ys : List Str) (acc : List Str), (∀ y ∈ ys, ∃ r1 o, t1 (.str y) env = some r1 ∧ c1 r1 = .ok true r1 ∧ fk r1 = .ok o (.str y) r1 ∧ (∃ o2, f r1 = .ok o2 u r1) ∧ wipeR r1 sl1 = env) → acc.length + ys.length ≤ 100000 →
    clL t1 c1 (layM fk f) sl1 (ys.map .str) (tdict u acc) env = .ok (tdict u (insAll acc ys)) env
  | [], acc, _, _ => by simp [clL, insAll]
  | y :: ys, acc, h, hl => by
    obtain ⟨r1, o, e1, e2, e3, ⟨o2, e4⟩, e5⟩ := h y (by simp)
    rw [List.length_cons] at hl
    have ha : (tdict u acc).length < 100000 := by simp [sd_len]; omega
    rw [List.map_cons, clL]
    have hb := insS_len (acc := acc) (x := y)
    simp only [e1, e2, layM, frz, e3, e4, keyOf, if_pos ha, e5, dPut_set]
    rw [clL_in ys (insS acc y) (fun y' hy => h y' (List.mem_cons_of_mem _ hy)) (by omega)]
    rfl
theorem wCL_set {α : Type} {t : TF} {c : BF} {fi1 : IF} {t1 : TF} {c1 : BF} {sl sl1 : List Nat} {env : Env} {u : Val} {Q : DR → Prop} (y : α → Val) (ys : α → List Str) (xs : List α)
    (h : ∀ x ∈ xs, ∃ r1, t (y x) env = some r1 ∧ c r1 = .ok true r1 ∧ wI fi1 r1 (fun s => ∃ r2, s = .ok ((ys x).map .str) r2 ∧ wipeR (wipeR r2 sl1) sl = env ∧
      ∀ z ∈ ys x, ∃ r3 o, t1 (.str z) (wipeR r2 sl1) = some r3 ∧ c1 r3 = .ok true r3 ∧ fk r3 = .ok o (.str z) r3 ∧ (∃ o2, f r3 = .ok o2 u r3) ∧ wipeR r3 sl1 = wipeR r2 sl1))
    (hl : (xs.flatMap ys).length ≤ 100000) (q : Q (.ok (tdict u (insAll [] (xs.flatMap ys))) env)) : wCL t c (secM fi1 t1 c1 (layM fk f) sl1) sl (xs.map y) [] env Q := by
  have key : ∀ (xs : List α) (acc : List Str), (∀ x ∈ xs, ∃ r1, t (y x) env = some r1 ∧ c r1 = .ok true r1 ∧ wI fi1 r1 (fun s => ∃ r2, s = .ok ((ys x).map .str) r2 ∧ wipeR (wipeR r2 sl1) sl = env ∧
      ∀ z ∈ ys x, ∃ r3 o, t1 (.str z) (wipeR r2 sl1) = some r3 ∧ c1 r3 = .ok true r3 ∧ fk r3 = .ok o (.str z) r3 ∧ (∃ o2, f r3 = .ok o2 u r3) ∧ wipeR r3 sl1 = wipeR r2 sl1)) → acc.length + (xs.flatMap ys).length ≤ 100000 →
      clL t c (secM fi1 t1 c1 (layM fk f) sl1) sl (xs.map y) (tdict u acc) env = .ok (tdict u (insAll acc (xs.flatMap ys))) env := by
    intro xs
    induction xs with
    | nil => intro acc _ _; simp [clL, insAll]
    | cons x xs ih =>
      intro acc h hl
      obtain ⟨r1, e1, e2, r2, e3, e4, e5⟩ := h x (by simp)
      rw [List.flatMap_cons, List.length_append] at hl
      have hb := insAll_len (acc := acc) (xs := ys x)
      rw [List.map_cons, clL]
      simp only [e1, e2, secM, e3]
      rw [clL_in (ys x) acc e5 (by omega)]
      simp only [e4]
      have := ih (insAll acc (ys x)) (fun x' hx => h x' (List.mem_cons_of_mem _ hx)) (by omega)
      skip
      rw [this, List.flatMap_cons, insAll_app]
  unfold wCL
  have := key xs [] h (by simpa using hl)
  rw [show (tdict u [] : List (Val × Val)) = [] from rfl] at this
  rw [this]
  exact q
end
/-! values by equations -/
def tyOf_e1 := @tyOf.eq_1
def tyOf_e2 := @tyOf.eq_2
def tyOf_e3 := @tyOf.eq_3
def tyOf_e4 := @tyOf.eq_4
def tyOf_e5 := @tyOf.eq_5
def tyOf_e6 := @tyOf.eq_6
def tyOf_e7 := @tyOf.eq_7
def tyOf_e8 := @tyOf.eq_8
def itemsOf_e1 := @itemsOf.eq_1
def itemsOf_e2 := @itemsOf.eq_2
def itemsOf_e3 := @itemsOf.eq_3
def itemsOf_e4 := @itemsOf.eq_4
def itemsOf_e5 := @itemsOf.eq_5
def Plen_e1 := @Plen.eq_1
def Plen_e2 := @Plen.eq_2
def Plen_e3 := @Plen.eq_3
def Plen_e4 := @Plen.eq_4
def Plist_e1 := @Plist.eq_1
def Plist_e2 := @Plist.eq_2
def Plist_e3 := @Plist.eq_3
def Ptuple_e1 := @Ptuple.eq_1
def Ptuple_e2 := @Ptuple.eq_2
def cmpI_e1 := @cmpI.eq_1
def Pint_e1 := @Pint.eq_1
def Pint_e2 := @Pint.eq_2
def Pneg_e1 := @Pneg.eq_1
def Prev_e1 := @Prev.eq_1
/-! the equations by names -/
def koCl1_e1 := @koCl1.eq_1
def koCl1_e2 := @koCl1.eq_2
def koCl_e1 := @koCl.eq_1
def koCl_e2 := @koCl.eq_2
def koCl_e3 := @koCl.eq_3
def kcm2_e1 := @kcm2.eq_1
def kcm2_e2 := @kcm2.eq_2
def kcm1_e1 := @kcm1.eq_1
def kcm1_e2 := @kcm1.eq_2
def kcm_e1 := @kcm.eq_1
def kcm_e2 := @kcm.eq_2
def kcm_e3 := @kcm.eq_3
def knoX_e1 := @knoX.eq_1
def knoX_e2 := @knoX.eq_2
def knoX_e3 := @knoX.eq_3
def kmk3_e1 := @kmk3.eq_1
def kmk3_e2 := @kmk3.eq_2
def kmk2_e1 := @kmk2.eq_1
def kmk2_e2 := @kmk2.eq_2
def kmk2_e3 := @kmk2.eq_3
def kmk1_e1 := @kmk1.eq_1
def kmk1_e2 := @kmk1.eq_2
def kmk_e1 := @kmk.eq_1
def kmk_e2 := @kmk.eq_2
def kmk_e3 := @kmk.eq_3
def kmd1_e1 := @kmd1.eq_1
def kmd1_e2 := @kmd1.eq_2
def kmd_e1 := @kmd.eq_1
def kmd_e2 := @kmd.eq_2
def ksf1_e1 := @ksf1.eq_1
def ksf1_e2 := @ksf1.eq_2
def ksf_e1 := @ksf.eq_1
def ksf_e2 := @ksf.eq_2
def ksf_e3 := @ksf.eq_3
def kitI_e1 := @kitI.eq_1
def kitI_e2 := @kitI.eq_2
def kitI_e3 := @kitI.eq_3
def kitI_e4 := @kitI.eq_4
def kitE_e1 := @kitE.eq_1
def kitE_e2 := @kitE.eq_2
def kitE_e3 := @kitE.eq_3
def kitE_e4 := @kitE.eq_4
def kitE_e5 := @kitE.eq_5
def kasD2_e1 := @kasD2.eq_1
def kasD2_e2 := @kasD2.eq_2
def kasD2_e3 := @kasD2.eq_3
def kasD_e1 := @kasD.eq_1
def kasD_e2 := @kasD.eq_2
def kasD_e3 := @kasD.eq_3
def kasD_e4 := @kasD.eq_4
def kF_e1 := @kF.eq_1
def kF_e2 := @kF.eq_2
def kF_e3 := @kF.eq_3
def kF_e4 := @kF.eq_4
def kdst4_e1 := @kdst4.eq_1
def kdst4_e2 := @kdst4.eq_2
def kdst3_e1 := @kdst3.eq_1
def kdst3_e2 := @kdst3.eq_2
def kdst3_e3 := @kdst3.eq_3
def kdst2_e1 := @kdst2.eq_1
def kdst2_e2 := @kdst2.eq_2
def kdst2_e3 := @kdst2.eq_3
def kdst1_e1 := @kdst1.eq_1
def kdst1_e2 := @kdst1.eq_2
def kdst1_e3 := @kdst1.eq_3
def kdst1_e4 := @kdst1.eq_4
def kdc2_e1 := @kdc2.eq_1
def kdc2_e2 := @kdc2.eq_2
def kdc_e1 := @kdc.eq_1
def kdc_e2 := @kdc.eq_2
def kdc_e3 := @kdc.eq_3
def kitVs_e1 := @kitVs.eq_1
def kitVs_e2 := @kitVs.eq_2
def kitVs_e3 := @kitVs.eq_3
def kitVs_e4 := @kitVs.eq_4
def kdcc_e1 := @kdcc.eq_1
def kdcc_e2 := @kdcc.eq_2
def kdcc_e3 := @kdcc.eq_3
end M
/-! MPE1: exceptions as values: a caught one is told of in the abstract heap, within its suite and behind it. -/
namespace M
open PySem L2 PySem.Spec PyProof.Rows
theorem exV_ok {P : Program} {w : World} {H : Hp} {h : Heap} {a C : Addr} {d : Option Addr} {oe : Obj} {vs : Array Value} (e : h.get? a = some oe) (h1 : oe.cls = .ref C) (h2 : oe.dict = d) (h3 : oe.data = .fields vs) : ObjOk P w H h a (exV C d a) :=
  ⟨⟨oe, vs, e, h1, h2, h3⟩, ⟨oe, e⟩, fun _ _ ⟨o, v, q, r⟩ k => ⟨o, v, k o q, r⟩⟩
section
variable {X : Cx} {pins : List (Addr × Obj)} {σ : L2.St} {H : Hp} {s : Shared}
/-- an object of which the entry knew nothing is told of -/
theorem inv_told {a : Addr} {o : HO} (I : L2.Inv X pins σ H s) (na : H a = none) (new : ObjOk X.prog X.w (upd H a o) s.heap a o) (n0 : ∀ u, X.s_0.heap.get? a = some u → a ∈ X.ex)
    (nL : a ≠ X.env.locals) (nC : ∀ x c, X.env.cells.lookup x = some c → c ≠ a) (nP : ∀ p ∈ X.pn ++ pins, p.1 ≠ a) : L2.Inv X pins σ (upd H a o) s where
  ok := I.ok
  os := I.os
  bare := I.bare
  base := {
    keep := I.base.keep
    slot := I.base.slot
    free := fun b u q n hx => by
      have hb : b ≠ a := fun z => hx (by subst z; exact n0 u q)
      rw [upd_ne hb]
      exact I.base.free b u q n hx
    there := I.base.there
    tups := fun b xs q => by
      have t := I.base.tups b xs q
      rw [upd_ne (ne_of_none t na)]; exact t
    frzs := fun b ob u q => by
      have t := I.base.frzs b ob u q
      rw [upd_ne (ne_of_none t na)]; exact t
    tbls := fun b ps q => by
      obtain ⟨more, t⟩ := I.base.tbls b ps q
      exact ⟨more, by rw [upd_ne (ne_of_none t na)]; exact t⟩ }
  loc := I.loc
  cell := I.cell
  free := by rw [upd_ne nL.symm]; exact I.free
  freeC := fun x c e => by rw [upd_ne (nC x c e)]; exact I.freeC x c e
  pin := fun p hp => by
    obtain ⟨e1, e2, e3⟩ := I.pin p hp
    exact ⟨e1, by rw [upd_ne (nP p hp)]; exact e2, e3⟩
  hok := fun b u e => by
    by_cases hb : b = a
    · subst hb
      rw [upd_same] at e
      cases e
      exact new
    · rw [upd_ne hb] at e
      exact (I.hok b u e).stay (fun _ _ _ z => z) (fun c hc => by rw [upd_ne (ne_of_none hc na)]; exact hc) (fun c xs hc => by rw [upd_ne (ne_of_none hc na)]; exact hc)
  len := I.len
theorem inv_unsuite {a : Addr} {pn' : List (Addr × Obj)} (I : L2.Inv (X.suite a (X.pn ++ pins)) pn' σ H s) (ok : X.Ok) : L2.Inv X pins σ H s :=
  ⟨ok, I.os, I.bare, I.base, I.loc, I.cell, I.free, I.freeC, fun p hp => I.pin p (List.mem_append_left _ hp), I.hok, I.len⟩
theorem inv_suite {a : Addr} (I : L2.Inv X pins σ H s) : L2.Inv (X.suite a (X.pn ++ pins)) [] σ H s :=
  ⟨I.ok.suite _ _, I.os, I.bare, I.base, I.loc, I.cell, I.free, I.freeC, fun p hp => I.pin p (by simpa using hp), I.hok, I.len⟩
end
/-- behind a suite that bound its exception at slot i -/
def gone (i : Nat) (D : Ends) : Ends := { nx := fun σ' H' => D.nx (σ'.set i none) H', rt := D.rt, bk := fun σ' H' => D.bk (σ'.set i none) H', ct := fun σ' H' => D.ct (σ'.set i none) H' }
/-- an except clause: its class, the slot of its name, its suite -/
structure Hsp where
  c : Value
  nm : Option Nat
  ts : Addr → Value → Option Addr → TS
def hspAt (h : Hsp) (D : Ends) (a C : Addr) (d : Option Addr) (σ : L2.St) (H : Hp) : Prop := match h.nm with
  | none => h.ts a (.ref C) d D σ (upd H a (exV C d a))
  | some i => h.ts a (.ref C) d (gone i D) (σ.set i (some (.ref a))) (upd H a (exV C d a))
/-- what is wished of an exception that the clauses look at -/
def wTry (K : PySem.W.Frag) (Wout : WX) (D : Ends) : List Hsp → WX
  | [] => Wout
  | h :: r => fun cls d σ H => ∃ b, PySem.W.exmOne K cls h.c = some b ∧ (b = true → ∃ C, cls = .ref C ∧ ∀ a, H a = none → hspAt h D a C d σ H) ∧ (b = false → wTry K Wout D r cls d σ H)
inductive HdsT (X : Cx) : List ExceptHandler → List Hsp → Prop
  | nil : HdsT X [] []
  | one {x : Str} {c : Value} {ts : Addr → Value → Option Addr → TS} {b₀ : Stmt} {suite : List Stmt} {np pos' : Pos} {hds : List ExceptHandler} {l : List Hsp} (hc : Names X x c)
      (hsu : ∀ (a : Addr) (cls : Value) (d : Option Addr) (pn : List (Addr × Obj)), PSs (X.suite a pn) (b₀ :: suite) (ts a cls d)) (r : HdsT X hds l) :
      HdsT X (.ExceptHandler (some (.Name x np)) none (b₀ :: suite) pos' :: hds) (⟨c, none, ts⟩ :: l)
  | as_ {x n : Str} {i : Nat} {c : Value} {ts : Addr → Value → Option Addr → TS} {b₀ : Stmt} {suite : List Stmt} {np pos' : Pos} {hds : List ExceptHandler} {l : List Hsp} (hc : Names X x c) (hi : X.N[i]? = some n) (hln : X.env.kindOf n = some .local)
      (hsu : ∀ (a : Addr) (cls : Value) (d : Option Addr) (pn : List (Addr × Obj)), PSs (X.suite a pn) (b₀ :: suite) (ts a cls d)) (r : HdsT X hds l) :
      HdsT X (.ExceptHandler (some (.Name x np)) (some n) (b₀ :: suite) pos' :: hds) (⟨c, some i, ts⟩ :: l)
section
variable {X : Cx}
/-- the ends of a try -/
theorem sp_ofTry {pn' : List (Addr × Obj)} {pins : List (Addr × Obj)} {D : Ends} {xe : Value → Shared → Prop} (ok : X.Ok) : ∀ {f : Flow} {s : Shared}, SP (X.tr (X.pn ++ pins) xe) pn' D f s → SP X pins D f s
  | .next, _, ⟨σ, H, J, q⟩ => ⟨σ, H, J.ofTry ok, q⟩
  | .brk, _, ⟨σ, H, J, q⟩ => ⟨σ, H, J.ofTry ok, q⟩
  | .cont, _, ⟨σ, H, J, q⟩ => ⟨σ, H, J.ofTry ok, q⟩
  | .ret _, _, ⟨v, σ, H, J, r, q⟩ => ⟨v, σ, H, J.ofTry ok, r, q⟩
theorem sp_unsuite {a : Addr} {pn' : List (Addr × Obj)} {pins : List (Addr × Obj)} {D : Ends} (ok : X.Ok) : ∀ {f : Flow} {s : Shared}, SP (X.suite a (X.pn ++ pins)) pn' D f s → SP X pins D f s
  | .next, _, ⟨σ, H, J, q⟩ => ⟨σ, H, inv_unsuite J ok, q⟩
  | .brk, _, ⟨σ, H, J, q⟩ => ⟨σ, H, inv_unsuite J ok, q⟩
  | .cont, _, ⟨σ, H, J, q⟩ => ⟨σ, H, inv_unsuite J ok, q⟩
  | .ret _, _, ⟨v, σ, H, J, r, q⟩ => ⟨v, σ, H, inv_unsuite J ok, r, q⟩
/-- the name's slot is cleared behind the suite -/
theorem gone_end {a i : Nat} {n : Str} {pn' pins : List (Addr × Obj)} {D : Ends} {pos' : Pos} (ok : X.Ok) (hN : X.N.Nodup) (hi : X.N[i]? = some n) (hln : X.env.kindOf n = some .local) : ∀ {f : Flow} {s : Shared}, SP (X.suite a (X.pn ++ pins)) pn' (gone i D) f s →
    wpAny (model X.prog X.w) X.A (do bindName X.env n .none; unbindBehindTheSuite X.env n pos') (fun _ s7 => SP X pins D f s7) X.xe s
  | .next, _, ⟨σ, H, J, q⟩ => gone_ok (inv_unsuite J ok) hN hi hln fun _ J7 => ⟨_, H, J7, q⟩
  | .brk, _, ⟨σ, H, J, q⟩ => gone_ok (inv_unsuite J ok) hN hi hln fun _ J7 => ⟨_, H, J7, q⟩
  | .cont, _, ⟨σ, H, J, q⟩ => gone_ok (inv_unsuite J ok) hN hi hln fun _ J7 => ⟨_, H, J7, q⟩
  | .ret _, _, ⟨v, σ, H, J, r, q⟩ => gone_ok (inv_unsuite J ok) hN hi hln fun _ J7 => ⟨v, _, H, J7, r, q⟩
/-- try: body, clauses; the caught exception is told of -/
theorem ps_tryT {body : List Stmt} {h₀ : ExceptHandler} {hds : List ExceptHandler} {l : List Hsp} {pos : Pos} {tb : WX → TS} {Wout : WX} (hs : X.stack = X.env :: X.outer) (hf : X.env.frame = some X.env.locals) (hN : X.N.Nodup) (tk : Takes X Wout)
    (hb : ∀ (W : WX) (pn : List (Addr × Obj)) (xe : Value → Shared → Prop), Takes (X.tr pn xe) W → PassesOwn (model X.prog X.w) X.A X.env xe → PSs (X.tr pn xe) body (tb W))
    (hh : HdsT X (h₀ :: hds) l) : PS X (.Try body (h₀ :: hds) [] [] pos) (fun D σ H => tb (wTry X.K Wout D l) D σ H) := by
  refine ⟨fun pins s σ H D I h => ?_⟩
  have ok := I.ok
  have frm : X.A.frames = some (X.env :: X.outer) := by rw [ok.frames, hs]
  refine wpAny_Try_except ?_
  have run := (hb (wTry X.K Wout D l) (X.pn ++ pins) (fun e z => wpAny (model X.prog X.w) X.A (noteFrame e X.env)
    (fun _ z => wpAny (model X.prog X.w) X.A (setFlight e none) (fun _ z => wpAny (model X.prog X.w) X.A (handleBy e X.env (h₀ :: hds)) (SP X pins D) X.xe z) X.xe z) X.xe z) (fun u s' xx => ?_) PassesOwn.looking).run [] s σ H D (I.toTry _) h
  · refine wpAny_mono run (fun f z q => ?_) fun _ _ q => q
    have q' := sp_ofTry ok q
    cases f with
    | next =>
      obtain ⟨σ1, H1, J1, q1⟩ := q'
      exact wpAny_execs_nil ⟨σ1, H1, J1, q1⟩
    | brk => exact q'
    | cont => exact q'
    | ret v => exact q'
  · obtain ⟨a, B, sI, pins1, σ1, H1, cls, d, rfl, J0, nb, up, sky, na, os, ag, w⟩ := xx
    have J : L2.Inv X pins σ1 H1 sI := J0.ofTry ok
    have sky1 : Sky B (X.env :: X.outer) a (Zc cls d) X.env.locals s'.heap := hs ▸ sky
    show wpAny (model X.prog X.w) X.A (noteFrame (.ref a) X.env) _ _ _
    refine Sky.land Zc.steady frm hf sky1 fun h3 fl3 up3 => ?_
    have J3 : L2.Inv X pins σ1 H1 { s' with heap := h3 } := J.landed nb fl3.1 (up.trans up3) os ag
    obtain ⟨oe, vs, he, hz, hd⟩ := fl3.there
    have nfr : a ∉ frs (X.env :: X.outer) := fun hm => by
      obtain ⟨_, o, e, hnf⟩ := fl3.2.2.1.mem hm
      rw [he] at e
      cases e
      exact hnf _ hd
    have nL : a ≠ X.env.locals := fun z => nfr (List.mem_filterMap.mpr ⟨X.env, by simp, by rw [hf, z]⟩)
    have nF : a ∉ X.fs := fun hm => by
      obtain ⟨e, h1, h2⟩ := List.mem_filterMap.mp hm
      exact nfr (List.mem_filterMap.mpr ⟨e, by simp [h1], h2⟩)
    have nI : ∀ u, sI.heap.get? a ≠ some u := fun u z => by
      have := nb a u z (by rw [hs]; exact nfr)
      rw [fl3.2.1] at this
      cases this
    have told : ∀ (C : Addr) (h : Heap) (oe : Obj) (vs : Array Value), cls = .ref C → h.get? a = some oe → Zc cls d oe → oe.data = .fields vs → L2.Inv X pins σ1 H1 { s' with heap := h } → L2.Inv X pins σ1 (upd H1 a (exV C d a)) { s' with heap := h } := fun C h oe vs ec e1 e2 e3 J4 =>
      inv_told J4 na (exV_ok e1 (by rw [e2.1, ec]) e2.2 e3)
        (fun u q => by
          by_cases hx : a ∈ X.ex
          · exact hx
          · obtain ⟨o2, t⟩ := J.base.there a u q hx
            exact absurd t (nI o2)) nL
        (fun x c e z => by
          subst z
          obtain ⟨v, o, t, _⟩ := J.cell x c e
          exact nI o t)
        (fun p hp z => by
          have t := (J.pin p hp).1
          rw [z] at t
          exact nI _ t)
    have go : ∀ {hs' : List ExceptHandler} {l' : List Hsp}, HdsT X hs' l' → wTry X.K Wout D l' cls d σ1 H1 → wpAny (model X.prog X.w) X.A (handleBy (.ref a) X.env hs') (SP X pins D) X.xe { s' with heap := h3 } := by
      intro hs' l' hk
      have LT : PySem.W.Looks (model X.prog X.w) h3 (typeOf (.ref a)) cls := fun _ _ _ _ k q => wpAny_typeOf_ref (k _ _ he) (by rw [hz.1]; exact q)
      have test : ∀ {x : Str} {c : Value} {np : Pos} {Q : Value → Shared → Prop} {E : Value → Shared → Prop}, Names X x c → Q c { s' with heap := h3 } → wpAny (model X.prog X.w) (X.A.mark (some (.ref a))) (eval (.Name x np) X.env) Q E { s' with heap := h3 } := fun {x c np Q E} hc q => by
        have S3 : L2.Inv (X.suite a (X.pn ++ pins)) [] σ1 H1 { s' with heap := h3 } := inv_suite J3
        obtain ⟨hg, hdbg, hm | ⟨hm, hv, hnn⟩⟩ := hc
        · exact ld_glob S3 hg hm q hdbg
        · exact ld_blt S3 hg hm hv q hnn hdbg
      induction hk with
      | nil =>
        intro w
        refine wpAny_handleBy_nil ?_
        obtain ⟨_, _, _, o, us, T, oT, ts', e1, e2, e3, e4, _⟩ := id fl3
        unfold PySem.passOn
        refine wpAny_bind (wpAny_field e1 e3 e4 ?_)
        rw [if_neg (show ¬ ((Value.ref T == Value.none) = true) from by simp)]
        have fin : wpAny (model X.prog X.w) X.A (setFlight (.ref a) X.env.frame) (fun _ z => wpAny (model X.prog X.w) X.A (throw (.ref a) : Sem Flow) (SP X pins D) X.xe z) X.xe { s' with heap := h3 } := by
          rw [hf]
          exact HandSPX.setFlight_upZ fl3 fun h4 hh4 up4 => wpAny_throw (tk _ _ ⟨a, B, sI, pins, σ1, H1, cls, d, rfl, J, nb, (up.trans up3).trans up4, .inr (.inr (by rw [hs]; exact hh4)), na, os, ag, w⟩)
        first
          | exact wpAny_bind (wpAny_pure (wpAny_bind fin))
          | exact wpAny_bind fin
      | one hc hsu r ih =>
        intro w
        obtain ⟨b, hb1, hyes, hno⟩ := w
        refine wpAny_handleBy_cons (codeAny_handlers_test ?_) (by intro q; cases q)
        refine test hc ((PySem.W.exm_one (M := model X.prog X.w) J3.kIn LT hb1).here ?_)
        cases b with
        | false => exact ih (hno rfl)
        | true =>
          obtain ⟨C, ec, q⟩ := hyes rfl
          refine codeAny_handlers_suite (HandSPX.lands_againZ fl3 fun h4 fl4 up4 => ?_)
          have J4 : L2.Inv X pins σ1 H1 { s' with heap := h4 } := J.landed nb fl4.1 ((up.trans up3).trans up4) os ag
          obtain ⟨oe4, vs4, he4, hz4, hd4⟩ := fl4.there
          have S4 : L2.Inv (X.suite a (X.pn ++ pins)) [] σ1 (upd H1 a (exV C d a)) { s' with heap := h4 } := inv_suite (told C h4 oe4 vs4 ec he4 hz4 hd4 J4)
          exact wpAny_mono ((hsu a (.ref C) d (X.pn ++ pins)).run [] _ _ _ _ S4 (q a na)) (fun f s6 hsp => sp_unsuite ok hsp) fun _ _ z => z.elim
      | as_ hc hi hln hsu r ih =>
        intro w
        obtain ⟨b, hb1, hyes, hno⟩ := w
        refine wpAny_handleBy_cons (codeAny_handlers_test ?_) (by intro q; cases q)
        refine test hc ((PySem.W.exm_one (M := model X.prog X.w) J3.kIn LT hb1).here ?_)
        cases b with
        | false => exact ih (hno rfl)
        | true =>
          obtain ⟨C, ec, q⟩ := hyes rfl
          refine codeAny_handlers_suite_as (HandSPX.lands_againZ fl3 fun h4 fl4 up4 => ?_)
          have J4 : L2.Inv X pins σ1 H1 { s' with heap := h4 } := J.landed nb fl4.1 ((up.trans up3).trans up4) os ag
          obtain ⟨oe4, vs4, he4, hz4, hd4⟩ := fl4.there
          have S4 : L2.Inv (X.suite a (X.pn ++ pins)) [] σ1 (upd H1 a (exV C d a)) { s' with heap := h4 } := inv_suite (told C h4 oe4 vs4 ec he4 hz4 hd4 J4)
          refine store_ok (X := X.suite a (X.pn ++ pins)) (v := .ref a) S4 hN hi (.inl hln) rfl (fun s5 S5 => ?_) (.inr hln)
          exact wpAny_mono ((hsu a (.ref C) d (X.pn ++ pins)).run [] s5 _ _ _ S5 (q a na)) (fun f s6 hsp => gone_end ok hN hi hln hsp) fun _ _ z => z.elim
    exact go hh w
end
end M
/-! MPE2: fields of caught exceptions, isinstance of them. -/
namespace PySem.W
open PySem PySem.Spec PySem.Calls PyProof.Rows
section
variable {prog : Program} {w : World} {A : Around} {E : Value → Shared → Prop} {s : Shared} {K : Frag} {x D : Addr} {ox : Obj} {od : Option Obj}
/-- __class__ is a data descriptor, whatever stands in the dict -/
theorem class_found (C : L2.ExcC K D) : findObj K D od "__class__" = some (.bind (.builtin "getset_descriptor.__get__") (.builtin "object.__class__")) := by
  obtain ⟨_, hc, _⟩ := any_some C.hd
  unfold findObj
  rw [hc, Option.bind_some, C.ha, Option.bind_some]
  simp [C.hn, C.ht]
/-- the class of an exception that may have a dict -/
theorem mpe_class {Q : Option Value → Shared → Prop} (C : L2.ExcC K D) (X : K.In s.heap) (I : InstAt s.heap x ox D od) (h : Q (some (.ref D)) { s with toks := s.toks + 1 }) : wpAny (model prog w) A (getAttr? (.ref x) "__class__") Q E s := by
  have hf := class_found (od := od) C
  obtain ⟨hp, g, d, t, os⟩ := s
  have T := I.type (M := model prog w)
  have sub : Looks (model prog w) hp (isInstance (.ref x) (.type "BaseException")) true := T.andThen (looks_subIn X C.hs)
  have e1 : (Value.builtin "BaseException.__getattribute__" == Value.builtin "object.__getattribute__") = false := by decide +kernel
  unfold getAttr? getAttrBy? getAttrBy
  refine wpAny_bind (wpAny_mkText (wpAny_bind (wpAny_attempt (wpAny_holding (wpAny_bind (T.at (wpAny_bind ((looks_findIn (M := model prog w) X C.hg).at ?_))))))))
  show wpAny _ _ (if (onTheHeap (Value.ref D) && Value.builtin "BaseException.__getattribute__" == Value.builtin "object.__getattribute__") = true then _ else _) _ _ _
  rw [show (onTheHeap (Value.ref D) && Value.builtin "BaseException.__getattribute__" == Value.builtin "object.__getattribute__") = false by rw [e1]; rfl, if_neg Bool.false_ne_true]
  unfold getAttrByItsOwn hookBefore
  refine wpAny_bind ?_
  rw [if_pos (show onTheHeap (Value.ref D) = true from rfl)]
  refine (looks_findIn (M := model prog w) X C.hk).at (wpAny_bind (wpAny_attempt (wpAny_holding ?_)))
  unfold callGetattribute
  rw [show (false && onTheHeap (Value.builtin "BaseException.__getattribute__")) = false from rfl, if_neg Bool.false_ne_true]
  unfold boundAndCalled
  rw [PySem.F.excAttr_ValueError.ga.bind (.ref x)]
  refine wpAny_bind (wpAny_pure ?_)
  show wpAny _ _ (call (.builtin "BaseException.__getattribute__") [.ref x, .str "__class__" t]) _ _ _
  refine wpAny_call (codeAny_call_builtin PySem.F.excAttr_ValueError.ga.plain PySem.F.entry_bexc_ga ?_)
  refine @check_slot (model prog w) _ _ ⟨hp, g, d, t + 1, os⟩ "BaseException.__getattribute__" "BaseException" "__getattribute__" (.ref x) [.str "__class__" t] [] _ (by decide +kernel) (by decide +kernel) sub (PySem.F.args_bexc_ga (.ref x) (.str "__class__" t)) ?_
  unfold Builtin.«object.__getattribute__»
  refine wpAny_bind (wpAny_of_eq (a := ((Value.ref x : Value), [Value.str "__class__" t])) (by first | rfl | (simp only [slotArgs]; rfl)) ?_)
  refine wpAny_bind (wpAny_pure (wpAny_bind (T.at (wpAny_bind ((looks_find (M := model prog w) X I hf).at ?_)))))
  show wpAny _ _ (holding [Value.builtin "object.__class__"] (call (.builtin "getset_descriptor.__get__") [.builtin "object.__class__", .ref x, .ref D]) >>= ret) _ _ _
  refine wpAny_bind (wpAny_holding (wpAny_call (class_get (s := ⟨hp, g, d, t + 1, os⟩) (ox := ox) (od := od) X I C.hm ?_)))
  refine wpAny_pure ?_
  show wpAny _ _ (handedOut (.ref D)) _ _ _
  rw [handedOut_of (v := .ref D) rfl]
  first
    | exact wpAny_pure (wpAny_pure h)
    | exact wpAny_pure h
    | exact wpAny_pure (wpAny_bind (wpAny_pure (wpAny_pure h)))
theorem mpe_kit (C : L2.ExcC K D) : KitX K (.ref x) (.ref D) (fun h => InstAt h x ox D od) where
  ty := fun _ _ _ I => I.type
  it := fun M h X _ => by
    obtain ⟨cd, hc, _⟩ := any_some C.hd
    unfold clsIn at hc
    split at hc
    · rename_i c' d' cd' sl' ho
      exact fun _ _ _ _ k q => by
        unfold isType loadHead
        exact wpAny_bind (wpAny_loadPart (k _ _ (X _ _ ho)) (wpAny_pure q))
    · cases hc
  ne := fun h tp dd its n sl X htp => by
    obtain ⟨cd, hc, _⟩ := any_some C.hd
    cases q : (Value.ref D == Value.ref tp) with
    | false => rfl
    | true =>
      have e : D = tp := Value.ref.inj (beq_iff_eq.mp q)
      subst e
      unfold clsIn at hc
      split at hc
      · rename_i c' d' cd' sl' ho
        cases (X _ _ ho).symm.trans htp
      · cases hc
  ca := fun X I k => mpe_class C X I k
end
end PySem.W
namespace M
open PySem L2 PySem.Spec PyProof.Rows
section
variable {X : Cx} {pins : List (Addr × Obj)} {σ : L2.St} {H : Hp} {s : Shared} {w : Wd} {G : Hp}
/-- where an exception is told of, it stands -/
theorem exV_at {a C : Addr} {d : Option Addr} (I : L2.Inv X pins σ H s) (h : H a = some (exV C d a)) : ∃ (oe : Obj) (vs : Array Value), s.heap.get? a = some oe ∧ oe.cls = .ref C ∧ oe.dict = d ∧ oe.data = .fields vs :=
  (show ObjOk X.prog X.w H s.heap a (exV C d a) from I.hok a _ h).1
theorem rep_exc {c : Str} {fs : List (Str × Val)} {x : V} : Rep w G (.exc c fs) x ↔ ∃ a C d, x = .ref a ∧ G a = some (exV C d a) ∧ w.CM c = some C ∧ ((d = none ∧ fs = []) ∨ ∃ dd xs, d = some dd ∧ G dd = some (.xd xs) ∧ RepF w G fs xs) := by rw [Rep]
theorem rrep_exc (le : Le G H) {c : Str} {fs : List (Str × Val)} {x : V} (h : RRep w G H (.exc c fs) x) : ∃ a C d, x = .ref a ∧ H a = some (exV C d a) ∧ w.CM c = some C ∧ ((d = none ∧ fs = []) ∨ ∃ dd xs, d = some dd ∧ H dd = some (.xd xs) ∧ RepF w G fs xs) := by
  rcases h with h | ⟨a, _, h⟩
  · obtain ⟨a, C, d, e, h1, h2, h3⟩ := rep_exc.mp h
    refine ⟨a, C, d, e, le _ _ h1, h2, ?_⟩
    rcases h3 with h3 | ⟨dd, xs, e1, e2, e3⟩
    · exact .inl h3
    · exact .inr ⟨dd, xs, e1, le _ _ e2, e3⟩
  · exact h.elim
end
/-- e.f of an exception -/
def tXfM (K : PySem.W.Frag) (f : Str) (te : TE) : TE := fun σ H Q => te σ H fun x H1 => ∃ a C dd xs v, x = .ref a ∧ H1 a = some (exV C (some dd) a) ∧ XfC K C ∧ PySem.W.findIn K (.ref C) f = some none ∧ H1 dd = some (.xd xs) ∧ xs.lookup f = some v ∧ Q v H1
theorem pe_xfM {X : Cx} {e : Expr} {te : TE} {f : Str} {pos : Pos} (he : PE X e te) (hb : attributeBase e f X.env (eval e X.env) = eval e X.env := by rfl) : PE X (.Attribute e f pos) (tXfM X.K f te) := by
  refine ⟨fun pins s σ H Q I h => ?_⟩
  refine attr_of hb (thn (he.run pins s σ H _ I h) fun u s1 hh => ?_)
  obtain ⟨x, H1, I1, rx, a, C, dd, xs, v, ex, h1, T, hno, h2, hl, q⟩ := hh
  subst ex
  obtain rfl : u = Value.ref a := rx
  obtain ⟨oe, vs, ha, hc, hd, hf⟩ := exV_at I1 h1
  have hx : ObjOk X.prog X.w H1 s1.heap dd (.xd xs) := I1.hok dd _ h2
  obtain ⟨mA, hns, hr⟩ := hx
  obtain ⟨ob, ho, hlk⟩ := lookIn_ns hns
  obtain ⟨z, hz, rz⟩ := RelO.some_of (v := v) (o := mA f) (by rw [← hl]; exact hr f)
  have J : PySem.W.InstAt s1.heap a oe C (some ob) := ⟨ha, hc, by unfold PySem.W.notCls; rw [hf] <;> rfl, by rw [hd]; exact ho⟩
  exact HandSPX.exc_get I1.kIn J T.ga T.gg T.exC (PySem.W.findObj_own T.hdC hno rfl (by rw [hlk, hz])) (handed_of rz) ⟨v, H1, I1.tok _, rz, q⟩
def Pxf (cs : List Str) (f : Str) : List Val → Option (Bool × Val)
  | [.exc c fs] => if c ∈ cs then (fs.lookup f).map fun v => (false, v) else none
  | _ => none
/-- the classes whose exceptions' field f is read -/
def XfOk (w : Wd) (cs : List Str) (f : Str) : Prop := ∀ c ∈ cs, ∃ C, w.CM c = some C ∧ XfC w.K C ∧ PySem.W.findIn w.K (.ref C) f = some none
theorem repF_lookup {w : Wd} {G : Hp} {f : Str} : ∀ {fs : List (Str × Val)} {xs : List (Str × V)} {v : Val}, RepF w G fs xs → fs.lookup f = some v → ∃ x, xs.lookup f = some x ∧ Rep w G v x
  | [], _, _, _, e => by simp [List.lookup] at e
  | (k, d) :: fs, _, v, r, e => by
    obtain ⟨y, ys, rfl, r1, r2⟩ := repF_cons.mp r
    rw [List.lookup_cons] at e ⊢
    by_cases h : f = k
    · subst h
      simp only [beq_self_eq_true, Option.some.injEq] at e ⊢
      subst e
      exact ⟨y, rfl, r1⟩
    · have hf : (f == k) = false := by simpa using h
      rw [hf] at e ⊢
      exact repF_lookup r2 e
theorem xf_of {w : Wd} {cs : List Str} {f : Str} {x : V} {H : Hp} {Q : VK} (hf : XfOk w cs f) (h : rOf w (Pxf cs f) [x] H Q) : ∃ a C dd xs v, x = .ref a ∧ H a = some (exV C (some dd) a) ∧ XfC w.K C ∧ PySem.W.findIn w.K (.ref C) f = some none ∧ H dd = some (.xd xs) ∧ xs.lookup f = some v ∧ Q v H := by
  obtain ⟨G, vs, o, z, le, rr, hp, q⟩ := h
  unfold Pxf at hp
  split at hp
  · rename_i c fs
    split at hp
    · rename_i hc
      rw [Option.map_eq_some_iff] at hp
      obtain ⟨v, e, e2⟩ := hp
      cases e2
      obtain ⟨y, e3, r1⟩ := rreps_one rr
      cases e3
      obtain ⟨a, C, d, ex, ha, hC, hd⟩ := rrep_exc le r1
      rcases hd with ⟨_, rfl⟩ | ⟨dd, xs, rfl, h1, h2⟩
      · simp [List.lookup] at e
      · obtain ⟨C', hC', T, hno⟩ := hf c hc
        rw [hC] at hC'
        cases hC'
        obtain ⟨u, hu, ru⟩ := repF_lookup h2 e
        exact ⟨a, C, dd, xs, u, ex, ha, T, hno, h1, hu, q u G H (Grow.refl le) (nrep_f ru)⟩
    · cases hp
  · cases hp
theorem pe_xfE {X : Cx} {A : Act} {W : WX} {e : Expr} {f : Str} {pos : Pos} {fo : OF} {cs : List Str} (hK : A.w.K = X.K) (hf : XfOk A.w cs f) (he : PE X e (tO A W fo)) (hb : attributeBase e f X.env (eval e X.env) = eval e X.env := by rfl) : PE X (.Attribute e f pos) (tE A W (prim (Pxf cs f) (osCons fo osNil))) :=
  PE.imp (pe_xfM he hb) fun σ H Q q => tO_mono (prim_os1 q) fun x H1 h => by
    obtain ⟨a, C, dd, xs, v, h1, h2, h3, h4, h5, h6, h7⟩ := xf_of hf h
    rw [hK] at h3 h4
    exact ⟨a, C, dd, xs, v, h1, h2, h3, h4, h5, h6, h7⟩
/-! ### isinstance -/
abbrev ETb := List ((Str × Str) × Bool) × List ((Str × String) × Bool)
def isE (tb : ETb) (c : Str) : Val → Option Bool
  | .cls D => tb.1.lookup (c, D)
  | .ty T => tb.2.lookup (c, T)
  | _ => none
def isEs (tb : ETb) (c : Str) : List Val → Option Bool
  | [] => some false
  | d :: ds => match isE tb c d with
    | some true => some true
    | some false => isEs tb c ds
    | none => none
def PisE (tb : ETb) : List Val → Option (Bool × Val)
  | [.exc c _, .cls D] => (isE tb c (.cls D)).map fun b => (false, .bl b)
  | [.exc c _, .ty T] => (isE tb c (.ty T)).map fun b => (false, .bl b)
  | [.exc c _, .tup (d :: ds)] => (isEs tb c (d :: ds)).map fun b => (false, .bl b)
  | _ => none
/-- what the table says is so -/
def EoOk (w : Wd) (tb : List ((Str × Str) × Bool)) : Prop := ∀ c D b, tb.lookup (c, D) = some b → ∃ C E, w.CM c = some C ∧ ExcC w.K C ∧ w.CM D = some E ∧ PySem.W.kitOne w.K (.ref C) (.ref E) = some b
def EtOk (w : Wd) (tb : List ((Str × String) × Bool)) : Prop := ∀ c T b, tb.lookup (c, T) = some b → ∃ C, w.CM c = some C ∧ ExcC w.K C ∧ PySem.W.kitOne w.K (.ref C) (.type T) = some b
theorem eo_nil {w : Wd} : EoOk w [] := fun _ _ _ h => by cases h
theorem et_nil {w : Wd} : EtOk w [] := fun _ _ _ h => by cases h
theorem eo_cons {w : Wd} {tb : List ((Str × Str) × Bool)} {c D : Str} {b : Bool} {C E : Addr} (h1 : w.CM c = some C) (h2 : ExcC w.K C) (h3 : w.CM D = some E) (h4 : PySem.W.kitOne w.K (.ref C) (.ref E) = some b) (r : EoOk w tb) : EoOk w (((c, D), b) :: tb) := fun c' D' b' h => by
  rw [List.lookup_cons] at h
  split at h
  · rename_i e
    have e := beq_iff_eq.mp e
    cases e; cases h
    exact ⟨C, E, h1, h2, h3, h4⟩
  · exact r c' D' b' h
theorem et_cons {w : Wd} {tb : List ((Str × String) × Bool)} {c : Str} {T : String} {b : Bool} {C : Addr} (h1 : w.CM c = some C) (h2 : ExcC w.K C) (h4 : PySem.W.kitOne w.K (.ref C) (.type T) = some b) (r : EtOk w tb) : EtOk w (((c, T), b) :: tb) := fun c' D' b' h => by
  rw [List.lookup_cons] at h
  split at h
  · rename_i e
    have e := beq_iff_eq.mp e
    cases e; cases h
    exact ⟨C, h1, h2, h4⟩
  · exact r c' D' b' h
def ETbOk (w : Wd) (tb : ETb) : Prop := EoOk w tb.1 ∧ EtOk w tb.2
section
variable {w : Wd} {G H : Hp}
theorem isE_kit {tb : ETb} {c : Str} {C : Addr} {v : Val} {x : V} {u : Value} {b : Bool} (T : ETbOk w tb) (hC : w.CM c = some C) (le : Le G H) (r : RRep w G H v x) (ru : RelV x u) (h : isE tb c v = some b) : PySem.W.kitOne w.K (.ref C) u = some b ∧ ExcC w.K C := by
  cases v with
  | cls D =>
    obtain ⟨C', E, h1, h2, h3, h4⟩ := T.1 c D b h
    rw [hC] at h1; cases h1
    rcases r with r | ⟨_, _, r⟩
    · rw [Rep] at r
      obtain ⟨E', h5, rfl⟩ := r
      rw [h3] at h5; cases h5
      obtain rfl : u = Value.ref E := ru
      exact ⟨h4, h2⟩
    · exact r.elim
  | ty S =>
    obtain ⟨C', h1, h2, h4⟩ := T.2 c S b h
    rw [hC] at h1; cases h1
    obtain rfl := rrep_ty r
    obtain rfl : u = Value.type S := ru
    exact ⟨h4, h2⟩
  | _ => simp [isE] at h
theorem isEs_kit {tb : ETb} {c : Str} {C : Addr} (T : ETbOk w tb) (hC : w.CM c = some C) (le : Le G H) : ∀ {ds : List Val} {xs : List V} {us : List Value} {b : Bool}, isEs tb c ds = some b → Reps w G ds xs → Vals xs us → PySem.W.kitAny w.K (.ref C) us = some b ∧ (ds = [] ∨ ExcC w.K C)
  | [], _, _, b, h, r, v => by
    rw [reps_nil] at r; subst r; cases v; cases h; exact ⟨rfl, .inl rfl⟩
  | d :: ds, _, _, b, h, r, v => by
    rw [reps_cons] at r; obtain ⟨y, ys, e, r1, r2⟩ := r
    subst e
    cases v with
    | @cons _ u _ us h1 h2 =>
      simp only [isEs] at h
      split at h
      · rename_i e; cases h
        have k := isE_kit T hC le (.inl r1) h1 e
        exact ⟨L2.kitAny_cons k.1 (fun z => nomatch z) (fun _ => rfl), .inr k.2⟩
      · rename_i e
        have k := isE_kit T hC le (.inl r1) h1 e
        exact ⟨L2.kitAny_cons k.1 (fun _ => (isEs_kit T hC le h r2 h2).1) (fun z => nomatch z), .inr k.2⟩
      · cases h
end
theorem bi_isE {X : Cx} {w : Wd} {tb : ETb} (hK : w.K = X.K) (T : ETbOk w tb) : CallR X (.builtin "isinstance") (rOf w (PisE tb)) := by
  intro pins s σ H xs us Q I r ⟨G, vs, o, z, le, rr, hp, q⟩
  have one : ∀ {c : Str} {fs : List (Str × Val)} {v : Val} {b : Bool}, vs = [.exc c fs, v] → isE tb c v = some b → (o, z) = (false, .bl b) → wpAny (model X.prog X.w) X.A (call (.builtin "isinstance") us) (fun u s' => EP X pins σ Q u s') X.xe s := by
    intro c fs v b e1 e2 e3
    subst e1
    cases e3
    obtain ⟨x, y, e, r1, r2⟩ := rreps_two rr
    subst e
    obtain ⟨u1, u2, rfl, g1, g2⟩ := vals2 r
    obtain ⟨a, C, d, rfl, ha, hC, hd⟩ := rrep_exc le r1
    obtain ⟨k1, k2⟩ := isE_kit T hC le r2 g2 e2
    rw [hK] at k1 k2
    obtain rfl : u1 = Value.ref a := g1
    obtain ⟨oe, us2, q1, q2, q3, q4⟩ := exV_at I ha
    obtain ⟨od, J⟩ : ∃ od, PySem.W.InstAt s.heap a oe C od := by
      rcases hd with ⟨rfl, _⟩ | ⟨dd, ys, rfl, h1, _⟩
      · exact ⟨none, q1, q2, by unfold PySem.W.notCls; rw [q4] <;> rfl, by rw [q3]; trivial⟩
      · obtain ⟨mA, hns, _⟩ := (show ObjOk X.prog X.w H s.heap dd (.xd ys) from I.hok dd _ h1)
        obtain ⟨ob, ho, _⟩ := lookIn_ns hns
        exact ⟨some ob, q1, q2, by unfold PySem.W.notCls; rw [q4] <;> rfl, by rw [q3]; exact ho⟩
    exact PySem.W.kia_one (PySem.W.mpe_kit k2) I.kIn J k1 (fun z => nomatch z) fun tk => ⟨.bl b, H, I.tok tk, rfl, bl_new le q⟩
  unfold PisE at hp
  split at hp
  · rw [Option.map_eq_some_iff] at hp
    obtain ⟨b, hb, e⟩ := hp
    exact one rfl hb e.symm
  · rw [Option.map_eq_some_iff] at hp
    obtain ⟨b, hb, e⟩ := hp
    exact one rfl hb e.symm
  · rename_i c fs d0 ds
    rw [Option.map_eq_some_iff] at hp
    obtain ⟨b, hb, e⟩ := hp
    cases e
    obtain ⟨x, y, e, r1, r2⟩ := rreps_two rr
    subst e
    obtain ⟨u1, u2, rfl, g1, g2⟩ := vals2 r
    obtain ⟨a, C, d, rfl, ha, hC, hd⟩ := rrep_exc le r1
    obtain ⟨tp, zs, rfl, h, rs⟩ := rrep_tup le r2
    rw [hK] at h
    obtain ⟨its, rv, ⟨ob, ho, hc, n, hdt⟩, _⟩ := I.tuple h
    obtain rfl : u2 = Value.ref tp := g2
    obtain rfl : u1 = Value.ref a := g1
    obtain ⟨k1, k2⟩ := isEs_kit T hC le hb rs rv
    rw [hK] at k1 k2
    obtain ⟨oc, od2, dt, sl⟩ := ob
    simp only at hc hdt
    subst hc hdt
    obtain ⟨oe, us2, q1, q2, q3, q4⟩ := exV_at I ha
    obtain ⟨od, J⟩ : ∃ od, PySem.W.InstAt s.heap a oe C od := by
      rcases hd with ⟨rfl, _⟩ | ⟨dd, ys, rfl, h1, _⟩
      · exact ⟨none, q1, q2, by unfold PySem.W.notCls; rw [q4] <;> rfl, by rw [q3]; trivial⟩
      · obtain ⟨mA, hns, _⟩ := (show ObjOk X.prog X.w H s.heap dd (.xd ys) from I.hok dd _ h1)
        obtain ⟨ob, ho, _⟩ := lookIn_ns hns
        exact ⟨some ob, q1, q2, by unfold PySem.W.notCls; rw [q4] <;> rfl, by rw [q3]; exact ho⟩
    rcases k2 with k2 | k2
    · cases k2
    · exact PySem.W.kia_tup (PySem.W.mpe_kit k2) I.kIn J ho k1 (fun z => nomatch z) fun tk => ⟨.bl b, H, I.tok tk, rfl, bl_new le q⟩
  · cases hp
end M
/-! MPE3: try and raise as combinators. -/
namespace M
open PySem L2 PySem.Spec PyProof.Rows
/-- an except clause: of which classes it takes, the slot of its name, its suite -/
structure Hnd where
  m : List (Str × Bool)
  nm : Option Nat
  su : SF
def endS (nm : Option Nat) : SR → SR
  | .nx r => .nx (match nm with | some i => r.set i none | none => r)
  | .bk r => .bk (match nm with | some i => r.set i none | none => r)
  | .ct r => .ct (match nm with | some i => r.set i none | none => r)
  | .rt o v r => .rt o v r
  | .ex _ _ => .bad
  | .bad => .bad
def hndS : List Hnd → Str → List (Str × Val) → Env → SR
  | [], c, fs, r => .ex (.exc c fs) r
  | h :: hs, c, fs, r => match h.m.lookup c with
    | some true => endS h.nm (h.su (match h.nm with | some i => r.set i (some (false, .exc c fs)) | none => r))
    | some false => hndS hs c fs r
    | none => .bad
def tryS (b : SF) (hs : List Hnd) : SF := fun r => match b r with
  | .ex (.exc c fs) r1 => hndS hs c fs r1
  | .ex _ _ => .bad
  | x => x
/-- what a clause's table says is so -/
def MOk (w : Wd) (cv : Value) (m : List (Str × Bool)) : Prop := ∀ c b, m.lookup c = some b → ∃ C, w.CM c = some C ∧ PySem.W.exmOne w.K (.ref C) cv = some b
theorem mok_nil {w : Wd} {cv : Value} : MOk w cv [] := fun _ _ h => by cases h
theorem mok_cons {w : Wd} {cv : Value} {m : List (Str × Bool)} {c : Str} {b : Bool} {C : Addr} (h1 : w.CM c = some C) (h2 : PySem.W.exmOne w.K (.ref C) cv = some b) (r : MOk w cv m) : MOk w cv ((c, b) :: m) := fun c' b' h => by
  rw [List.lookup_cons] at h
  split at h
  · rename_i e
    have e := beq_iff_eq.mp e
    subst e; cases h
    exact ⟨C, h1, h2⟩
  · exact r c' b' h
section
variable {A : Act} {G H : Hp} {σ : L2.St} {r : Env}
/-- the slot of a caught exception -/
theorem Ok.caught {a : Addr} {o : HO} (k : Ok A G H σ r) (n : H a = none) (ho : ∀ ps, o ≠ .tbl ps := by intro _ z; cases z) : Ok A (upd G a o) (upd H a o) σ r := by
  have ng : G a = none := k.sub.back n
  refine k.freezeT ng (.inl n) ho (fun ⟨i, v, h1, h2⟩ => ?_) (k.fresh n)
  obtain ⟨b, e, ro, _, _⟩ := k.ow i v h1
  rw [h2] at e
  cases e
  obtain ⟨u, hu, _⟩ := ro.has
  rw [n] at hu
  cases hu
end
/-- the clauses, as HandS's and as combinators -/
inductive HdsM (X : Cx) (A : Act) : List ExceptHandler → List Hnd → List Hsp → Prop
  | nil : HdsM X A [] [] []
  | one {x : Str} {c : Value} {b₀ : Stmt} {suite : List Stmt} {np pos' : Pos} {m : List (Str × Bool)} {su : SF} {hds : List ExceptHandler} {hs : List Hnd} {l : List Hsp} (hc : Names X x c) (hm : MOk A.w c m)
      (hsu : ∀ (a : Addr) (pn : List (Addr × Obj)), PSs (X.suite a pn) (b₀ :: suite) (tSt A W0 su)) (r : HdsM X A hds hs l) :
      HdsM X A (.ExceptHandler (some (.Name x np)) none (b₀ :: suite) pos' :: hds) (⟨m, none, su⟩ :: hs) (⟨c, none, fun _ _ _ => tSt A W0 su⟩ :: l)
  | as_ {x n : Str} {i : Nat} {c : Value} {b₀ : Stmt} {suite : List Stmt} {np pos' : Pos} {m : List (Str × Bool)} {su : SF} {hds : List ExceptHandler} {hs : List Hnd} {l : List Hsp} (hc : Names X x c) (hm : MOk A.w c m) (hi : X.N[i]? = some n) (hln : X.env.kindOf n = some .local) (hio : i ∉ A.io)
      (hsu : ∀ (a : Addr) (pn : List (Addr × Obj)), PSs (X.suite a pn) (b₀ :: suite) (tSt A W0 su)) (r : HdsM X A hds hs l) :
      HdsM X A (.ExceptHandler (some (.Name x np)) (some n) (b₀ :: suite) pos' :: hds) (⟨m, some i, su⟩ :: hs) (⟨c, some i, fun _ _ _ => tSt A W0 su⟩ :: l)
theorem HdsM.hds {X : Cx} {A : Act} {h : List ExceptHandler} {hs : List Hnd} {l : List Hsp} (k : HdsM X A h hs l) : HdsT X h l := by
  induction k with
  | nil => exact .nil
  | one hc _ hsu _ ih => exact .one hc (fun a _ _ pn => hsu a pn) ih
  | as_ hc _ hi hln _ hsu _ ih => exact .as_ hc hi hln (fun a _ _ pn => hsu a pn) ih
theorem Ok.wipe1 {A : Act} {G H : Hp} {σ : L2.St} {r : Env} {i : Nat} (k : Ok A G H σ r) (hio : i ∉ A.io) : Ok A G H (σ.set i none) (r.set i none) := by
  have := k.wipe (sl := [i]) fun j hj z => hio (by rw [List.mem_singleton.mp z] at hj; exact hj)
  exact this
theorem hnd_of {X : Cx} {A : Act} {W : WX} {D : Ends} (hK : A.w.K = X.K) {h : List ExceptHandler} {hs : List Hnd} {l : List Hsp} (k : HdsM X A h hs l) : ∀ {c : Str} {fs : List (Str × Val)} {r : Env} {σ : L2.St} {G H : Hp} {C : Addr} {d : Option Addr}, Ok A G H σ r → A.w.CM c = some C → XdOk A.w G H d fs →
    Fin A W G D (hndS hs c fs r) → wTry X.K W D l (.ref C) d σ H := by
  have look : ∀ {c : Str} {cv : Value} {m : List (Str × Bool)} {b : Bool} {C : Addr}, MOk A.w cv m → A.w.CM c = some C → m.lookup c = some b → PySem.W.exmOne X.K (.ref C) cv = some b := fun hm hC e => by
    obtain ⟨C', h1, h2⟩ := hm _ _ e
    rw [hC] at h1
    cases h1
    rw [hK] at h2
    exact h2
  induction k with
  | nil =>
    intro c fs r σ G H C d k hC hd hF
    exact hF σ G H C d k (Le.refl _) hC hd
  | @one x cv b₀ suite np pos' m su hds hs l hc hm hsu _ ih =>
    intro c fs r σ G H C d k hC hd hF
    simp only [hndS] at hF
    cases hl : m.lookup c with
    | none => simp only [hl] at hF; exact hF.elim
    | some b =>
      cases b with
      | false =>
        simp only [hl] at hF
        exact ⟨false, look hm hC hl, (fun z => nomatch z), fun _ => ih k hC hd hF⟩
      | true =>
        simp only [hl] at hF
        refine ⟨true, look hm hC hl, fun _ => ⟨C, rfl, fun a na => ?_⟩, fun z => nomatch z⟩
        have ng : G a = none := k.sub.back na
        refine ⟨r, _, k.caught (o := exV C d a) na, ?_⟩
        revert hF
        cases su r with
        | nx r2 => exact fun hF σ' G' H' k' le => hF σ' G' H' k' ((Le.new ng).trans le)
        | bk r2 => exact fun hF σ' G' H' k' le => hF σ' G' H' k' ((Le.new ng).trans le)
        | ct r2 => exact fun hF σ' G' H' k' le => hF σ' G' H' k' ((Le.new ng).trans le)
        | rt o v r2 => exact fun hF x σ' G' H' k' le => hF x σ' G' H' k' ((Le.new ng).trans le)
        | ex e r2 => exact fun hF => hF.elim
        | bad => exact fun hF => hF.elim
  | @as_ x n i cv b₀ suite np pos' m su hds hs l hc hm hi hln hio hsu _ ih =>
    intro c fs r σ G H C d k hC hd hF
    simp only [hndS] at hF
    cases hl : m.lookup c with
    | none => simp only [hl] at hF; exact hF.elim
    | some b =>
      cases b with
      | false =>
        simp only [hl] at hF
        exact ⟨false, look hm hC hl, (fun z => nomatch z), fun _ => ih k hC hd hF⟩
      | true =>
        simp only [hl] at hF
        refine ⟨true, look hm hC hl, fun _ => ⟨C, rfl, fun a na => ?_⟩, fun z => nomatch z⟩
        have ng : G a = none := k.sub.back na
        have k2 := k.caught (o := exV C d a) na
        have rp : Rep A.w (upd G a (exV C d a)) (.exc c fs) (.ref a) := by
          refine rep_exc.mpr ⟨a, C, d, rfl, upd_same, hC, ?_⟩
          rcases hd with hd | ⟨dd, xs, e1, e2, e3⟩
          · exact .inl hd
          · exact .inr ⟨dd, xs, e1, Le.new ng _ _ e2, e3.mono (Le.new ng)⟩
        refine ⟨_, _, k2.store (o := false) (v := .exc c fs) rp hio, ?_⟩
        revert hF
        show Fin A W G D (endS (some i) (su (r.set i (some (false, .exc c fs))))) → Fin A W0 _ (gone i D) (su (r.set i (some (false, .exc c fs))))
        cases su (r.set i (some (false, .exc c fs))) with
        | nx r2 => exact fun hF σ' G' H' k' le => hF _ G' H' (k'.wipe1 hio) ((Le.new ng).trans le)
        | bk r2 => exact fun hF σ' G' H' k' le => hF _ G' H' (k'.wipe1 hio) ((Le.new ng).trans le)
        | ct r2 => exact fun hF σ' G' H' k' le => hF _ G' H' (k'.wipe1 hio) ((Le.new ng).trans le)
        | rt o v r2 => exact fun hF x σ' G' H' k' le => hF x σ' G' H' k' ((Le.new ng).trans le)
        | ex e r2 => exact fun hF => hF.elim
        | bad => exact fun hF => hF.elim
theorem ps_tryM {X : Cx} {A : Act} {W : WX} {body : List Stmt} {h₀ : ExceptHandler} {hds : List ExceptHandler} {pos : Pos} {b : SF} {hs : List Hnd} {l : List Hsp} (hst : X.stack = X.env :: X.outer) (hf : X.env.frame = some X.env.locals) (hN : X.N.Nodup) (hK : A.w.K = X.K) (tk : Takes X W)
    (hb : ∀ (W : WX) (pn : List (Addr × Obj)) (xe : Value → Shared → Prop), Takes (X.tr pn xe) W → PSs (X.tr pn xe) body (tSt A W b)) (k : HdsM X A (h₀ :: hds) hs l) : PS X (.Try body (h₀ :: hds) [] [] pos) (tSt A W (tryS b hs)) :=
  PS.imp (ps_tryT hst hf hN tk (fun W pn xe tk _ => hb W pn xe tk) k.hds) fun D σ H ⟨r, G, kk, m⟩ => ⟨r, G, kk, by
    unfold tryS at m
    revert m
    cases b r with
    | nx r2 => exact id
    | bk r2 => exact id
    | ct r2 => exact id
    | rt o v r2 => exact id
    | bad => exact id
    | ex e r1 =>
      cases e with
      | exc c fs => exact fun m σ' G' H' C d k' le hC hd => hnd_of hK k k' hC hd (Fin.mono le m)
      | _ => exact fun m => m.elim⟩
/-! ### raise -/
def raiC (c : Str) (fl : List Str) (f : OsF) : SF := fun r => match f r with
  | .ok hs r1 => match lend r1 hs with
    | some as => if lents as = 0 ∧ as.length = fl.length then .ex (.exc c (fl.zip (as.map (·.2))).reverse) r1 else .bad
    | none => .bad
  | .ex e r1 => .ex e r1
  | .bad => .bad
/-- what the making of an exception by its own __init__ leaves -/
def spIni (C : Addr) (fl : List Str) : Sp := fun vs H Q _ => ∃ a ys, vs = .ref a :: ys ∧ ys.length = fl.length ∧ H a = some (exo a C none) ∧ ∀ d, H d = none → d ≠ a → Q .non (upd (upd H d (exd d (fl.zip ys).reverse)) a (exo a C (some d)))
section
variable {w : Wd} {G : Hp}
theorem repF_app : ∀ {fs gs : List (Str × Val)} {xs ys : List (Str × V)}, RepF w G fs xs → RepF w G gs ys → RepF w G (fs ++ gs) (xs ++ ys)
  | [], _, _, _, r, q => by rw [repF_nil.mp r]; exact q
  | (k, d) :: fs, _, _, _, r, q => by
    obtain ⟨y, ys, rfl, r1, r2⟩ := repF_cons.mp r
    exact repF_cons.mpr ⟨y, _, rfl, r1, repF_app r2 q⟩
theorem repF_rev : ∀ {fs : List (Str × Val)} {xs : List (Str × V)}, RepF w G fs xs → RepF w G fs.reverse xs.reverse
  | [], _, r => by rw [repF_nil.mp r]; exact repF_nil.mpr rfl
  | (k, d) :: fs, _, r => by
    obtain ⟨y, ys, rfl, r1, r2⟩ := repF_cons.mp r
    rw [List.reverse_cons, List.reverse_cons]
    exact repF_app (repF_rev r2) (repF_cons.mpr ⟨y, [], rfl, r1, repF_nil.mpr rfl⟩)
theorem repF_zip : ∀ {fl : List Str} {vs : List Val} {xs : List V}, Reps w G vs xs → RepF w G (fl.zip vs) (fl.zip xs)
  | [], _, _, _ => repF_nil.mpr rfl
  | _ :: _, [], _, r => by rw [reps_nil.mp r]; exact repF_nil.mpr rfl
  | f :: fl, v :: vs, _, r => by
    obtain ⟨y, ys, rfl, r1, r2⟩ := reps_cons.mp r
    exact repF_cons.mpr ⟨y, _, rfl, r1, repF_zip r2⟩
end
theorem rai_of {A : Act} {W : WX} {cn : Str} {fl : List Str} {f : OsF} {C : Addr} {σ : L2.St} {H : Hp} {D : Ends} (hC : A.w.CM cn = some C) (hl : fl.length ≤ 1000) (h : tSt A W (raiC cn fl f) D σ H) : tMkO C (spIni C fl) [] (tOs A W f) σ H fun cls d H' => W cls d σ H' := by
  obtain ⟨r, G, k, m⟩ := h
  refine ⟨r, G, k, ?_⟩
  unfold raiC at m
  cases hf : f r with
  | bad => rw [hf] at m; exact m.elim
  | ex e r' => rw [hf] at m; exact m σ
  | ok hs r1 =>
    simp only [hf] at m
    intro xs G1 H1 k1 st1 t1
    cases hld : lend r1 hs with
    | none => simp only [hld] at m; exact m.elim
    | some as =>
      simp only [hld] at m
      by_cases hc : lents as = 0 ∧ as.length = fl.length
      · rw [if_pos hc] at m
        have ar := lend_rel k1 hld t1
        have len := arel_length ar
        refine ⟨by omega, fun a na => ⟨a, xs, by rw [List.append_nil], by omega, upd_same, fun d nd hda => ⟨rfl, d, (fl.zip xs).reverse, upd_same, ?_, ?_, ?_⟩⟩⟩
        · rw [upd_ne hda, upd_same]
        · rw [upd_ne hda] at nd; exact nd
        · have nd1 : H1 d = none := by rw [upd_ne hda] at nd; exact nd
          have e : upd (del (upd (upd (upd H1 a (exo a C none)) d (exd d (fl.zip xs).reverse)) a (exo a C (some d))) a) d (.xd (fl.zip xs).reverse) = upd H1 d (.xd (fl.zip xs).reverse) := by
            funext b
            by_cases hb : b = d
            · subst hb; rw [upd_same, upd_same]
            · rw [upd_ne hb, upd_ne hb]
              by_cases hb2 : b = a
              · subst hb2; rw [del_same, na]
              · rw [del_ne hb2, upd_ne hb2, upd_ne hb, upd_ne hb2]
          rw [e]
          have ng : G1 d = none := k1.sub.back nd1
          exact m σ _ _ C (some d) (k1.caught nd1) (st1.ex.trans (Le.new ng)) hC (.inr ⟨d, _, rfl, upd_same, (repF_rev (repF_zip (arel_reps hc.1 ar))).mono (Le.new ng)⟩)
      · rw [if_neg hc] at m; exact m.elim
theorem ps_raiM {X : Cx} {A : Act} {W : WX} {e : Expr} {pos : Pos} {cn : Str} {fl : List Str} {f : OsF} {C : Addr} (c : Cal X A.w) (tk : Takes X W) (hC : A.w.CM cn = some C) (he : PMk X e (tMkO C (spIni C fl) [] (tOs A W f))) (hl : fl.length ≤ 1000 := by decide) : PS X (.Raise (some e) none pos) (tSt A W (raiC cn fl f)) :=
  PS.imp (ps_raise c.calm tk he) fun D σ H h => rai_of hC hl h
/-! ### the own __init__ -/
section
variable {P : Program} {w : World} {K : PySem.W.Frag} {mg : Str → Option Value} {base : Heap}
theorem vis_of {N ps : List Str} {sc : Scope} (S : FnScope N ps sc) {x : Str} (h : x ∈ ps) : Vis sc x := (S.par x h).elim .inl fun z => .inr (.inl z)
theorem ini1 {qual n0 n1 f1 : Str} {st : Stmt} {fI C : Addr} {fd : FuncData} {q1 q2 q3 q4 : Pos} (F : FunQ K "__init__" qual st fI fd) (S : FnScope [n0, n1] [n0, n1] (defScope st)) (T : OexC K C) (hno : PySem.W.findIn K (.ref C) f1 = some none)
    (hst : defBody st = [.Assign [.Attribute (.Name n0 q1) f1 q2] (.Name n1 q3) q4]) (h0 : (n0 == ("__debug__" : Str)) = false := by decide) (h0' : (n0 == ("__classdict__" : Str)) = false := by decide) (h1 : (n1 == ("__debug__" : Str)) = false := by decide) (h1' : (n1 == ("__classdict__" : Str)) = false := by decide) :
    FnOk P w K mg base (L2.CX P w) 1 fI fd [n0, n1] (spIni C [f1]) := by
  refine FunD.ok F S (fun vs H Q E ⟨a, ys, e, l, _⟩ => by subst e; simpa using l) fun cdv A outer s H vs Q E _ ⟨a, ys, e, l, ea, q⟩ => ?_
  subst e
  obtain ⟨y, rfl⟩ : ∃ y, ys = [y] := by
    cases ys with
    | nil => cases l
    | cons y r => cases r with
      | nil => exact ⟨y, rfl⟩
      | cons _ _ => cases l
  rw [hst]
  refine ⟨_, pss_one (ps_ost (pe_var (i := 0) rfl (vis_of S (by simp)) h0 h0') (pe_var (i := 1) rfl (vis_of S (by simp)) h1 h1')), ?_⟩
  exact ⟨y, rfl, .ref a, rfl, a, C, rfl, T, hno, .inl ⟨ea, fun d hd hda => q d hd hda⟩⟩
theorem ini2 {qual n0 n1 n2 f1 f2 : Str} {st : Stmt} {fI C : Addr} {fd : FuncData} {q1 q2 q3 q4 p1 p2 p3 p4 : Pos} (F : FunQ K "__init__" qual st fI fd) (S : FnScope [n0, n1, n2] [n0, n1, n2] (defScope st)) (T : OexC K C) (hno : PySem.W.findIn K (.ref C) f1 = some none) (hno2 : PySem.W.findIn K (.ref C) f2 = some none)
    (hst : defBody st = [.Assign [.Attribute (.Name n0 q1) f1 q2] (.Name n1 q3) q4, .Assign [.Attribute (.Name n0 p1) f2 p2] (.Name n2 p3) p4]) (h0 : (n0 == ("__debug__" : Str)) = false := by decide) (h0' : (n0 == ("__classdict__" : Str)) = false := by decide) (h1 : (n1 == ("__debug__" : Str)) = false := by decide) (h1' : (n1 == ("__classdict__" : Str)) = false := by decide) (h2 : (n2 == ("__debug__" : Str)) = false := by decide) (h2' : (n2 == ("__classdict__" : Str)) = false := by decide) :
    FnOk P w K mg base (L2.CX P w) 1 fI fd [n0, n1, n2] (spIni C [f1, f2]) := by
  refine FunD.ok F S (fun vs H Q E ⟨a, ys, e, l, _⟩ => by subst e; simpa using l) fun cdv A outer s H vs Q E _ ⟨a, ys, e, l, ea, q⟩ => ?_
  subst e
  obtain ⟨y, z, rfl⟩ : ∃ y z, ys = [y, z] := by
    match ys, l with
    | [y, z], _ => exact ⟨y, z, rfl⟩
  rw [hst]
  refine ⟨_, pss_cons (ps_ost (pe_var (i := 0) rfl (vis_of S (by simp)) h0 h0') (pe_var (i := 1) rfl (vis_of S (by simp)) h1 h1')) (pss_one (ps_ost (pe_var (i := 0) rfl (vis_of S (by simp)) h0 h0') (pe_var (i := 2) rfl (vis_of S (by simp)) h2 h2'))), ?_⟩
  refine ⟨y, rfl, .ref a, rfl, a, C, rfl, T, hno, .inl ⟨ea, fun d hd hda => ?_⟩⟩
  refine ⟨z, rfl, .ref a, rfl, a, C, rfl, T, hno2, .inr ⟨d, [(f1, y)], upd_same, by rw [upd_ne hda, upd_same], by simp, ?_⟩⟩
  have e : upd (upd (upd H d (exd d [(f1, y)])) a (exo a C (some d))) d (exd d [(f2, z), (f1, y)]) = upd (upd H d (exd d ([f1, f2].zip [y, z]).reverse)) a (exo a C (some d)) := by
    funext b
    by_cases hb : b = d
    · subst hb; rw [upd_same, upd_ne hda, upd_same]; rfl
    · rw [upd_ne hb]
      by_cases hb2 : b = a
      · subst hb2; rw [upd_same, upd_same]
      · rw [upd_ne hb2, upd_ne hb2, upd_ne hb, upd_ne hb]
  rw [e]
  exact q d hd hda
end
/-- C(e, ..) that is raised -/
theorem pmk_M {X : Cx} {x : Str} {C fI : Addr} {k : Nat} {fd : FuncData} {ps : List Str} {fl : List Str} {e : Expr} {es : List Expr} {ta : TA} {p pos : Pos} (T : OexC X.K C) (iC : PySem.W.findIn X.K (.ref C) "__init__" = some (some (.ref fI))) (tI : PySem.W.typeIn X.K (.ref fI) = some (.type "function"))
    (F1 : FnOk X.prog X.w X.K X.mg X.base (L2.CX X.prog X.w) k fI fd ps (spIni C fl)) (hr : RoomG (k + 1) X.A) (hb : Binds X.K fd ps []) (hg : Gl X x) (hm : X.mg x = some (.ref C)) (ha : PA X (e :: es) ta)
    (hdb : (x == ("__debug__" : Str)) = false := by decide) (he : NoStar X e es := by rfl) (hpl : NoStars X es pos := by rfl) :
    PMk X (.Call (.Name x p) (e :: es) [] pos) (tMkO C (spIni C fl) [] ta) :=
  pmk_oex T iC tI F1 hr.room hb .nil (fun _ _ _ _ _ _ _ ⟨_, _, _, _, _, _, _, _, _, _, _, _, z⟩ => z.elim) hg hm ha hdb he hpl
/-! ### what the walk leans on -/
theorem Cal.tr {X : Cx} {w : Wd} {pn : List (Addr × Obj)} {xe : Value → Shared → Prop} (c : Cal X w) : Cal (X.tr pn xe) w := ⟨c.K, c.calm, c.un, c.gs, c.sy⟩
theorem xf_nil {w : Wd} {f : Str} : XfOk w [] f := fun _ h => by cases h
theorem xf_cons {w : Wd} {cs : List Str} {c f : Str} {C : Addr} (h1 : w.CM c = some C) (h2 : XfC w.K C) (h3 : PySem.W.findIn w.K (.ref C) f = some none) (r : XfOk w cs f) : XfOk w (c :: cs) f := fun x h => by
  rcases List.mem_cons.mp h with e | h
  · subst e; exact ⟨C, h1, h2, h3⟩
  · exact r x h
/-- a class as a value -/
theorem pe_clsM {X : Cx} {A : Act} {W : WX} {x : Str} {C : Addr} {pos : Pos} (hg : Gl X x) (hm : X.mg x = some (.ref C)) (hC : A.w.CM x = some C) (hd : (x == ("__debug__" : Str)) = false := by decide) : PE X (.Name x pos) (tE A W (cst (.cls x))) :=
  pe_cst (pe_glob hg hm (v := .ref C) rfl hd) fun _ => by rw [Rep]; exact ⟨C, hC, rfl⟩
theorem bt_ValueError : bootBuiltins "ValueError" = some (.type "ValueError") := by decide +kernel
theorem bt_KeyError : bootBuiltins "KeyError" = some (.type "KeyError") := by decide +kernel
theorem bt_IndexError : bootBuiltins "IndexError" = some (.type "IndexError") := by decide +kernel
theorem bt_LookupError : bootBuiltins "LookupError" = some (.type "LookupError") := by decide +kernel
theorem bt_OverflowError : bootBuiltins "OverflowError" = some (.type "OverflowError") := by decide +kernel
end M
/-! MPE4: raise of a class of the package without an __init__ of its own. -/
namespace M
open PySem PySem.Spec PyProof.Rows L2
def rai0 (c : Str) : SF := fun r => .ex (.exc c []) r
theorem wS_rai0 {c : Str} {r : Env} {Q : SR → Prop} : wS (rai0 c) r Q = Q (.ex (.exc c []) r) := rfl
theorem pmk_own0 {X : Cx} {x : Str} {C : Addr} {p pos : Pos} (q : Exo X.K C) (gC : X.mg x = some (.ref C)) (hg : Gl X x) (hdb : (x == ("__debug__" : Str)) = false := by decide) : PMk X (.Call (.Name x p) [] [] pos) (fun _ H Q => Q (.ref C) none H) := by
  intro pins s σ H Q I h
  refine wpAny_Call_Name_kw (ld_glob I hg gC ?_ hdb)
  refine PySem.W.callWith_K0 I.kIn q.kp ?_
  obtain ⟨bm, N, nm, qn, bs, hdct, sn, sub, ab, col, dd, k0, k1, k2, k3, k5, mN, hC, hN, hni, T⟩ := exc_obj I.kIn q.ex
  refine wpAny_call_exc_subT F.excBase_ValueError T hC hN hni (fun h' e hm => ?_) (by show 0 ≤ sizeLine; omega)
  exact L2.mk_of I hm (raises_own q.sub q.ty) h (I.hok.gone hm.new)
theorem ps_rai0 {X : Cx} {A : Act} {W : WX} {e : Expr} {pos : Pos} {cn : Str} {C : Addr} (c : Cal X A.w) (tk : Takes X W) (hC : A.w.CM cn = some C) (he : PMk X e (fun _ H Q => Q (.ref C) none H)) : PS X (.Raise (some e) none pos) (tSt A W (rai0 cn)) :=
  PS.imp (ps_raise c.calm tk he) fun D σ H ⟨r, G, k, m⟩ => m σ G H C none k (Le.refl _) hC (.inl ⟨rfl, rfl⟩)
end M
/-! MPMU: xs.insert(i, y). -/
namespace M
open PySem PySem.Spec PyProof.Rows L2
def Minsert : MutF
  | .lst ds, [.int i, v] => if 0 ≤ i ∧ i < 4611686018427387904 ∧ ds.length < 100000 then some (.lst (ds.take i.toNat ++ [v] ++ ds.drop i.toNat), .non) else none
  | _, _ => none
theorem Minsert_eq (ds : List Val) (i : Int) (v : Val) (h0 : 0 ≤ i) (h1 : i < 1000000) (h2 : ds.length < 100000) : Minsert (.lst ds) [.int i, v] = some (.lst (ds.take i.toNat ++ [v] ++ ds.drop i.toNat), .non) := by
  rw [Minsert, if_pos ⟨h0, by omega, h2⟩]
section
variable {X : Cx} {w : Wd}
theorem mutp_insert : MutP X w "list.insert" Minsert := by
  intro pins s σ H x xs v us Q I rx rxs ⟨a, d, vs, d', z, G, ex, le, n, ro, rs, hp, q⟩
  subst ex
  unfold Minsert at hp
  split at hp
  · rename_i ds i v1
    split at hp
    · rename_i hl
      obtain ⟨h0, h1, h2⟩ := hl
      cases hp
      obtain ⟨ys, e, r⟩ := ro
      obtain ⟨y, ys2, rfl, r1, r2⟩ := reps_cons.mp rs
      have ei := rep_int.mp r1
      subst ei
      obtain ⟨y2, _, rfl, r3, r4⟩ := reps_cons.mp r2
      rw [reps_nil] at r4; subst r4
      have hlen := reps_length r
      exact mt_insert pins s σ H _ _ v us Q I rx rxs ⟨a, ys, i, y2, rfl, rfl, e, by rw [← hlen]; exact Nat.lt_of_lt_of_le h2 (by decide), h0, by omega, q _ _ (root_l (reps_append (reps_append (reps_take _ r) (reps_one r3)) (reps_drop _ r))) (rep_non.mpr rfl)⟩
    · cases hp
  · cases hp
end
end M
/-! MPMX: max, min and sum of a list of ints. -/
namespace M
open PySem PySem.Spec PyProof.Rows L2
def asInts : List Val → Option (List Int)
  | [] => some []
  | .int i :: ds => (asInts ds).map (i :: ·)
  | _ :: _ => none
theorem asInts_some : ∀ {ds : List Val} {ns : List Int}, asInts ds = some ns → ds = ns.map .int
  | [], _, h => by cases h; rfl
  | d :: ds, ns, h => by
    cases d with
    | int i =>
      simp only [asInts, Option.map_eq_some_iff] at h
      obtain ⟨ms, h1, rfl⟩ := h
      rw [asInts_some h1]; rfl
    | _ => cases h
theorem asInts_map : ∀ ns : List Int, asInts (ns.map .int) = some ns
  | [] => rfl
  | i :: ns => by rw [List.map_cons, asInts, asInts_map ns]; rfl
def maxL : List Int → Int
  | [] => 0
  | [a] => a
  | a :: l => if maxL l > a then maxL l else a
def minL : List Int → Int
  | [] => 0
  | [a] => a
  | a :: l => if minL l < a then minL l else a
theorem maxL_spec : ∀ {l : List Int}, l ≠ [] → maxL l ∈ l ∧ ∀ y ∈ l, y ≤ maxL l
  | [], h => absurd rfl h
  | [a], _ => ⟨by simp [maxL], fun y hy => by rw [List.mem_singleton.mp hy]; exact Int.le_refl _⟩
  | a :: b :: l, _ => by
    obtain ⟨h1, h2⟩ := maxL_spec (l := b :: l) (by simp)
    rw [maxL]
    split
    · refine ⟨List.mem_cons_of_mem _ h1, fun y hy => ?_⟩
      rcases List.mem_cons.mp hy with z | z
      · omega
      · exact h2 y z
    · refine ⟨List.mem_cons_self, fun y hy => ?_⟩
      rcases List.mem_cons.mp hy with z | z
      · omega
      · have := h2 y z; omega
    · simp
theorem minL_spec : ∀ {l : List Int}, l ≠ [] → minL l ∈ l ∧ ∀ y ∈ l, minL l ≤ y
  | [], h => absurd rfl h
  | [a], _ => ⟨by simp [minL], fun y hy => by rw [List.mem_singleton.mp hy]; exact Int.le_refl _⟩
  | a :: b :: l, _ => by
    obtain ⟨h1, h2⟩ := minL_spec (l := b :: l) (by simp)
    rw [minL]
    split
    · refine ⟨List.mem_cons_of_mem _ h1, fun y hy => ?_⟩
      rcases List.mem_cons.mp hy with z | z
      · omega
      · exact h2 y z
    · refine ⟨List.mem_cons_self, fun y hy => ?_⟩
      rcases List.mem_cons.mp hy with z | z
      · omega
      · have := h2 y z; omega
    · simp
def PmaxL : List Val → Option (Bool × Val)
  | [.lst ds] => match asInts ds with
    | some ns => if ns = [] then none else some (false, .int (maxL ns))
    | none => none
  | _ => none
def PminL : List Val → Option (Bool × Val)
  | [.lst ds] => match asInts ds with
    | some ns => if ns = [] then none else some (false, .int (minL ns))
    | none => none
  | _ => none
def PsumL : List Val → Option (Bool × Val)
  | [.lst ds] => (asInts ds).map fun ns => (false, .int ns.sum)
  | _ => none
theorem pmaxL {ns : List Int} (h : ns ≠ []) : PmaxL [.lst (ns.map .int)] = some (false, .int (maxL ns)) := by simp only [PmaxL, asInts_map, if_neg h]
theorem pminL {ns : List Int} (h : ns ≠ []) : PminL [.lst (ns.map .int)] = some (false, .int (minL ns)) := by simp only [PminL, asInts_map, if_neg h]
theorem psumL (ns : List Int) : PsumL [.lst (ns.map .int)] = some (false, .int ns.sum) := by simp only [PsumL, asInts_map, Option.map_some]
theorem maxL_eq {ns : List Int} {m : Int} (h1 : m ∈ ns) (h2 : ∀ y ∈ ns, y ≤ m) : maxL ns = m := by
  obtain ⟨a, b⟩ := maxL_spec (List.ne_nil_of_mem h1)
  have := b m h1
  have := h2 _ a
  omega
theorem minL_eq {ns : List Int} {m : Int} (h1 : m ∈ ns) (h2 : ∀ y ∈ ns, m ≤ y) : minL ns = m := by
  obtain ⟨a, b⟩ := minL_spec (List.ne_nil_of_mem h1)
  have := b m h1
  have := h2 _ a
  omega
section
variable {X : Cx} {w : Wd}
theorem bi_maxL (c : Cal X w) : CallR X (.builtin "max") (rOf w PmaxL) := by
  intro pins s σ H xs us Q I r ⟨G, vs, o, z, le, rr, hp, q⟩
  unfold PmaxL at hp
  split at hp
  · obtain ⟨x, e, r1⟩ := rreps_one rr
    subst e
    split at hp
    · rename_i ns hb
      by_cases hn : ns = []
      · rw [if_pos hn] at hp; cases hp
      · rw [if_neg hn] at hp; cases hp
        obtain ⟨a, xs, rfl, h, rs⟩ := rrep_lst le r1
        rw [asInts_some hb] at rs
        rw [reps_ints rs] at h
        exact cr_max c.calm pins s σ H _ us Q I r ⟨a, ns, rfl, .inl (.inl h), List.length_pos_iff.mpr hn, fun m h1 h2 => by
          rw [maxL_eq h1 h2] at q
          exact q (.int m) G H (Grow.refl le) (nrep_f (rep_int.mpr rfl))⟩
    · cases hp
  · cases hp
theorem bi_minL (c : Cal X w) : CallR X (.builtin "min") (rOf w PminL) := by
  intro pins s σ H xs us Q I r ⟨G, vs, o, z, le, rr, hp, q⟩
  unfold PminL at hp
  split at hp
  · obtain ⟨x, e, r1⟩ := rreps_one rr
    subst e
    split at hp
    · rename_i ns hb
      by_cases hn : ns = []
      · rw [if_pos hn] at hp; cases hp
      · rw [if_neg hn] at hp; cases hp
        obtain ⟨a, xs, rfl, h, rs⟩ := rrep_lst le r1
        rw [asInts_some hb] at rs
        rw [reps_ints rs] at h
        exact cr_min c.calm pins s σ H _ us Q I r ⟨a, ns, rfl, .inl (.inl h), List.length_pos_iff.mpr hn, fun m h1 h2 => by
          rw [minL_eq h1 h2] at q
          exact q (.int m) G H (Grow.refl le) (nrep_f (rep_int.mpr rfl))⟩
    · cases hp
  · cases hp
theorem bi_sumL (c : Cal X w) : CallR X (.builtin "sum") (rOf w PsumL) := by
  intro pins s σ H xs us Q I r ⟨G, vs, o, z, le, rr, hp, q⟩
  unfold PsumL at hp
  split at hp
  · obtain ⟨x, e, r1⟩ := rreps_one rr
    subst e
    rw [Option.map_eq_some_iff] at hp
    obtain ⟨ns, hb, e⟩ := hp
    cases e
    obtain ⟨a, xs, rfl, h, rs⟩ := rrep_lst le r1
    rw [asInts_some hb] at rs
    rw [reps_ints rs] at h
    exact cr_sum c.calm pins s σ H _ us Q I r ⟨a, ns, rfl, .inl (.inl h), q (.int ns.sum) G H (Grow.refl le) (nrep_f (rep_int.mpr rfl))⟩
  · cases hp
end
end M
/-! MPBO: a list of texts that a slot owns is lent to be read only, beside another container. -/
namespace M
open PySem PySem.Spec PyProof.Rows L2
/-- a value in which no list stands that begins with a text -/
def hdI : List Val → Bool
  | [] => true
  | .int _ :: _ => true
  | _ => false
def hdS : List Val → Bool
  | .str _ :: _ => true
  | _ => false
mutual
def noL : Val → Bool
  | .non => true
  | .bl _ => true
  | .int _ => true
  | .str _ => true
  | .ty _ => true
  | .tup ds => noLs ds
  | .lst ds => hdI ds && noLs ds
  | .dct t kvs => !t && noLk kvs
  | _ => false
def noLs : List Val → Bool
  | [] => true
  | d :: ds => noL d && noLs ds
def noLk : List (Val × Val) → Bool
  | [] => true
  | (_, d) :: ds => noL d && noLk ds
end
/-- .. below the container itself -/
def noR : Val → Bool
  | .lst ds => noLs ds
  | .dct t kvs => !t && noLk kvs
  | _ => false
def noT (o : Bool) (v : Val) : Bool := if o = true then noR v else noL v
section
variable {w : Wd} {G G' : Hp} {a : Addr} {xs : List V} {s : Str} {xs0 : List V}
/-- G without a -/
def less (G : Hp) (a : Addr) : Hp := fun b => if b = a then none else G b
theorem less_ne {b : Addr} (h : b ≠ a) : less G a b = G b := if_neg h
theorem less_some {b : Addr} {o : HO} (h : less G a b = some o) : b ≠ a ∧ G b = some o := by
  unfold less at h
  split at h
  · cases h
  · exact ⟨by assumption, h⟩
theorem rd_less {b : Addr} {u : HO} (hu : ∀ ys, u ≠ .lst ys) (hG : G a = some (.lst xs)) (r : Rd G b u) : Rd (less G a) b u := by
  rcases r with r | ⟨o, r⟩
  · have ne : b ≠ a := fun z => by
      subst z
      rw [hG] at r
      exact hu xs (Option.some.inj r).symm
    exact .inl (by rw [less_ne ne]; exact r)
  · have ne : b ≠ a := fun z => by
      subst z
      rw [hG] at r
      cases r
    exact .inr ⟨o, by rw [less_ne ne]; exact r⟩
theorem reps_hd {ds : List Val} {ys : List V} (h : hdI ds = true) (r : Reps w G ds ys) : ∀ t l, ys ≠ .str t :: l := by
  intro t l e
  cases ds with
  | nil => rw [reps_nil] at r; rw [r] at e; cases e
  | cons d ds =>
    obtain ⟨y, l', e2, r1, _⟩ := reps_cons.mp r
    cases d with
    | int i =>
      have := rep_int.mp r1
      rw [e2, this] at e
      cases e
    | _ => cases h
mutual
theorem rep_less (hG : G a = some (.lst (.str s :: xs0))) : ∀ {v : Val} {x : V}, noL v = true → Rep w G v x → Rep w (less G a) v x
  | .non, _, _, r => by rw [Rep] at r ⊢; exact r
  | .bl _, _, _, r => by rw [Rep] at r ⊢; exact r
  | .int _, _, _, r => by rw [Rep] at r ⊢; exact r
  | .str _, _, _, r => by rw [Rep] at r ⊢; exact r
  | .ty _, _, _, r => by rw [Rep] at r ⊢; exact r
  | .tup ds, _, h, r => by
    rw [noL] at h
    rw [Rep] at r ⊢; obtain ⟨b, ys, e, q, r⟩ := r
    exact ⟨b, ys, e, q.elim (fun q => .inl (rd_less (fun _ z => by cases z) hG q)) .inr, reps_less hG h r⟩
  | .lst ds, _, h, r => by
    rw [noL, Bool.and_eq_true] at h
    rw [Rep] at r ⊢; obtain ⟨b, ys, e, q, r⟩ := r
    have ne : b ≠ a := fun z => by
      subst z
      rw [hG] at q
      have : HO.lst (V.str s :: xs0) = HO.lst ys := Option.some.inj q
      injection this with this
      exact reps_hd h.1 r s xs0 this.symm
    exact ⟨b, ys, e, by rw [less_ne ne]; exact q, reps_less hG h.2 r⟩
  | .dct t ds, _, h, r => by
    rw [noL, Bool.and_eq_true] at h
    rw [Rep] at r ⊢; obtain ⟨b, e, ⟨ht, kvs, o, q, r⟩ | ⟨ht, kvs, o, q, r⟩⟩ := r
    · have ne : b ≠ a := fun z => by
        subst z
        rw [hG] at q
        cases q
      exact ⟨b, e, .inl ⟨ht, kvs, o, by rw [less_ne ne]; exact q, repk_less hG h.2 r⟩⟩
    · rw [ht] at h; exact absurd h.1 (by decide)
  | .obj c fs, _, h, r => by simp [noL] at h
  | .exc c fs, _, h, r => by simp [noL] at h
  | .cls _, _, h, r => by simp [noL] at h
  | .scr _, _, h, r => by simp [noL] at h
theorem reps_less (hG : G a = some (.lst (.str s :: xs0))) : ∀ {ds : List Val} {ys : List V}, noLs ds = true → Reps w G ds ys → Reps w (less G a) ds ys
  | [], _, _, r => by rw [Reps] at r ⊢; exact r
  | d :: ds, _, h, r => by
    rw [noLs, Bool.and_eq_true] at h
    rw [Reps] at r ⊢; obtain ⟨y, ys, e, r1, r2⟩ := r
    exact ⟨y, ys, e, rep_less hG h.1 r1, reps_less hG h.2 r2⟩
theorem repk_less (hG : G a = some (.lst (.str s :: xs0))) : ∀ {ds : List (Val × Val)} {ys : List (Key × V)}, noLk ds = true → RepK w G ds ys → RepK w (less G a) ds ys
  | [], _, _, r => by rw [RepK] at r ⊢; exact r
  | (k, d) :: ds, _, h, r => by
    rw [noLk, Bool.and_eq_true] at h
    rw [RepK] at r ⊢; obtain ⟨q, y, ys, e, e2, r1, r2⟩ := r
    exact ⟨q, y, ys, e, e2, rep_less hG h.1 r1, repk_less hG h.2 r2⟩
end
theorem root_less (hG : G a = some (.lst (.str s :: xs0))) {H : Hp} {v : Val} {b : Addr} (h : noR v = true) (r : Root w G H v b) : Root w (less G a) H v b := by
  cases v with
  | lst ds => obtain ⟨ys, e, r⟩ := r; exact ⟨ys, e, reps_less hG h r⟩
  | dct t ds =>
    rw [noR, Bool.and_eq_true] at h
    obtain ⟨ht, kvs, e, r⟩ | ⟨ht, kvs, e, r⟩ := r
    · exact .inl ⟨ht, kvs, e, repk_less hG h.2 r⟩
    · rw [ht] at h; exact absurd h.1 (by decide)
  | _ => cases h
theorem Le.less {G G' : Hp} {a : Addr} (n : G a = none) (h : Le G G') : Le G (less G' a) := fun b o e => by
  have ne : b ≠ a := fun z => by subst z; rw [n] at e; cases e
  rw [less_ne ne]; exact h b o e
end
/-! ### the call -/
def noOut : Option (Bool × Val) → Bool
  | some (o, v) => noT o v
  | none => true
def callB (bi n : Nat) (g : GF) (f : OsF) : EF := fun r => match f r with
  | .ok hs r1 => match r1[bi]? with
    | some (some (true, .lst ds)) => match lend (r1.set bi (some (false, .lst ds))) hs with
      | some as => if lents as ≤ 1 ∧ as.length = n then match g as with
        | .ok o z out => if hdS ds = true then (if noT o z = true ∧ noOut out = true then .ok o z (back r1 (lentIx (r1.set bi (some (false, .lst ds))) hs) out) else .bad)
          else .ok o z (back (r1.set bi (some (false, .lst ds))) (lentIx (r1.set bi (some (false, .lst ds))) hs) out)
        | .ex _ _ => .bad
        | .bad => .bad
        else .bad
      | none => .bad
    | _ => callG n g (fun r => .ok hs r) r1
  | .ex e r1 => .ex e r1
  | .bad => .bad
theorem lentIx_own {r : Env} {i : Nat} : ∀ {hs : List Hd}, lentIx r hs = some i → ∃ v, r[i]? = some (some (true, v))
  | [], h => by cases h
  | .tmp o v :: hs, h => lentIx_own (hs := hs) h
  | .sl j :: hs, h => by
    simp only [lentIx] at h
    split at h
    · rename_i v q
      cases h
      exact ⟨v, q⟩
    · exact lentIx_own (hs := hs) h
theorem back_ne {r1 : Env} {bi j : Nat} {s : Slot} {ix : Option Nat} {out : Option (Bool × Val)} (h : j ≠ bi) : (back (r1.set bi s) ix out)[j]? = (back r1 ix out)[j]? := by
  cases ix with
  | none => simp only [back]; rw [List.getElem?_set_ne (fun z => h z.symm)]
  | some i =>
    simp only [back]
    by_cases e : j = i
    · subst e
      simp [List.getElem?_set]
    · rw [List.getElem?_set_ne (fun z => e z.symm), List.getElem?_set_ne (fun z => e z.symm), List.getElem?_set_ne (fun z => h z.symm)]
theorem back_other {r1 : Env} {j : Nat} {ix : Option Nat} {out : Option (Bool × Val)} (h : ix ≠ some j) : (back r1 ix out)[j]? = r1[j]? := by
  cases ix with
  | none => rfl
  | some i => simp only [back]; exact List.getElem?_set_ne (fun z => h (by rw [z]))
theorem back_at {r1 : Env} {j : Nat} {out : Option (Bool × Val)} {t : Bool × Val} (h : (back r1 (some j) out)[j]? = some (some t)) : out = some t := by
  simp only [back, List.getElem?_set] at h
  simp at h
  exact h.2
section
variable {A : Act} {W : WX} {G H G1 H1 G' H' : Hp} {σ : L2.St} {r r1 : Env}
theorem call_core {n : Nat} {g : GF} {hs : List Hd} {xs : List V} {Q : VK} (k1 : Ok A G1 H1 σ r1) (st1 : Step σ r G H r1 G1 H1) (t1 : HReps A G1 H1 σ r1 hs xs)
    (m : match callG n g (fun r => OsR.ok hs r) r1 with
      | .ok o v r' => ∀ x G' H', Res A σ r G H r' G' H' o v x → Q x H'
      | .ex e r' => ExP A W G σ e r'
      | .bad => False) : spF A.w n g xs H1 Q (fun cls d H2 => W cls d σ H2) := by
  unfold callG at m
  cases hl : lend r1 hs with
  | none => simp only [hl] at m
  | some as =>
    simp only [hl] at m
    by_cases hc : lents as ≤ 1 ∧ as.length = n
    · simp only [if_pos hc] at m
      have ar := lend_rel k1 hl t1
      refine ⟨G1, as, by rw [arel_length ar, hc.2], k1.subT, ar, hc.1, ?_⟩
      cases hg : g as with
      | bad => simp only [hg] at m
      | ok o z out =>
        simp only [hg] at m ⊢
        intro u G' H' p nr
        obtain ⟨k2, st2⟩ := call_state k1 hl hc.1 t1 p
        refine m u G' H' ⟨k2, st1.trans st2, ?_, fun eo a ea => ?_⟩
        · cases o with
          | true =>
            obtain ⟨a, e, ro, n, n2⟩ := nr
            exact ⟨a, e, ro, n, fun z => k1.notRt n2 (st2.rts a z), k1.fresh n2⟩
          | false => exact nr
        · subst eo
          obtain ⟨b, e, _, _, n2⟩ := nr
          rw [ea] at e; cases e
          exact st1.fresh n2
      | ex e out =>
        simp only [hg] at m ⊢
        cases e with
        | exc c fs =>
          intro G' H' C d p hC hd
          obtain ⟨k2, st2⟩ := call_state k1 hl hc.1 t1 p
          exact m G' H' C d k2 (st1.trans st2).ex hC hd
        | _ => exact m
    · simp only [if_neg hc] at m
theorem thaw {bi : Nat} {ds : List Val} {a : Addr} {ys : List V} {s : Str} {ix : Option Nat} {out : Option (Bool × Val)} (k1 : Ok A G1 H1 σ r1) (ho : r1[bi]? = some (some (true, .lst ds))) (ea : σ[bi]? = some (some (.ref a))) (rr : Reps A.w G1 ds (.str s :: ys)) (na : G1 a = none) (la : A.L a ∨ A.H0 a = none)
    (k2 : Ok A G' H' σ (back (r1.set bi (some (false, .lst ds))) ix out)) (hix : ∀ i, ix = some i → i ≠ bi ∧ ∃ v, r1[i]? = some (some (true, v))) (hG' : G' a = some (.lst (.str s :: ys))) (le : Le G1 G')
    (kp : ∀ b o, H1 b = some o → (∀ i, ix = some i → σ[i]? ≠ some (some (.ref b))) → KpO o (H' b)) (hno : noOut out = true) : Ok A (less G' a) H' σ (back r1 ix out) ∧ ∀ b, Rt (back r1 ix out) σ b → Rt r1 σ b := by
  have leL : Le G1 (less G' a) := Le.less na le
  have bi_ : (back r1 ix out)[bi]? = r1[bi]? := back_other fun z => (hix bi z).1 rfl
  have own : ∀ {p : Nat} {v : Val}, (back r1 ix out)[p]? = some (some (true, v)) → ∃ v', r1[p]? = some (some (true, v')) := fun {p v} h => by
    by_cases e : ix = some p
    · exact (hix p e).2
    · rw [back_other e] at h; exact ⟨v, h⟩
  have lnone : ∀ b, G' b = none → less G' a b = none := fun b h => by
    unfold less
    split
    · rfl
    · exact h
  refine ⟨⟨Le.less (k1.ex0.back na) (k1.ex0.trans le), fun b h => k2.gr0 b ?_, k2.fr0, k2.tk, fun b ps e => k2.nt b ps (less_some e).2, fun b o h => k2.sub b o (less_some h).2, ?_, fun j v h => ?_, fun j v h => ?_, fun p q v w b h1 h2 h3 h4 => ?_, k2.fx⟩, fun b ⟨j, w, h1, h2⟩ => ?_⟩
  · intro z
    exact h (lnone b z)
  · have := k1.len
    cases ix <;> simp [back, this]
  · by_cases e : j = bi
    · subst e
      rw [bi_, ho] at h
      cases h
    · by_cases e2 : ix = some j
      · obtain ⟨x, ex, q⟩ := k2.fz j v (by rw [back_ne e]; exact h)
        subst e2
        have eo := back_at h
        rw [eo] at hno
        exact ⟨x, ex, rep_less hG' (by simpa [noOut, noT] using hno) q⟩
      · rw [back_other e2] at h
        obtain ⟨x, ex, q⟩ := k1.fz j v h
        exact ⟨x, ex, q.mono leL⟩
  · by_cases e : j = bi
    · subst e
      rw [bi_, ho] at h
      cases h
      exact ⟨a, ea, ⟨_, k2.sub _ _ hG', rr.mono leL⟩, if_pos rfl, la⟩
    · by_cases e2 : ix = some j
      · obtain ⟨b, eb, q, nb, lb⟩ := k2.ow j v (by rw [back_ne e]; exact h)
        subst e2
        have eo := back_at h
        rw [eo] at hno
        exact ⟨b, eb, root_less hG' (by simpa [noOut, noT] using hno) q, lnone b nb, lb⟩
      · obtain ⟨b', eb', _, nb, _⟩ := k2.ow j v (by rw [back_ne e]; exact h)
        rw [back_other e2] at h
        obtain ⟨b, eb, q, _, lb⟩ := k1.ow j v h
        rw [eb] at eb'; cases eb'
        refine ⟨b', eb, q.monoK leL (fun o hb => kp b' o hb fun i hi hs => ?_), lnone b' nb, lb⟩
        obtain ⟨_, v', hv'⟩ := hix i hi
        have := k1.sep j i v v' b' h hv' eb hs
        subst this
        exact e2 hi
  · obtain ⟨v1, o1⟩ := own h1
    obtain ⟨v2, o2⟩ := own h2
    exact k1.sep p q v1 v2 b o1 o2 h3 h4
  · obtain ⟨v1, o1⟩ := own h1
    exact ⟨j, v1, o1, h2⟩
theorem callB_of {bi n : Nat} {g : GF} {f : OsF} {Q : VK} (h : tE A W (callB bi n g f) σ H Q) : tOs A W f σ H fun vs H1 => spF A.w n g vs H1 Q (fun cls d H2 => W cls d σ H2) := by
  obtain ⟨r, G, k, m⟩ := h
  refine ⟨r, G, k, ?_⟩
  unfold callB at m
  cases hf : f r with
  | bad => rw [hf] at m; exact m.elim
  | ex e r' => rw [hf] at m; exact m
  | ok hs r1 =>
    simp only [hf] at m
    intro xs G1 H1 k1 st1 t1
    by_cases hb : ∃ ds, r1[bi]? = some (some (true, .lst ds))
    · obtain ⟨ds, ho⟩ := hb
      simp only [ho] at m
      cases hl : lend (r1.set bi (some (false, .lst ds))) hs with
      | none => simp only [hl] at m
      | some as =>
        simp only [hl] at m
        by_cases hc : lents as ≤ 1 ∧ as.length = n
        · simp only [if_pos hc] at m
          obtain ⟨a, ea, ⟨ys, hH, rr⟩, na, la⟩ := k1.ow bi _ ho
          have kf := k1.drop (o := .lst ys) ho ea (fun _ z => nomatch z) (some (false, .lst ds)) (fun w e => by cases e; exact rep_lst.mpr ⟨a, ys, rfl, upd_same, rr.mono (Le.new na)⟩) (fun w e => by cases e)
          have stf := step_drop na ho ea (o := .lst ys) (some (false, .lst ds)) (fun w e => by cases e) (H := H1)
          rw [upd_self hH] at kf stf
          have t2 := t1.step stf
          have ar := lend_rel kf hl t2
          refine ⟨_, as, by rw [arel_length ar, hc.2], kf.subT, ar, hc.1, ?_⟩
          cases hg : g as with
          | bad => simp only [hg] at m
          | ex e out => simp only [hg] at m
          | ok o z out =>
            simp only [hg] at m ⊢
            intro u G' H' p nr
            obtain ⟨k2, st2⟩ := call_state kf hl hc.1 t2 p
            by_cases hS : hdS ds = true
            · simp only [if_pos hS] at m
              by_cases hno : noT o z = true ∧ noOut out = true
              · simp only [if_pos hno] at m
                obtain ⟨s, ys', rfl⟩ : ∃ s ys', ys = V.str s :: ys' := by
                  cases ds with
                  | nil => cases hS
                  | cons d ds =>
                    cases d with
                    | str s =>
                      obtain ⟨y, l, e, r1', _⟩ := reps_cons.mp rr
                      exact ⟨s, l, by rw [e, (rep_str.mp r1').1]⟩
                    | _ => cases hS
                have le : Le G1 G' := (Le.new na).trans p.g
                have hG' : G' a = some (.lst (V.str s :: ys')) := p.g _ _ upd_same
                have hix : ∀ i, lentIx (r1.set bi (some (false, .lst ds))) hs = some i → i ≠ bi ∧ ∃ v, r1[i]? = some (some (true, v)) := fun i hi => by
                  obtain ⟨v, hv⟩ := lentIx_own hi
                  rcases set_some hv rfl with ⟨e1, e2⟩ | ⟨e1, e2⟩
                  · cases e2
                  · exact ⟨e1, v, e2⟩
                have kp : ∀ b o, H1 b = some o → (∀ i, lentIx (r1.set bi (some (false, .lst ds))) hs = some i → σ[i]? ≠ some (some (.ref b))) → KpO o (H' b) := fun b o hb hn => p.kp b o hb fun ⟨q, v, h1, h2⟩ => by
                  obtain ⟨i, f1, _, f3⟩ := lend_at hl hc.1 t2 h1 h2
                  exact hn i f1 f3
                obtain ⟨k3, rts⟩ := thaw k1 ho ea rr na la k2 hix hG' le kp hno.2
                have lnone : ∀ b, G' b = none → less G' a b = none := fun b h => by
                  unfold less
                  split
                  · rfl
                  · exact h
                refine m u (less G' a) H' ⟨k3, st1.trans ⟨Le.less na le, fun b o hb nb => kp b o hb fun i hi hs => ?_, fun b hb hb' => ?_, rts⟩, ?_, fun eo b eb => ?_⟩
                · obtain ⟨_, v, hv⟩ := hix i hi
                  exact nb ⟨i, v, hv, hs⟩
                · have ne : b ≠ a := fun z => hb' (if_pos z)
                  rw [less_ne ne] at hb'
                  rcases st2.grow b (by rw [upd_ne ne]; exact hb) hb' with z | z
                  · exact .inl z
                  · exact .inr (stf.rts b z)
                · cases o with
                  | true =>
                    obtain ⟨b, e, ro, nb, n2⟩ := nr
                    exact ⟨b, e, root_less hG' (by simpa [noT] using hno.1) ro, lnone b nb, fun z => k1.notRt n2 (rts b z), k1.fresh n2⟩
                  | false => exact rep_less hG' (by simpa [noT] using hno.1) nr
                · subst eo
                  obtain ⟨c, e, _, _, n2⟩ := nr
                  rw [eb] at e; cases e
                  exact st1.fresh n2
              · simp only [if_neg hno] at m
            · simp only [if_neg hS] at m
              refine m u G' H' ⟨k2, st1.trans (stf.trans st2), ?_, fun eo b eb => ?_⟩
              · cases o with
                | true =>
                  obtain ⟨b, e, ro, nb, n2⟩ := nr
                  exact ⟨b, e, ro, nb, fun z => kf.notRt n2 (st2.rts b z), kf.fresh n2⟩
                | false => exact nr
              · subst eo
                obtain ⟨c, e, _, _, n2⟩ := nr
                rw [eb] at e; cases e
                exact st1.fresh n2
        · simp only [if_neg hc] at m
    · refine call_core k1 st1 t1 ?_
      revert m
      cases hq : r1[bi]? with
      | none => exact id
      | some t =>
        cases t with
        | none => exact id
        | some t =>
          obtain ⟨o, v⟩ := t
          cases o with
          | false => exact id
          | true =>
            cases v with
            | lst ds => exact absurd ⟨ds, hq⟩ hb
            | _ => exact id
end
section
variable {X : Cx} {A : Act} {W : WX} {lvl n bi : Nat} {x : Str} {st : Stmt} {ps : List Str} {g : GF} {p pos : Pos} {e : Expr} {es : List Expr} {fo : OsF}
/-- f(e, ..), bi's list lent to be read -/
theorem pe_cB (d : DefP X.prog X.w X.K X.mg X.base A.w lvl x st ps g) (hr : RoomG lvl X.A) (hg : Gl X x) (tk : Takes X W) (ha : PA X (e :: es) (tOs A W fo)) (hn : ps.length = n := by rfl) (hdb : (x == ("__debug__" : Str)) = false := by decide)
    (he : NoStar X e es := by rfl) (hpl : NoStars X es pos := by rfl) : PE X (.Call (.Name x p) (e :: es) [] pos) (tE A W (callB bi n g fo)) := by
  subst hn
  obtain ⟨f, fd, hm, F, hb, G⟩ := d.ex
  refine ⟨fun pins s σ H Q I h => ?_⟩
  have h2 := callB_of h
  refine wpAny_Call_Name_kw (ld_glob I hg hm ?_ hdb)
  refine PySem.W.callWith_K (h₀ := X.base) I.ok.mod.kin F.kp (wpAny_mono (ha.run pos pins s σ H _ I h2) (fun us s1 ⟨vs, H1, I1, r, q⟩ => ⟨I1.kIn, ?_⟩) fun _ _ z => z) he hpl
  have hl : us.length = ps.length := by rw [← r.length]; exact G.len _ _ _ _ q
  have b0 := hb s1 us I1.kIn (by simpa using hl)
  simp only [List.append_nil] at b0
  exact run_G G hr (fun e s' z => tk e s' (XE.of_call I1 (fun _ _ _ y => y) z)) I1 (args := ⟨us, []⟩) b0 r q
end
/-! ### read with continuations -/
section
variable {r : Env} {fs : OsF}
def kbb (ds : List Val) (r1 rb : Env) (ix : Option Nat) (Q : ER → Prop) : GR → Prop
  | .ok o z out => (if hdS ds = true then (if noT o z = true ∧ noOut out = true then Q (.ok o z (back r1 ix out)) else Q .bad) else Q (.ok o z (back rb ix out)))
  | .ex _ _ => Q .bad
  | .bad => Q .bad
def kcb1 (n : Nat) (g : GF) (Q : ER → Prop) (ds : List Val) (r1 rb : Env) (ix : Option Nat) : Option (List (Bool × Val)) → Prop
  | some as => (if lents as ≤ 1 ∧ as.length = n then wG g as (kbb ds r1 rb ix Q) else Q .bad)
  | none => Q .bad
def kcb (bi n : Nat) (g : GF) (Q : ER → Prop) (hs : List Hd) (r1 : Env) : Option Slot → Prop
  | some (some (true, .lst ds)) => kcb1 n g Q ds r1 (r1.set bi (some (false, .lst ds))) (lentIx (r1.set bi (some (false, .lst ds))) hs) (lend (r1.set bi (some (false, .lst ds))) hs)
  | _ => kc1 n g Q r1 (lentIx r1 hs) (lend r1 hs)
def kcallB (bi n : Nat) (g : GF) (Q : ER → Prop) : OsR → Prop
  | .ok hs r1 => kcb bi n g Q hs r1 r1[bi]?
  | .ex e r1 => Q (.ex e r1)
  | .bad => Q .bad
theorem wE_callB {bi n : Nat} {g : GF} {Q : ER → Prop} : wE (callB bi n g fs) r Q = wOs fs r (kcallB bi n g Q) := by
  unfold wE wOs callB
  cases fs r with
  | ok hs r1 =>
    simp only [kcallB]
    have fb : Q (callG n g (fun r => OsR.ok hs r) r1) = kc1 n g Q r1 (lentIx r1 hs) (lend r1 hs) := by
      have := wE_call (n := n) (g := g) (Q := Q) (fs := fun r => OsR.ok hs r) (r := r1)
      exact this
    cases hq : r1[bi]? with
    | none => exact fb
    | some t =>
      cases t with
      | none => exact fb
      | some t =>
        obtain ⟨o, v⟩ := t
        cases o with
        | false => exact fb
        | true =>
          cases v with
          | lst ds =>
            simp only [kcb]
            cases lend (r1.set bi (some (false, .lst ds))) hs with
            | none => rfl
            | some as =>
              simp only [kcb1, wG]
              split
              · cases g as with
                | ok o z out => simp only [kbb]; split <;> (try split) <;> rfl
                | _ => rfl
              · rfl
          | _ => exact fb
  | _ => rfl
variable {bi n : Nat} {g : GF} {Q : ER → Prop} {hs : List Hd} {r1 rb : Env} {ds : List Val} {ix : Option Nat} {o : Bool} {v z : Val} {out : Option (Bool × Val)}
theorem kcb_t : kcb bi n g Q hs r1 (some (some (true, .lst ds))) = kcb1 n g Q ds r1 (r1.set bi (some (false, .lst ds))) (lentIx (r1.set bi (some (false, .lst ds))) hs) (lend (r1.set bi (some (false, .lst ds))) hs) := rfl
theorem kcb_f : kcb bi n g Q hs r1 (some (some (false, v))) = kc1 n g Q r1 (lentIx r1 hs) (lend r1 hs) := rfl
def kcallB_e1 := @kcallB.eq_1
def kcallB_e2 := @kcallB.eq_2
def kcallB_e3 := @kcallB.eq_3
def kcb1_e1 := @kcb1.eq_1
def kcb1_e2 := @kcb1.eq_2
def kbb_e1 := @kbb.eq_1
theorem hdS_strs (ss : List Str) : hdS (ss.map .str) = !decide (ss = []) := by cases ss <;> rfl
theorem noLs_strs (ss : List Str) : noLs (ss.map .str) = true := by
  induction ss with
  | nil => rfl
  | cons s ss ih => rw [List.map_cons, noLs, ih]; rfl
theorem noLs_ints (ss : List Int) : noLs (ss.map .int) = true := by
  induction ss with
  | nil => rfl
  | cons s ss ih => rw [List.map_cons, noLs, ih]; rfl
theorem noL_ints (ss : List Int) : noL (.lst (ss.map .int)) = true := by
  rw [noL, noLs_ints]
  cases ss <;> rfl
theorem noLk_sd (f : Str → List Str) : ∀ ks : List Str, noLk (ks.map fun s => (Val.str s, Val.tup ((f s).map .str))) = true
  | [] => rfl
  | k :: ks => by rw [List.map_cons, noLk, noLk_sd f ks, noL, noLs_strs]; rfl
end
end M
/-! MPEW: try and raise read with continuations. -/
namespace M
open PySem L2
section
variable {r : Env} {fs : OsF} {b : SF}
def krai2 (c : Str) (fl : List Str) (r1 : Env) (Q : SR → Prop) : Option (List (Bool × Val)) → Prop
  | some as => (if lents as = 0 ∧ as.length = fl.length then Q (.ex (.exc c (fl.zip (as.map (·.2))).reverse) r1) else Q .bad)
  | none => Q .bad
def krai (c : Str) (fl : List Str) (Q : SR → Prop) : OsR → Prop
  | .ok hs r1 => krai2 c fl r1 Q (lend r1 hs)
  | .ex e r1 => Q (.ex e r1)
  | .bad => Q .bad
theorem wS_rai {c : Str} {fl : List Str} {Q : SR → Prop} : wS (raiC c fl fs) r Q = wOs fs r (krai c fl Q) := by
  unfold wS wOs raiC
  cases fs r with
  | ok hs r1 =>
    simp only [krai]
    cases lend r1 hs with
    | none => rfl
    | some as => simp only [krai2]; split <;> rfl
  | _ => rfl
def wH (hs : List Hnd) (c : Str) (fs : List (Str × Val)) (r : Env) (Q : SR → Prop) : Prop := Q (hndS hs c fs r)
def kend (nm : Option Nat) (Q : SR → Prop) (s : SR) : Prop := Q (endS nm s)
def khn (nm : Option Nat) (su : SF) (hs : List Hnd) (c : Str) (fs : List (Str × Val)) (r : Env) (Q : SR → Prop) : Option Bool → Prop
  | some true => wS su (match nm with | some i => r.set i (some (false, .exc c fs)) | none => r) (kend nm Q)
  | some false => wH hs c fs r Q
  | none => Q .bad
theorem wH_nil {c : Str} {fs : List (Str × Val)} {Q : SR → Prop} : wH [] c fs r Q = Q (.ex (.exc c fs) r) := rfl
theorem wH_cons {m : List (Str × Bool)} {nm : Option Nat} {su : SF} {hs : List Hnd} {c : Str} {fs : List (Str × Val)} {Q : SR → Prop} : wH (⟨m, nm, su⟩ :: hs) c fs r Q = khn nm su hs c fs r Q (m.lookup c) := by
  unfold wH
  rw [hndS]
  rcases m.lookup c with _ | _ | _ <;> rfl
def ktry (hs : List Hnd) (Q : SR → Prop) : SR → Prop
  | .ex (.exc c fs) r1 => wH hs c fs r1 Q
  | .ex _ _ => Q .bad
  | x => Q x
theorem wS_try {hs : List Hnd} {Q : SR → Prop} : wS (tryS b hs) r Q = wS b r (ktry hs Q) := by
  unfold wS tryS
  cases b r with
  | ex e r1 => cases e <;> rfl
  | _ => rfl
theorem ktry_ex {hs : List Hnd} {c : Str} {fs : List (Str × Val)} {Q : SR → Prop} : ktry hs Q (.ex (.exc c fs) r) = wH hs c fs r Q := rfl
theorem ktry_nx {hs : List Hnd} {Q : SR → Prop} : ktry hs Q (.nx r) = Q (.nx r) := rfl
theorem ktry_rt {hs : List Hnd} {o : Bool} {v : Val} {Q : SR → Prop} : ktry hs Q (.rt o v r) = Q (.rt o v r) := rfl
theorem khn_t {nm : Option Nat} {su : SF} {hs : List Hnd} {c : Str} {fs : List (Str × Val)} {Q : SR → Prop} : khn nm su hs c fs r Q (some true) = wS su (match nm with | some i => r.set i (some (false, .exc c fs)) | none => r) (kend nm Q) := rfl
theorem khn_f {nm : Option Nat} {su : SF} {hs : List Hnd} {c : Str} {fs : List (Str × Val)} {Q : SR → Prop} : khn nm su hs c fs r Q (some false) = wH hs c fs r Q := rfl
theorem kend_nx0 {Q : SR → Prop} : kend none Q (.nx r) = Q (.nx r) := rfl
theorem kend_nx {i : Nat} {Q : SR → Prop} : kend (some i) Q (.nx r) = Q (.nx (r.set i none)) := rfl
theorem kend_rt {nm : Option Nat} {o : Bool} {v : Val} {Q : SR → Prop} : kend nm Q (.rt o v r) = Q (.rt o v r) := rfl
def krai2_e1 := @krai2.eq_1
def krai2_e2 := @krai2.eq_2
def krai_e1 := @krai.eq_1
def krai_e2 := @krai.eq_2
def krai_e3 := @krai.eq_3
end
end M
/-! MPIT: reprs of small data; texts of ints are different; reprs of dicts of ints told apart. -/
namespace M
open PySem L2

/-! ### reprs that there are -/
/-- data that can be shown: how long, how deep -/
structure Shw (v : Val) (d : PyData) (n k : Nat) : Prop where
  e : toE v = some d
  s : d.showable = true
  t : txOk d = true
  dp : d.depth ≤ k
  z : rsz d ≤ n
structure ShwL (vs : List Val) (ds : List PyData) (n k : Nat) : Prop where
  e : toEs vs = some ds
  s : PyData.showableAll ds = true
  t : txOks ds = true
  dp : PyData.depthAll ds ≤ k
  z : rszs ds ≤ n
structure ShwK (ps : List (Val × Val)) (ds : List (PyData × PyData)) (n k : Nat) : Prop where
  e : toEk ps = some ds
  s : PyData.showableKv ds = true
  t : txOkk ds = true
  dp : PyData.depthKv ds ≤ k
  z : rszk ds ≤ n
theorem Shw.mono {v : Val} {d : PyData} {n k n' k' : Nat} (h : Shw v d n k) (h1 : n ≤ n' := by omega) (h2 : k ≤ k' := by omega) : Shw v d n' k' := ⟨h.e, h.s, h.t, Nat.le_trans h.dp h2, Nat.le_trans h.z h1⟩
theorem shw_non : Shw .non .none 4 0 := ⟨rfl, rfl, rfl, by decide, by decide⟩
theorem shw_bl (b : Bool) : Shw (.bl b) (.bool b) 5 0 := ⟨rfl, rfl, rfl, by simp [PyData.depth], by simp [rsz]⟩
theorem log_lt {n : Nat} (h : n < 10 ^ 20) : n.log2 < 1920 := by
  by_cases z : n = 0
  · subst z; decide
  · have := (Nat.log2_lt z (k := 1920)).mpr (Nat.lt_of_lt_of_le h (by decide +kernel))
    exact this
theorem shw_int {i : Int} (h : i.natAbs < 10 ^ 20) : Shw (.int i) (.int i) 21 0 := ⟨rfl, by simpa [PyData.showable] using log_lt h, rfl, by simp [PyData.depth], int_rsz h⟩
theorem shw_str {s : Str} (h : CpOk s) : Shw (.str s) (.str s) (10 * s.length + 2) 0 := ⟨rfl, rfl, by rw [txOk]; exact strOk_iff.mpr h, by simp [PyData.depth], by simp [rsz]⟩
theorem shw_name {s : Str} (h : IsName s) : Shw (.str s) (.str s) 82 0 := (shw_str h.cp).mono (by have := h.len; omega)
theorem shl_nil : ShwL [] [] 0 0 := ⟨rfl, rfl, rfl, by simp [PyData.depthAll], by simp [rszs]⟩
theorem shl_cons {v : Val} {d : PyData} {vs : List Val} {ds : List PyData} {n k n' k' : Nat} (h : Shw v d n k) (t : ShwL vs ds n' k') : ShwL (v :: vs) (d :: ds) (n + 2 + n') (max k k') :=
  ⟨by rw [toEs, h.e, t.e], by rw [PyData.showableAll, h.s, t.s]; rfl, by rw [txOks, h.t, t.t]; rfl, by rw [PyData.depthAll]; have := h.dp; have := t.dp; omega, by rw [rszs]; have := h.z; have := t.z; omega⟩
theorem shl_map {α : Type} {f : α → Val} {g : α → PyData} {n k : Nat} : ∀ (xs : List α), (∀ x ∈ xs, Shw (f x) (g x) n k) → ShwL (xs.map f) (xs.map g) (xs.length * (n + 2)) k
  | [], _ => ⟨rfl, rfl, rfl, by simp [PyData.depthAll], by simp [rszs]⟩
  | x :: xs, h => by
    have t := shl_map xs fun y hy => h y (List.mem_cons_of_mem _ hy)
    have c := shl_cons (h x List.mem_cons_self) t
    refine ⟨c.e, c.s, c.t, Nat.le_trans c.dp (by omega), Nat.le_trans c.z ?_⟩
    rw [List.length_cons, Nat.add_mul]; omega
theorem shw_tup {vs : List Val} {ds : List PyData} {n k : Nat} (h : ShwL vs ds n k) : Shw (.tup vs) (.tuple ds) (n + 3) (k + 1) :=
  ⟨by rw [toE, h.e]; rfl, by rw [PyData.showable]; exact h.s, by rw [txOk]; exact h.t, by rw [PyData.depth]; have := h.dp; omega, by rw [rsz]; have := h.z; omega⟩
theorem shw_lst {vs : List Val} {ds : List PyData} {n k : Nat} (h : ShwL vs ds n k) : Shw (.lst vs) (.list ds) (n + 2) (k + 1) :=
  ⟨by rw [toE, h.e]; rfl, by rw [PyData.showable]; exact h.s, by rw [txOk]; exact h.t, by rw [PyData.depth]; have := h.dp; omega, by rw [rsz]; have := h.z; omega⟩
theorem shw_dct {ps : List (Val × Val)} {ds : List (PyData × PyData)} {n k : Nat} (h : ShwK ps ds n k) : Shw (.dct false ps) (.dict ds) (n + 2) (k + 1) :=
  ⟨by rw [toE, h.e]; rfl, by rw [PyData.showable]; exact h.s, by rw [txOk]; exact h.t, by rw [PyData.depth]; have := h.dp; omega, by rw [rsz]; have := h.z; omega⟩
theorem shk_map {α : Type} {kf : α → Str} {f : α → Val} {g : α → PyData} {n k : Nat} : ∀ (xs : List α), (∀ x ∈ xs, IsName (kf x) ∧ Shw (f x) (g x) n k) → ShwK (sd (xs.map fun x => (kf x, f x))) (xs.map fun x => (.str (kf x), g x)) (xs.length * (n + 86)) k
  | [], _ => ⟨rfl, rfl, rfl, by simp [PyData.depthKv], by simp [rszk]⟩
  | x :: xs, h => by
    have t := shk_map xs fun y hy => h y (List.mem_cons_of_mem _ hy)
    obtain ⟨hn, hx⟩ := h x List.mem_cons_self
    have hl := hn.len
    have e1 := t.e
    have z1 := t.z
    have z2 := hx.z
    have d1 := t.dp
    have d2 := hx.dp
    simp only [sd] at e1
    refine ⟨?_, ?_, ?_, ?_, ?_⟩
    · simp only [sd, List.map_cons, toEk, keyD, hx.e, e1]
    · simp only [List.map_cons, PyData.showableKv, PyData.showable, hx.s, t.s]; rfl
    · simp only [List.map_cons, txOkk, txOk, hx.t, t.t, strOk_iff.mpr hn.cp]; rfl
    · simp only [List.map_cons, PyData.depthKv, PyData.depth]; omega
    · simp only [List.map_cons, rszk, rsz, List.length_cons, Nat.add_mul]; omega
/-! toD, toDkv and toE tell the same -/
mutual
theorem toD_E : ∀ {v : Val} {d d' : PyData}, toD v = some d → toE v = some d' → d = d'
  | .non, _, _, h, h' => by rw [toD] at h; rw [toE] at h'; cases h; cases h'; rfl
  | .bl _, _, _, h, h' => by rw [toD] at h; rw [toE] at h'; cases h; cases h'; rfl
  | .int _, _, _, h, h' => by rw [toD] at h; rw [toE] at h'; cases h; cases h'; rfl
  | .str _, _, _, h, h' => by rw [toD] at h; rw [toE] at h'; cases h; cases h'; rfl
  | .tup ds, _, _, h, h' => by
    rw [toD, Option.map_eq_some_iff] at h
    rw [toE, Option.map_eq_some_iff] at h'
    obtain ⟨a, e, rfl⟩ := h
    obtain ⟨b, e', rfl⟩ := h'
    rw [toDs_E e e']
  | .lst ds, _, _, h, h' => by
    rw [toD, Option.map_eq_some_iff] at h
    rw [toE, Option.map_eq_some_iff] at h'
    obtain ⟨a, e, rfl⟩ := h
    obtain ⟨b, e', rfl⟩ := h'
    rw [toDs_E e e']
  | .dct _ _, _, _, h, _ => by simp [toD] at h
  | .obj _ _, _, _, h, _ => by simp [toD] at h
  | .exc _ _, _, _, h, _ => by simp [toD] at h
  | .ty _, _, _, h, _ => by simp [toD] at h
  | .cls _, _, _, h, _ => by simp [toD] at h
  | .scr _, _, _, _, h => by simp [toE] at h
theorem toDs_E : ∀ {vs : List Val} {ds ds' : List PyData}, toDs vs = some ds → toEs vs = some ds' → ds = ds'
  | [], _, _, h, h' => by rw [toDs] at h; rw [toEs] at h'; cases h; cases h'; rfl
  | v :: vs, _, _, h, h' => by
    rw [toDs] at h; rw [toEs] at h'
    split at h
    · rename_i a as h1 h2
      split at h'
      · rename_i b bs h3 h4
        cases h; cases h'
        rw [toD_E h1 h3, toDs_E h2 h4]
      · cases h'
    · cases h
end
theorem toDkv_E : ∀ {ps : List (Val × Val)} {ds ds' : List (PyData × PyData)}, toDkv ps = some ds → toEk ps = some ds' → ds = ds'
  | [], _, _, h, h' => by rw [toDkv] at h; rw [toEk] at h'; cases h; cases h'; rfl
  | (k, v) :: ps, _, _, h, h' => by
    rw [toDkv] at h; rw [toEk] at h'
    split at h
    · rename_i a b as h1 h2 h3
      split at h'
      · rename_i a' b' as' h4 h5 h6
        cases h; cases h'
        rw [h1] at h4; cases h4
        rw [toD_E h2 h5, toDkv_E h3 h6]
      · cases h'
    · cases h
/-! data without dicts -/
mutual
theorem E_D : ∀ {v : Val} {d : PyData}, toE v = some d → d.hasDict = false → toD v = some d
  | .non, _, h, _ => by rw [toE] at h; rw [toD]; exact h
  | .bl _, _, h, _ => by rw [toE] at h; rw [toD]; exact h
  | .int _, _, h, _ => by rw [toE] at h; rw [toD]; exact h
  | .str _, _, h, _ => by rw [toE] at h; rw [toD]; exact h
  | .tup ds, _, h, n => by
    rw [toE, Option.map_eq_some_iff] at h
    obtain ⟨a, e, rfl⟩ := h
    rw [toD, Es_D e (by simpa [PyData.hasDict] using n)]; rfl
  | .lst ds, _, h, n => by
    rw [toE, Option.map_eq_some_iff] at h
    obtain ⟨a, e, rfl⟩ := h
    rw [toD, Es_D e (by simpa [PyData.hasDict] using n)]; rfl
  | .dct true _, _, h, _ => by simp [toE] at h
  | .dct false _, _, h, n => by
    rw [toE, Option.map_eq_some_iff] at h
    obtain ⟨a, e, rfl⟩ := h
    simp [PyData.hasDict] at n
  | .obj _ _, _, h, _ => by simp [toE] at h
  | .exc _ _, _, h, _ => by simp [toE] at h
  | .ty _, _, h, _ => by simp [toE] at h
  | .cls _, _, h, _ => by simp [toE] at h
  | .scr _, _, h, _ => by simp [toE] at h
theorem Es_D : ∀ {vs : List Val} {ds : List PyData}, toEs vs = some ds → PyData.hasDictAll ds = false → toDs vs = some ds
  | [], _, h, _ => by rw [toEs] at h; rw [toDs]; exact h
  | v :: vs, _, h, n => by
    rw [toEs] at h
    split at h
    · rename_i a as h1 h2
      cases h
      simp only [PyData.hasDictAll, Bool.or_eq_false_iff] at n
      rw [toDs, E_D h1 n.1, Es_D h2 n.2]
    · cases h
end
theorem repr_flat {v : Val} {d : PyData} {n k : Nat} (h : Shw v d n k) (hd : d.hasDict = false) (hn : n ≤ 16777216 := by omega) (hk : k ≤ 60 := by omega) : PreprX [v] = some (false, .str d.shown) := by
  have h4 : d.shown.length ≤ sizeLine := by
    have := shown_le d h.t
    have := h.z
    have e : sizeLine = 16777216 := rfl
    omega
  have hP : Prepr [v] = some (false, .str d.shown) := by
    simp only [Prepr, E_D h.e hd]
    rw [if_pos ⟨h.s, hd, by have := h.dp; omega, h4⟩]
  have hD : PreprD [v] = none := by
    cases v with
    | dct t kvs =>
      have := E_D h.e hd
      simp [toD] at this
    | _ => rfl
  simp only [PreprX, orP, hD, hP]
theorem repr_shw {v : Val} {d : PyData} {n k : Nat} (h : Shw v d n k) (hb : isBox v = true) (hn : n ≤ 16777216 := by omega) (hk : k ≤ 60 := by omega) : PreprX [v] = some (false, .str d.shown) := by
  have h4 : d.shown.length ≤ sizeLine := by
    have := shown_le d h.t
    have := h.z
    have e : sizeLine = 16777216 := rfl
    omega
  have hG : PreprG [v] = some (false, .str d.shown) := by
    simp only [PreprG, h.e]
    rw [if_pos ⟨hb, h.s, by have := h.dp; omega, h4⟩]
  have hP : ∀ r, Prepr [v] = some r → r = (false, .str d.shown) := fun r hr => by
    simp only [Prepr] at hr
    split at hr
    · rename_i d' hd
      split at hr
      · cases hr; rw [toD_E hd h.e]
      · cases hr
    · cases hr
  have hD : ∀ r, PreprD [v] = some r → r = (false, .str d.shown) := fun r hr => by
    unfold PreprD at hr
    split at hr
    · rename_i kvs e
      cases e
      split at hr
      · rename_i ds hd
        split at hr
        · cases hr
          have he := h.e
          rw [toE, Option.map_eq_some_iff] at he
          obtain ⟨ds', e', rfl⟩ := he
          rw [toDkv_E hd e']
        · cases hr
      · cases hr
    · cases hr
  unfold PreprX orP
  cases e1 : PreprD [v] with
  | some r => exact congrArg some (hD r e1)
  | none =>
    simp only [orP]
    cases e2 : Prepr [v] with
    | some r => exact congrArg some (hP r e2)
    | none => exact hG
/-! ### texts told apart -/
theorem int_txt_inj {i j : Int} (h : ((toString i : String) : Str) = toString j) : i = j := by
  have dg : ∀ (m : Nat) c, c ∈ (Nat.toDigits 10 m).map Char.toNat → 48 ≤ c ∧ c ≤ 57 := fun m c hc => by
    obtain ⟨ch, hch, e⟩ := List.mem_map.mp hc
    have r := PyProof.Rows.digit_range (Nat.isDigit_of_mem_toDigits (by decide) (by decide) hch)
    omega
  have pos : ∀ m : Nat, ((toString ((m : Nat) : Int) : String) : Str).cps.toList = (Nat.toDigits 10 m).map Char.toNat := fun m => PySem.W.KIN.signs_num m
  have neg : ∀ m : Nat, ((toString (Int.negSucc m) : String) : Str).cps.toList = 45 :: (Nat.toDigits 10 (m + 1)).map Char.toNat := fun m => by
    have e : (toString (Int.negSucc m) : String) = "-" ++ Nat.repr (m + 1) := rfl
    rw [e]
    show (Str.ofString _).cps.toList = _
    rw [PyProof.Rows.signs_ofString]
    simp only [String.toList_append, List.map_append, Nat.toList_repr]
    rfl
  have h' : ((toString i : String) : Str).cps.toList = ((toString j : String) : Str).cps.toList := by rw [h]
  cases i with
  | ofNat a => cases j with
    | ofNat b =>
      rw [show Int.ofNat a = ((a : Nat) : Int) from rfl, show Int.ofNat b = ((b : Nat) : Int) from rfl, pos, pos] at h'
      have := congrArg PySem.NumText.digitsVal h'
      rw [PySem.W.KIN.val_back, PySem.W.KIN.val_back] at this
      rw [this]
    | negSucc b =>
      rw [show Int.ofNat a = ((a : Nat) : Int) from rfl, pos, neg] at h'
      have := dg a 45 (by rw [h']; simp)
      omega
  | negSucc a => cases j with
    | ofNat b =>
      rw [show Int.ofNat b = ((b : Nat) : Int) from rfl, pos, neg] at h'
      have := dg b 45 (by rw [← h']; simp)
      omega
    | negSucc b =>
      rw [neg, neg] at h'
      have := congrArg PySem.NumText.digitsVal (List.cons.inj h').2
      rw [PySem.W.KIN.val_back, PySem.W.KIN.val_back] at this
      have : a = b := by omega
      rw [this]
theorem split_at (p : Nat → Bool) : ∀ {a b x y : List Nat}, (∀ c ∈ a, p c = false) → (∀ c ∈ b, p c = false) → (∃ c z, x = c :: z ∧ p c = true) → (∃ c z, y = c :: z ∧ p c = true) → a ++ x = b ++ y → a = b ∧ x = y
  | [], [], _, _, _, _, _, _, h => ⟨rfl, h⟩
  | [], d :: b, _, _, _, hb, ⟨c, z, e, hc⟩, _, h => by
    subst e
    simp only [List.nil_append, List.cons_append, List.cons.injEq] at h
    have := hb d (by simp)
    rw [← h.1, hc] at this; cases this
  | d :: a, [], _, _, ha, _, _, ⟨c, z, e, hc⟩, h => by
    subst e
    simp only [List.nil_append, List.cons_append, List.cons.injEq] at h
    have := ha d (by simp)
    rw [h.1, hc] at this; cases this
  | d :: a, e :: b, _, _, ha, hb, hx, hy, h => by
    simp only [List.cons_append, List.cons.injEq] at h
    obtain ⟨h1, h2⟩ := split_at p (fun c hc => ha c (List.mem_cons_of_mem _ hc)) (fun c hc => hb c (List.mem_cons_of_mem _ hc)) hx hy h.2
    exact ⟨by rw [h.1, h1], h2⟩
theorem app_tl (a b : Str) : (a ++ b).cps.toList = a.cps.toList ++ b.cps.toList := by
  show (a.cps ++ b.cps).toList = _
  simp
def fsep (c : Nat) : Bool := c == 44 || c == 125
theorem int_sep (i : Int) : ∀ c ∈ ((toString i : String) : Str).cps.toList, fsep c = false := fun c hc => by
  by_cases h : c = 44
  · subst h; exact absurd hc (PyProof.Rows.int_text_free' 44 ⟨by decide, by decide⟩ i)
  · by_cases h2 : c = 125
    · subst h2; exact absurd hc (PyProof.Rows.int_text_free' 125 ⟨by decide, by decide⟩ i)
    · simp [fsep, h, h2]
abbrev intKv (ks : List Str) (F : Str → Int) : List (PyData × PyData) := ks.map fun s => (.str s, .int (F s))
theorem kv_inj {F G : Str → Int} : ∀ {ks : List Str} {x y : List Nat}, (Str.join ", " (PyData.shownKv (intKv ks F))).cps.toList ++ 125 :: x = (Str.join ", " (PyData.shownKv (intKv ks G))).cps.toList ++ 125 :: y → (∀ s ∈ ks, F s = G s) ∧ x = y
  | [], x, y, h => by
    simp only [List.map_nil, PyData.shownKv] at h
    have := List.append_cancel_left h
    exact ⟨by simp, (List.cons.inj this).2⟩
  | [k], x, y, h => by
    simp only [List.map_cons, List.map_nil, PyData.shownKv, Str.join, app_tl, List.append_assoc] at h
    have h := List.append_cancel_left (List.append_cancel_left h)
    simp only [PyData.shown] at h
    obtain ⟨h1, h2⟩ := split_at fsep (int_sep _) (int_sep _) ⟨_, _, rfl, rfl⟩ ⟨_, _, rfl, rfl⟩ h
    have e1 : ((toString (F k) : String) : Str) = toString (G k) := by rw [← mk_eta ((toString (F k) : String) : Str), h1, mk_eta]
    exact ⟨fun s hs => by rw [List.mem_singleton.mp hs]; exact int_txt_inj e1, (List.cons.inj h2).2⟩
  | k :: k2 :: ks, x, y, h => by
    have ec : (", " : Str).cps.toList = [44, 32] := by decide +kernel
    have ih := @kv_inj F G (k2 :: ks) x y
    simp only [List.map_cons, PyData.shownKv, Str.join, app_tl, List.append_assoc] at h ih
    have h := List.append_cancel_left (List.append_cancel_left h)
    simp only [PyData.shown, ec] at h
    obtain ⟨h1, h2⟩ := split_at fsep (int_sep _) (int_sep _) ⟨_, _, rfl, rfl⟩ ⟨_, _, rfl, rfl⟩ h
    have e1 : ((toString (F k) : String) : Str) = toString (G k) := by rw [← mk_eta ((toString (F k) : String) : Str), h1, mk_eta]
    simp only [PyData.shown] at ih
    obtain ⟨h3, h4⟩ := ih (List.append_cancel_left (as := [44, 32]) h2)
    exact ⟨fun s hs => (List.mem_cons.mp hs).elim (fun z => by rw [z]; exact int_txt_inj e1) (h3 s), h4⟩
theorem two_inj {ks : List Str} {F G F' G' : Str → Int} (h : (PyData.tuple [.dict (intKv ks F), .dict (intKv ks G)]).shown = (PyData.tuple [.dict (intKv ks F'), .dict (intKv ks G')]).shown) : ∀ s ∈ ks, F s = F' s ∧ G s = G' s := by
  have h := congrArg (fun s : Str => s.cps.toList) h
  have e1 : ("}" : Str).cps.toList = [125] := by decide +kernel
  simp only [PyData.shown, PyData.shownAll, tupleText, dictText, Str.join, app_tl, List.append_assoc, e1, List.cons_append, List.nil_append] at h
  have h := List.append_cancel_left (List.append_cancel_left h)
  obtain ⟨h1, h⟩ := kv_inj h
  have h := List.append_cancel_left (List.append_cancel_left h)
  obtain ⟨h2, _⟩ := kv_inj h
  exact fun s hs => ⟨h1 s hs, h2 s hs⟩
end M
/-! MPRT: repr of a tuple written of names: what it holds is read only. -/
namespace M
open PySem PySem.Spec PyProof.Rows L2
def PreprT : List Val → Option (Bool × Val) := fun vs => match toE (.tup vs) with
  | some d => if d.showable = true ∧ d.depth ≤ 60 ∧ d.shown.length ≤ sizeLine ∧ vs.length ≤ 100000 then some (false, .str d.shown) else none
  | none => none
section
variable {X : Cx} {w : Wd} {pins : List (Addr × Obj)} {s : Shared} {σ : L2.St} {G H : Hp}
theorem reads_rr (c : Cal X w) (I : Inv X pins σ H s) (le : Le G H) {v : Val} {x : V} {d : PyData} {u : Value} (e : toE v = some d) (r : RRep w G H v x) (ru : RelV x u) : ∃ as, Reads s.heap u d as ∧ sysModules ∉ as := by
  by_cases hb : isBox v = true
  · obtain ⟨a, as, rfl, h1, h2⟩ := reads_r c I le hb e r ru
    exact ⟨as, h1, h2⟩
  · rcases r with r | ⟨a, rfl, r⟩
    · exact reads_e c I le e r ru
    · cases v <;> first | exact r.elim | exact absurd rfl hb | simp [toE] at e
theorem reads_rrs (c : Cal X w) (I : Inv X pins σ H s) (le : Le G H) : ∀ {vs : List Val} {xs : List V} {ds : List PyData} {us : List Value}, toEs vs = some ds → RReps w G H vs xs → Vals xs us → ∃ as, ReadsAll s.heap us ds as ∧ sysModules ∉ as
  | [], _, _, _, e, r, ru => by
    rw [toEs] at e; cases e
    have r' : _ = [] := r
    subst r'
    cases ru
    exact ⟨_, .nil, by simp⟩
  | v :: vs, _, _, _, e, ⟨y, ys, e1, r1, r2⟩, ru => by
    subst e1
    rw [toEs] at e
    split at e
    · rename_i d ds h1 h2
      cases e
      cases ru with
      | cons q1 q2 =>
        obtain ⟨as, i1, n1⟩ := reads_rr c I le h1 r1 q1
        obtain ⟨bs, i2, n2⟩ := reads_rrs c I le h2 r2 q2
        exact ⟨_, .cons i1 i2, by rw [List.mem_append]; rintro (z | z); exact n1 z; exact n2 z⟩
    · cases e
def reprS (w : Wd) : List V → Hp → VK → Prop := fun xs H Q => ∃ (G : Hp) (vs : List Val) (ys : List V) (p : Addr) (d : PyData), xs = [.ref p] ∧ H p = some (.tup ys) ∧ Le G H ∧ RReps w G H vs ys ∧ toE (.tup vs) = some d ∧
  (d.showable = true ∧ d.depth ≤ 60 ∧ d.shown.length ≤ sizeLine ∧ vs.length ≤ 100000) ∧ Q (.str d.shown) H
theorem bi_reprS (c : Cal X w) : CallR X (.builtin "repr") (reprS w) := by
  intro pins s σ H xs us Q I r ⟨G, vs, ys, p, d, e, hp, le, rr, hd, ⟨h1, h3, h4, h5⟩, q⟩
  subst e
  obtain ⟨u, rfl, ru⟩ := vals1 r
  cases ru
  rw [toE, Option.map_eq_some_iff] at hd
  obtain ⟨ds, hd, rfl⟩ := hd
  obtain ⟨its, rv, ⟨o, ho, hc, n, hd2⟩, _⟩ := I.tuple (SqT.of hp)
  obtain ⟨as, hr, hs⟩ := reads_rrs c I le hd rr rv
  refine PySem.repr_of_reads' (.tuple ho hc hd2 hr) h1 (fun _ => hs) c.gs (by have := c.un; omega) (fun b o e => e) (fun h' u tk hk => ⟨.str _, H, I.kept (t' := tk) hk, ⟨_, rfl⟩, q⟩) h4
end
section
variable {X : Cx} {A : Act} {W : WX} {e : Expr} {es : List Expr} {g : OsF}
theorem RRep.up {w : Wd} {G H : Hp} {p : Addr} {o : HO} {v : Val} {x : V} (n : H p = none) (r : RRep w G H v x) : RRep w G (upd H p o) v x := by
  rcases r with r | ⟨a, e, r⟩
  · exact .inl r
  · exact .inr ⟨a, e, r.mono (Le.refl _) fun u hu => by rw [upd_ne (ne_of_none hu n)]; exact hu⟩
theorem RReps.up {w : Wd} {G H : Hp} {p : Addr} {o : HO} (n : H p = none) : ∀ {vs : List Val} {xs : List V}, RReps w G H vs xs → RReps w G (upd H p o) vs xs
  | [], _, r => r
  | _ :: _, _, ⟨y, ys, e, r1, r2⟩ => ⟨y, ys, e, r1.up n, RReps.up n r2⟩
theorem RReps.len {w : Wd} {G H : Hp} : ∀ {vs : List Val} {xs : List V}, RReps w G H vs xs → vs.length = xs.length
  | [], _, r => by have r' : _ = [] := r; subst r'; rfl
  | _ :: _, _, ⟨y, ys, e, r1, r2⟩ => by subst e; simp [RReps.len r2]
theorem tOs_mono {σ : L2.St} {H : Hp} {Q Q' : List V → Hp → Prop} (h : tOs A W g σ H Q) (hq : ∀ xs H1, Q xs H1 → Q' xs H1) : tOs A W g σ H Q' := by
  obtain ⟨r, G, k, m⟩ := h
  refine ⟨r, G, k, ?_⟩
  cases hf : g r with
  | bad => simp only [hf] at m
  | ex e r' => simp only [hf] at m ⊢; exact m
  | ok hs r1 => simp only [hf] at m ⊢; exact fun xs G1 H1 k1 s1 t1 => hq _ _ (m xs G1 H1 k1 s1 t1)
theorem pe_reprT {pos p p2 : Pos} {k1 : Nat} (c : Cal X A.w) (hg : Gl X "repr") (hm : X.mg "repr" = none) (ha : PA X (e :: es) (tOs A W g)) (he : starEach [Expr.Tuple (e :: es) k1 p2] X.env = (false, eval (.Tuple (e :: es) k1 p2) X.env) :: starEach [] X.env := by rfl) (hpl : NoStars X [] pos := by rfl) :
    PE X (.Call (.Name "repr" p) [.Tuple (e :: es) k1 p2] [] pos) (tE A W (prim PreprT g)) := by
  refine PE.imp (pe_callB (bi_reprS c) hg hm bf_repr (pa_cons (pe_tup ha) pa_nil he) (by decide) (by decide) he hpl) fun σ H Q q => ?_
  have q2 := prim_os (rok_rOf _ _) q
  refine tOs_mono q2 fun xs H1 h => ?_
  obtain ⟨G, vs, o, z, le, rr, hp, qq⟩ := h
  unfold PreprT at hp
  split at hp
  · rename_i d hd
    split at hp
    · rename_i hc
      cases hp
      refine ⟨by rw [← rr.len]; exact line_of hc.2.2.2, fun a ha => ?_⟩
      exact ⟨G, vs, xs, a, d, rfl, upd_same, le.updR (le.back ha), rr.up ha, hd, hc, qq _ G _ (Grow.laidH le ha) (nrep_f (rep_str.mpr ⟨rfl, hc.2.2.1⟩))⟩
    · cases hp
  · cases hp
end
theorem prepr_t {vs : List Val} {d : PyData} {n k : Nat} (h : Shw (.tup vs) d n k) (hl : vs.length ≤ 100000) (hn : n ≤ 16777216 := by omega) (hk : k ≤ 60 := by omega) : PreprT vs = some (false, .str d.shown) := by
  have h4 : d.shown.length ≤ sizeLine := by
    have := shown_le d h.t
    have := h.z
    have e : sizeLine = 16777216 := rfl
    omega
  simp only [PreprT, h.e]
  rw [if_pos ⟨h.s, by have := h.dp; omega, h4, hl⟩]
end M
/-! MPDU: == != in len of instances of own classes, instances called, + and ~ of them: by their own methods. -/
namespace PySem.W
open PySem PySem.Calls PyProof.Rows Builtin
section
variable {prog : Program} {w : World} {A : Around} {E : Value → Shared → Prop} {s : Shared} {K : Frag} {x C L f : Addr} {h₀ : Heap} {m : Str → Option Value} {ox : Obj} {od : Option Obj} {b tb : Value}
theorem on_bind (self : Value) : bindSpecial (.builtin "object.__ne__") self = pure (.builtin "object.__ne__", [self]) := PySem.F.cmp_object.ne.bind self
theorem ifBound_ne {M : Model} {name : Str} {args : List Value} {Q : Option Value → Shared → Prop} (X : K.In s.heap) (I : InstAt s.heap x ox C od) (hs : findIn K (.ref C) name = some (some (.builtin "object.__ne__")))
    (h : wpAny M A (call (.builtin "object.__ne__") (.ref x :: args)) (fun v => Q (some v)) E s) : wpAny M A (callSpecialIfBound? (.ref x) name args) Q E s := by
  simp only [callSpecialIfBound?, bindSpecialIfBound?]
  refine wpAny_holding (wpAny_bind (wpAny_bind (wpAny_bind (I.type.here ((looks_findIn X hs).here ?_)))))
  simp only [on_bind]
  refine wpAny_bind (wpAny_askSetting (wpAny_ite ?_))
  have fin : wpAny M A (call (.builtin "object.__ne__") ([.ref x] ++ args) >>= fun v => pure (some v)) Q E s := wpAny_bind (wpAny_mono h (fun v s' h' => wpAny_pure h') fun _ _ h' => h')
  split
  · exact wpAny_bind (wpAny_pure (wpAny_pure (by exact fin)))
  · exact wpAny_tryCatch (wpAny_bind (wpAny_pure (wpAny_pure (by exact fin))))
theorem objNe_entry_K {y : Addr} (X : K.In s.heap) (I : InstAt s.heap x ox C od) (hs : findIn K (.ref C) "__eq__" = some (some (.ref f))) (hf : isFn K (.ref f) = true) (hu : A.units < cLine) {Q : Fin → Shared → Prop}
    (hcall : wpAny (model prog w) A (call (.ref f) [.ref x, .ref y]) (fun v s' => ∃ b, v = .bool b ∧ Q (.done (.ret (.bool (!b)))) s') E s) :
    wpAny (model prog w) A (Builtin.«object.__ne__» ⟨[.ref x, .ref y], []⟩) Q E s := by
  unfold Builtin.«object.__ne__»
  repeat (first
    | with_reducible refine wpAny_cRoomFor hu ?_
    | (refine wpAny_bind (m := callSpecialIfBound? (.ref x) (Str.ofString "__eq__") [.ref y])
        (ifBound_K X I hs hf (wpAny_mono hcall (fun r s' hr => by
          obtain ⟨b, rfl, hq⟩ := hr
          repeat (first | exact hq | exact wpAny_pure hq | exact wpAny_truthy_bool hq | (refine wpAny_bind (m := truthy (.bool _)) (wpAny_truthy_bool ?_)) | wp_step)) fun _ _ e => e)))
    | wp_step)
theorem ne_K {y : Addr} {Q : Value → Shared → Prop} (hu : A.units + 1 < cLine) (F : Fr h₀ L s.heap m) (X₀ : K.In h₀) (I : InstAt s.heap x ox C od) (hb : Looks (model prog w) s.heap (typeOf (.ref y)) tb) (hn : notFirst K C tb = true)
    (hne : findIn K (.ref C) "__ne__" = some (some (.builtin "object.__ne__"))) (hpo : plainOver K C = true) (hs : findIn K (.ref C) "__eq__" = some (some (.ref f))) (hf : isFn K (.ref f) = true)
    (h : wpAny (model prog w) A.in1 (call (.ref f) [.ref x, .ref y]) (fun v s' => ∃ b, v = .bool b ∧ Q (.bool (!b)) s') E s) : wpAny (model prog w) A (richCompare .NotEq (.ref x) (.ref y)) Q E s := by
  have X := X₀.keeps F.keep
  have sub : Looks (model prog w) s.heap (isInstance (.ref x) (.type "object")) true := by
    obtain ⟨cd, hc, ho⟩ := any_some hpo
    have ne : cd.mro.isEmpty = false := by
      rcases q : cd.mro with _ | ⟨_, _⟩
      · rw [q] at ho; cases ho
      · rfl
    exact I.type.andThen (looks_mroIn X (by unfold mroIn; rw [hc, Option.bind_some, if_neg (by rw [ne]; decide), only_has ho]))
  have one : wpAny (model prog w) A (tryCompare (.ref x) (cmpInfo .NotEq).2.1 (.ref y)) (fun r s' => ∃ v, r = some v ∧ Q v s') E s := by
    unfold tryCompare
    refine wpAny_bind (ifBound_ne X I hne ?_)
    refine wpAny_call (codeAny_call_builtin PySem.F.cmp_object.ne.plain PySem.F.cmpEntry_ne (@check_slot (model prog w) _ _ s "object.__ne__" "object" "__ne__" (.ref x) [.ref y] [] _ PySem.F.cmpKind_ne PySem.F.cmpSplit_ne sub (PySem.F.cmpArgs_ne _ _) ?_))
    refine objNe_entry_K (A := A.in1) X I hs hf hu (wpAny_mono h (fun v s' hv => ?_) fun _ _ e => e)
    obtain ⟨b, rfl, hq⟩ := hv
    exact ⟨b, rfl, wpAny_pure ⟨_, rfl, hq⟩⟩
  unfold richCompare
  simp only [oneThing_ref]
  refine wpAny_holding (wpAny_bind (wpAny_cRoomFor (Nat.lt_of_succ_lt hu) ?_))
  refine wpAny_bind (I.type.here (wpAny_bind (hb.here ?_)))
  split
  · rename_i q
    have e : subIn K tb (.ref C) = some false := by
      rcases Bool.or_eq_true_iff.mp hn with e | e
      · rw [beq_iff_eq.mp e] at q; simp at q
      · exact beq_iff_eq.mp e
    refine wpAny_bind ((looks_subIn X e).here ?_)
    simp only [Bool.false_eq_true, if_false]
    refine wpAny_bind (wpAny_mono one (fun r s' z => ?_) fun _ _ e => e)
    obtain ⟨v, rfl, hq⟩ := z
    exact wpAny_pure hq
  · refine wpAny_bind (wpAny_pure ?_)
    simp only [Bool.false_eq_true, if_false]
    refine wpAny_bind (wpAny_mono one (fun r s' z => ?_) fun _ _ e => e)
    obtain ⟨v, rfl, hq⟩ := z
    exact wpAny_pure hq
end
end PySem.W

namespace M
open PySem PySem.Spec PyProof.Rows L2
/-- the first operand is an instance; two: the second one is one of the same class -/
def hdObj : Bool → List (Bool × Val) → Option (Str × List (Str × Val))
  | false, (_, .obj c fl) :: _ => some (c, fl)
  | true, (_, .obj c fl) :: (_, .obj c2 _) :: _ => if c2 = c then some (c, fl) else none
  | _, _ => none
/-- the own method m of the first operand's class, called with all -/
def dun (two : Bool) (tbl : Tbl) (m : Str) (fs : OsF) : EF := fun r => match fs r with
  | .ok hs r1 => match (lend r1 hs).bind (hdObj two) with
    | some (c, fl) => match fl.lookup m with
      | none => match tbl.lookup c with
        | some (n, g) => callG n g fs r
        | none => .bad
      | some _ => .bad
    | none => .bad
  | .ex e r1 => .ex e r1
  | .bad => .bad
def IsD (w : Wd) (c : Str) (x : V) (H : Hp) : Prop := ∃ a C dx xs, x = .ref a ∧ H a = some (.ins C dx xs) ∧ w.CM c = some C
theorem arel_obj {w : Wd} {G H : Hp} (le : Le G H) {o : Bool} {c : Str} {fl : List (Str × Val)} {as : List (Bool × Val)} {xs : List V} (h : ARel w G H ((o, .obj c fl) :: as) xs) :
    ∃ a C dx fs ys, xs = .ref a :: ys ∧ H a = some (.ins C dx fs) ∧ w.CM c = some C ∧ RepF w G fl fs ∧ ARel w G H as ys := by
  cases o with
  | true =>
    obtain ⟨a, ys, e, ro, _, t⟩ := h
    obtain ⟨C, dx, fs, h1, h2, h3⟩ := ro
    exact ⟨a, C, dx, fs, ys, e, h1, h2, h3, t⟩
  | false =>
    obtain ⟨y, ys, e, r, t⟩ := h
    obtain ⟨a, C, dx, fs, rfl, h1, h2, h3⟩ := rrep_obj le (.inl r)
    exact ⟨a, C, dx, fs, ys, e, h1, h2, h3, t⟩
section
variable {A : Act} {W : WX} {σ : L2.St} {H : Hp} {Q : VK} {tbl : Tbl} {mn : Str} {fs : OsF} {two : Bool}
theorem dun_of (h : tE A W (dun two tbl mn fs) σ H Q) : tOs A W fs σ H fun vs H1 => ∃ c n g, tbl.lookup c = some (n, g) ∧ (∃ x ys, vs = x :: ys ∧ IsC A.w c mn x H1 ∧ (two = true → ∃ y zs, ys = y :: zs ∧ IsD A.w c y H1)) ∧ spF A.w n g vs H1 Q (fun cls d H2 => W cls d σ H2) := by
  obtain ⟨r, G, k, m⟩ := h
  refine ⟨r, G, k, ?_⟩
  unfold dun at m
  cases hf : fs r with
  | bad => simp only [hf] at m
  | ex e r' => simp only [hf] at m ⊢; exact m
  | ok hs r1 =>
    simp only [hf] at m
    intro xs G1 H1 k1 st1 t1
    cases hl : lend r1 hs with
    | none => simp only [hl, Option.bind_none] at m
    | some as =>
      simp only [hl, Option.bind_some] at m
      cases ho : hdObj two as with
      | none => simp only [ho] at m
      | some p =>
        obtain ⟨c, fl⟩ := p
        simp only [ho] at m
        cases hm : fl.lookup mn with
        | some _ => simp only [hm] at m
        | none =>
          simp only [hm] at m
          cases ht : tbl.lookup c with
          | none => simp only [ht] at m
          | some ng =>
            obtain ⟨n, g⟩ := ng
            simp only [ht] at m
            have ar := lend_rel k1 hl t1
            have isc : ∃ x ys, xs = x :: ys ∧ IsC A.w c mn x H1 ∧ (two = true → ∃ y zs, ys = y :: zs ∧ IsD A.w c y H1) := by
              cases as with
              | nil => cases two <;> simp [hdObj] at ho
              | cons t as =>
                obtain ⟨o, v⟩ := t
                cases v with
                | obj c' fl' =>
                  obtain ⟨a, C, dx, gs, ys, e, e1, e2, e3, e4⟩ := arel_obj k1.sub ar
                  cases two with
                  | false =>
                    simp only [hdObj, Option.some.injEq, Prod.mk.injEq] at ho
                    obtain ⟨rfl, rfl⟩ := ho
                    exact ⟨_, ys, e, ⟨a, C, dx, gs, rfl, e1, e2, repF_none e3 hm⟩, fun z => nomatch z⟩
                  | true =>
                    cases as with
                    | nil => simp [hdObj] at ho
                    | cons t2 as =>
                      obtain ⟨o2, v2⟩ := t2
                      cases v2 with
                      | obj c2 fl2 =>
                        simp only [hdObj] at ho
                        split at ho
                        · rename_i ec
                          simp only [Option.some.injEq, Prod.mk.injEq] at ho
                          obtain ⟨rfl, rfl⟩ := ho
                          subst ec
                          obtain ⟨b, D, dy, hs2, zs, f, f1, f2, _, _⟩ := arel_obj k1.sub e4
                          exact ⟨_, ys, e, ⟨a, C, dx, gs, rfl, e1, e2, repF_none e3 hm⟩, fun _ => ⟨_, zs, f, b, D, dy, hs2, rfl, f1, f2⟩⟩
                        · cases ho
                      | _ => simp [hdObj] at ho
                | _ => cases two <;> simp [hdObj] at ho
            refine ⟨c, n, g, ht, isc, ?_⟩
            unfold callG at m
            simp only [hf, hl] at m
            by_cases hc : lents as ≤ 1 ∧ as.length = n
            · simp only [if_pos hc] at m
              refine ⟨G1, as, by rw [arel_length ar, hc.2], k1.subT, ar, hc.1, ?_⟩
              cases hg : g as with
              | bad => simp only [hg] at m
              | ok o z out =>
                simp only [hg] at m ⊢
                intro u G' H' p nr
                obtain ⟨k2, st2⟩ := call_state k1 hl hc.1 t1 p
                refine m u G' H' ⟨k2, st1.trans st2, ?_, fun eo a ea => ?_⟩
                · cases o with
                  | true =>
                    obtain ⟨a, e, ro, n, n2⟩ := nr
                    exact ⟨a, e, ro, n, fun z => k1.notRt n2 (st2.rts a z), k1.fresh n2⟩
                  | false => exact nr
                · subst eo
                  obtain ⟨b, e, _, _, n2⟩ := nr
                  rw [ea] at e; cases e
                  exact st1.fresh n2
              | ex e out =>
                simp only [hg] at m ⊢
                cases e with
                | exc c fs =>
                  intro G' H' C d p hC hd
                  obtain ⟨k2, st2⟩ := call_state k1 hl hc.1 t1 p
                  exact m G' H' C d k2 (st1.trans st2).ex hC hd
                | _ => exact m
            · simp only [if_neg hc] at m
/-- what gives a bool out, turned about or not, and no exception -/
def blX (neg : Bool) (f : EF) : EF := fun r => match f r with
  | .ok false (.bl b) r' => .ok false (.bl (if neg = true then !b else b)) r'
  | _ => .bad
theorem blX_of {neg : Bool} {f : EF} (h : tE A W (blX neg f) σ H Q) : tE A W0 f σ H fun v H1 => ∃ b, v = .bl b ∧ Q (.bl (if neg = true then !b else b)) H1 := by
  obtain ⟨r, G, k, m⟩ := h
  refine ⟨r, G, k, ?_⟩
  unfold blX at m
  cases hf : f r with
  | bad => simp only [hf] at m
  | ex e r' => simp only [hf] at m
  | ok o v r' =>
    cases o with
    | true => simp only [hf] at m
    | false =>
      cases v with
      | bl b =>
        simp only [hf] at m
        intro x G1 H1 R
        exact ⟨b, rep_bl.mp (show Rep A.w G1 (.bl b) x from R.tr), m _ G1 H1 ⟨R.ok, R.st, (show Rep A.w G1 (.bl (if neg = true then !b else b)) _ from rep_bl.mpr rfl), no_own⟩⟩
      | _ => simp only [hf] at m
/-- what gives a small number out, and no exception -/
def lnX (f : EF) : EF := fun r => match f r with
  | .ok false (.int i) r' => if 0 ≤ i ∧ i.toNat < 1000000000 then .ok false (.int i) r' else .bad
  | _ => .bad
theorem lnX_of {f : EF} (h : tE A W (lnX f) σ H Q) : tE A W0 f σ H fun v H1 => ∃ i, v = .int i ∧ (0 ≤ i ∧ i < 1000000000) ∧ Q (.int i) H1 := by
  obtain ⟨r, G, k, m⟩ := h
  refine ⟨r, G, k, ?_⟩
  unfold lnX at m
  cases hf : f r with
  | bad => simp only [hf] at m
  | ex e r' => simp only [hf] at m
  | ok o v r' =>
    cases o with
    | true => simp only [hf] at m
    | false =>
      cases v with
      | int i =>
        simp only [hf] at m
        by_cases hi : 0 ≤ i ∧ i.toNat < 1000000000
        · rw [if_pos hi] at m
          intro x G1 H1 R
          exact ⟨i, rep_int.mp (show Rep A.w G1 (.int i) x from R.tr), ⟨hi.1, by omega⟩, m _ G1 H1 ⟨R.ok, R.st, (show Rep A.w G1 (.int i) _ from rep_int.mpr rfl), no_own⟩⟩
        · rw [if_neg hi] at m; exact m.elim
      | _ => simp only [hf] at m
theorem tOs_of0 {Q : List V → Hp → Prop} (h : tOs A W0 fs σ H Q) : tOs A W fs σ H Q := by
  obtain ⟨r, G, k, m⟩ := h
  refine ⟨r, G, k, ?_⟩
  cases hf : fs r with
  | bad => rw [hf] at m; exact m.elim
  | ex e r' => rw [hf] at m; exact m.of0
  | ok h r' => rw [hf] at m; exact m
theorem os_two {fa fb : OF} {Q : List V → Hp → Prop} (h : tOs A W (osCons fa (osCons fb osNil)) σ H Q) : tO A W fa σ H fun x H1 => tO A W fb σ H1 fun y H2 => Q [x, y] H2 :=
  tO_mono (os_cons h) fun x H1 h1 => tO_mono (os_cons h1) fun y H2 ⟨r, G, k, m⟩ => m [] G H2 k Step.refl rfl
theorem os_1 {fa : OF} {Q : List V → Hp → Prop} (h : tOs A W (osCons fa osNil) σ H Q) : tO A W fa σ H fun x H1 => Q [x] H1 :=
  tO_mono (os_cons h) fun x H1 ⟨r, G, k, m⟩ => m [] G H1 k Step.refl rfl
end
section
variable {X : Cx} {A : Act} {W : WX} {lvl : Nat} {tbl : Tbl} {a b e : Expr} {fa fb : OF} {pos p apos : Pos} {pins : List (Addr × Obj)} {σ : L2.St} {H : Hp} {s : Shared} {Q : VK}
theorem run_in1 {f : Addr} {n : Nat} {g : GF} {w : Wd} {us : List Value} {vs : List V} {Ex : Value → Shared → Prop} (F : FnP X.prog X.w X.K X.mg X.base (L2.CX X.prog X.w) lvl f (spF w n g)) (hr : RoomG (lvl + 1) X.A) (I : Inv X pins σ H s) (r : Vals vs us)
    (h : spF w n g vs H Q (fun _ _ _ => False)) : wpAny (model X.prog X.w) X.A.in1 (call (.ref f) us) (EP X pins σ Q) Ex s :=
  wpAny_call (codeAny_mono (F X.A.in1 X.stack s H us vs Q _ hr.in1 I.env0.in1 r h) fun r s' hq => by
    cases r with
    | error er => obtain ⟨_, _, _, _, _, _, _, _, _, _, _, _, z⟩ := hq; exact z.elim
    | ok fl =>
      cases fl with
      | ret u => exact I.after hq
      | next => exact False.elim hq
      | brk => exact False.elim hq
      | cont => exact False.elim hq)
theorem run_0 {f : Addr} {n : Nat} {g : GF} {w : Wd} {us : List Value} {vs : List V} (F : FnP X.prog X.w X.K X.mg X.base (L2.CX X.prog X.w) lvl f (spF w n g)) (hr : RoomG lvl X.A) (I : Inv X pins σ H s) (r : Vals vs us)
    (h : spF w n g vs H Q (fun _ _ _ => False)) : wpAny (model X.prog X.w) X.A (call (.ref f) us) (EP X pins σ Q) X.xe s :=
  run_P F hr (fun e s' z => by obtain ⟨_, _, _, _, _, _, _, _, _, _, _, _, z⟩ := z; exact z.elim) I r h
/-- == of two instances of one class -/
def rOwn (w : Wd) (tbl : Tbl) (m : Str) (neg : Bool) : R2 := fun x y H Q => ∃ c n g, tbl.lookup c = some (n, g) ∧ IsC w c m x H ∧ IsD w c y H ∧ spF w n g [x, y] H (fun v H1 => ∃ b, v = .bl b ∧ Q (.bl (if neg = true then !b else b)) H1) (fun _ _ _ => False)
theorem opr_own {w : Wd} (T : TblOk (MthOk X w lvl "__eq__") tbl) (hr : RoomG lvl X.A) : OpR X (compareOp .Eq) (rOwn w tbl "__eq__" false) := by
  intro pins s σ H x y v u Q I rx ry ⟨c, n, g, hl, ⟨a, C, dx, xs, ex, ea, hm, ln⟩, ⟨b, C2, dy, ys, ey, eb, hm2⟩, q⟩
  subst ex ey
  cases rx
  cases ry
  rw [hm] at hm2
  cases hm2
  obtain ⟨C', f, hm', hcl, hme, F⟩ := (T _ (lookup_in hl)).ok
  rw [hm] at hm'
  cases hm'
  obtain ⟨_, O, _⟩ := ins_get I.hok ea
  obtain ⟨od, J, _⟩ := O.look
  obtain ⟨_, O2, _⟩ := ins_get I.hok eb
  obtain ⟨od2, J2, _⟩ := O2.look
  obtain ⟨mm, hF⟩ := I.fr
  unfold compareOp
  refine PySem.W.cmp_K (op := .Eq) (tb := .ref C) hr.room.units0 hF I.ok.mod.kin J J2.type (by simp [PySem.W.notFirst]) hme.at_ hme.fn ?_
  refine wpAny_mono (run_0 (us := [.ref a, .ref b]) (vs := [.ref a, .ref b]) F hr I (.cons rfl (.cons rfl .nil)) q) (fun u s' hq => ?_) fun _ _ z => z
  obtain ⟨v, H', I', rv, b, rfl, q⟩ := hq
  cases rv
  exact ⟨.bl _, H', I', rfl, q⟩
/-- the class has == of its own, and object's != -/
structure NeOk (X : Cx) (w : Wd) (c : Str) : Prop where
  ok : ∃ C, w.CM c = some C ∧ PySem.W.findIn X.K (.ref C) "__ne__" = some (some (.builtin "object.__ne__"))
theorem opr_ownNe {w : Wd} (T : TblOk (MthOk X w lvl "__eq__") tbl) (hr : RoomG (lvl + 1) X.A) (hN : ∀ p ∈ tbl, NeOk X w p.1) : OpR X (compareOp .NotEq) (rOwn w tbl "__eq__" true) := by
  intro pins s σ H x y v u Q I rx ry ⟨c, n, g, hl, ⟨a, C, dx, xs, ex, ea, hm, ln⟩, ⟨b, C2, dy, ys, ey, eb, hm2⟩, q⟩
  subst ex ey
  cases rx
  cases ry
  rw [hm] at hm2
  cases hm2
  obtain ⟨C', f, hm', hcl, hme, F⟩ := (T _ (lookup_in hl)).ok
  rw [hm] at hm'
  cases hm'
  obtain ⟨C3, hm3, hne⟩ := (hN _ (lookup_in hl)).ok
  rw [hm] at hm3
  cases hm3
  obtain ⟨_, O, _⟩ := ins_get I.hok ea
  obtain ⟨od, J, _⟩ := O.look
  obtain ⟨_, O2, _⟩ := ins_get I.hok eb
  obtain ⟨od2, J2, _⟩ := O2.look
  obtain ⟨mm, hF⟩ := I.fr
  unfold compareOp
  refine PySem.W.ne_K (tb := .ref C) (by have := hr.room.un; omega) hF I.ok.mod.kin J J2.type (by simp [PySem.W.notFirst]) hne hcl.po hme.at_ hme.fn ?_
  refine wpAny_mono (run_in1 (us := [.ref a, .ref b]) (vs := [.ref a, .ref b]) F hr I (.cons rfl (.cons rfl .nil)) q) (fun u s' hq => ?_) fun _ _ z => z
  obtain ⟨v, H', I', rv, b, rfl, q⟩ := hq
  cases rv
  exact ⟨b, rfl, .bl _, H', I', rfl, q⟩
theorem own_of {neg : Bool} (h : tE A W (blX neg (dun true tbl "__eq__" (osCons fa (osCons fb osNil)))) σ H Q) : tOp (rOwn A.w tbl "__eq__" neg) (tO A W fa) (tO A W fb) σ H Q := by
  refine tO_mono (os_two (tOs_of0 (dun_of (blX_of h)))) fun x H1 h1 => tO_mono h1 fun y H2 ⟨c, n, g, hl, ⟨x', ys, e, i1, i2⟩, q⟩ => ?_
  cases e
  obtain ⟨y', zs, e, i3⟩ := i2 rfl
  cases e
  exact ⟨c, n, g, hl, i1, i3, q⟩
theorem pe_eqO (T : TblOk (MthOk X A.w lvl "__eq__") tbl) (hr : RoomG lvl X.A) (ha : PE X a (tO A W fa)) (hb : PE X b (tO A W fb)) (hm : behindInMarks .Eq b = false := by rfl) :
    PE X (.Compare a [.Eq] [b] pos) (tE A W (blX false (dun true tbl "__eq__" (osCons fa (osCons fb osNil))))) := PE.imp (pe_cmpR (opr_own T hr) ha hb hm) fun _ _ _ h => own_of h
theorem pe_neO (T : TblOk (MthOk X A.w lvl "__eq__") tbl) (hN : TblOk (fun c _ _ => NeOk X A.w c) tbl) (hr : RoomG (lvl + 1) X.A) (ha : PE X a (tO A W fa)) (hb : PE X b (tO A W fb)) (hm : behindInMarks .NotEq b = false := by rfl) :
    PE X (.Compare a [.NotEq] [b] pos) (tE A W (blX true (dun true tbl "__eq__" (osCons fa (osCons fb osNil))))) := PE.imp (pe_cmpR (opr_ownNe T hr hN) ha hb hm) fun _ _ _ h => own_of h
theorem pt_eqO (T : TblOk (MthOk X A.w lvl "__eq__") tbl) (hr : RoomG lvl X.A) (ha : PE X a (tO A W fa)) (hb : PE X b (tO A W fb)) (hm : behindInMarks .Eq b = false := by rfl) :
    PT X (.Compare a [.Eq] [b] pos) (tBo A W (tst (blX false (dun true tbl "__eq__" (osCons fa (osCons fb osNil)))))) := PT.imp (pt_cmpR (opr_own T hr) ha hb hm) fun _ _ _ h => own_of (tst_of h)
theorem pt_neO (T : TblOk (MthOk X A.w lvl "__eq__") tbl) (hN : TblOk (fun c _ _ => NeOk X A.w c) tbl) (hr : RoomG (lvl + 1) X.A) (ha : PE X a (tO A W fa)) (hb : PE X b (tO A W fb)) (hm : behindInMarks .NotEq b = false := by rfl) :
    PT X (.Compare a [.NotEq] [b] pos) (tBo A W (tst (blX true (dun true tbl "__eq__" (osCons fa (osCons fb osNil)))))) := PT.imp (pt_cmpR (opr_ownNe T hr hN) ha hb hm) fun _ _ _ h => own_of (tst_of h)
/-! ### len(x), y in x, x(..), x + y, ~x -/
theorem rel_cmp {v : V} {u : Value} {Q : Value → Shared → Prop} {s' : Shared} (r : RelV v u) (q : Q u s') : PySem.W.CmpBack Q u s' := by
  cases v
  case int i => obtain ⟨t, rfl⟩ := r; exact q
  case str x => obtain ⟨t, rfl⟩ := r; exact q
  case byt x => obtain ⟨t, rfl⟩ := r; exact q
  case flt x => obtain ⟨t, rfl⟩ := r; exact q
  all_goals
    cases r
    exact q
def rLenO (w : Wd) (tbl : Tbl) : List V → Hp → VK → Prop := fun vs H Q => ∃ c n g x, vs = [x] ∧ tbl.lookup c = some (n, g) ∧ IsC w c "__len__" x H ∧ spF w n g [x] H (fun v H1 => ∃ i, v = .int i ∧ (0 ≤ i ∧ i < 1000000000) ∧ Q (.int i) H1) (fun _ _ _ => False)
theorem cr_lenO {w : Wd} (T : TblOk (MthOk X w lvl "__len__") tbl) (hr : RoomG (lvl + 1) X.A) : CallR X (.builtin "len") (rLenO w tbl) := by
  intro pins s σ H xs us Q I r ⟨c, n, g, x, e, hl, ⟨a, C, dx, xs', ex, ea, hm, ln⟩, q⟩
  subst e ex
  obtain ⟨u, rfl, ru⟩ := vals1 r
  cases ru
  obtain ⟨C', f, hm', hcl, hme, F⟩ := (T _ (lookup_in hl)).ok
  rw [hm] at hm'
  cases hm'
  obtain ⟨_, O, _⟩ := ins_get I.hok ea
  obtain ⟨od, J, _⟩ := O.look
  obtain ⟨mm, hF⟩ := I.fr
  refine PySem.W.len_K hF I.ok.mod.kin J hme.at_ hme.fn ?_
  refine wpAny_mono (run_in1 (us := [.ref a]) (vs := [.ref a]) F hr I (.cons rfl .nil) q) (fun u s' hq => ?_) fun _ _ z => z
  obtain ⟨v, H', I', rv, i, rfl, hi, q⟩ := hq
  obtain ⟨t, rfl⟩ := rv
  exact ⟨⟨hi.1, by omega⟩, .int i, H', I'.tok _, ⟨_, rfl⟩, q⟩
theorem pe_lenO (T : TblOk (MthOk X A.w lvl "__len__") tbl) (hr : RoomG (lvl + 1) X.A) (hg : Gl X "len") (hm : X.mg "len" = none) (ha : PE X a (tO A W fa)) (he : starEach [a] X.env = (false, eval a X.env) :: starEach [] X.env := by rfl) (hpl : NoStars X [] pos := by rfl) :
    PE X (.Call (.Name "len" p) [a] [] pos) (tE A W (lnX (dun false tbl "__len__" (osCons fa osNil)))) := by
  refine PE.imp (pe_callB (cr_lenO T hr) hg hm bf_len (pa_cons ha pa_nil he) (by decide) (by decide) he hpl) fun σ H Q h => ?_
  refine tO_mono (os_1 (tOs_of0 (dun_of (lnX_of h)))) fun x H1 ⟨c, n, g, hl, ⟨x', ys, e, i1, _⟩, q⟩ => ?_
  cases e
  exact ⟨c, n, g, x, rfl, hl, i1, q⟩
/-- y in x, not in -/
def rInO (w : Wd) (tbl : Tbl) (neg : Bool) : R2 := fun y x H Q => ∃ c n g, tbl.lookup c = some (n, g) ∧ IsC w c "__contains__" x H ∧ spF w n g [x, y] H (fun v H1 => ∃ b, v = .bl b ∧ Q (.bl (if neg = true then !b else b)) H1) (fun _ _ _ => False)
theorem opr_inO {w : Wd} (T : TblOk (MthOk X w lvl "__contains__") tbl) (hr : RoomG lvl X.A) : OpR X (compareOp .In) (rInO w tbl false) := by
  intro pins s σ H y x u v Q I ry rx ⟨c, n, g, hl, ⟨a, C, dx, xs, ex, ea, hm, ln⟩, q⟩
  subst ex
  cases rx
  obtain ⟨C', f, hm', hcl, hme, F⟩ := (T _ (lookup_in hl)).ok
  rw [hm] at hm'
  cases hm'
  obtain ⟨_, O, _⟩ := ins_get I.hok ea
  obtain ⟨od, J, _⟩ := O.look
  obtain ⟨mm, hF⟩ := I.fr
  refine PySem.W.in_K hF I.ok.mod.kin J hme.at_ hme.fn ?_
  refine wpAny_mono (run_0 (us := [.ref a, u]) (vs := [.ref a, y]) F hr I (.cons rfl (.cons ry .nil)) q) (fun u s' hq => ?_) fun _ _ z => z
  obtain ⟨v, H', I', rv, b, rfl, q⟩ := hq
  cases rv
  exact wpAny_truthy_bool ⟨.bl _, H', I', rfl, q⟩
theorem opr_notInO {w : Wd} (T : TblOk (MthOk X w lvl "__contains__") tbl) (hr : RoomG lvl X.A) : OpR X (compareOp .NotIn) (rInO w tbl true) := by
  intro pins s σ H y x u v Q I ry rx ⟨c, n, g, hl, ⟨a, C, dx, xs, ex, ea, hm, ln⟩, q⟩
  subst ex
  cases rx
  obtain ⟨C', f, hm', hcl, hme, F⟩ := (T _ (lookup_in hl)).ok
  rw [hm] at hm'
  cases hm'
  obtain ⟨_, O, _⟩ := ins_get I.hok ea
  obtain ⟨od, J, _⟩ := O.look
  obtain ⟨mm, hF⟩ := I.fr
  refine PySem.W.notIn_K hF I.ok.mod.kin J hme.at_ hme.fn ?_
  refine wpAny_mono (run_0 (us := [.ref a, u]) (vs := [.ref a, y]) F hr I (.cons rfl (.cons ry .nil)) q) (fun u s' hq => ?_) fun _ _ z => z
  obtain ⟨v, H', I', rv, b, rfl, q⟩ := hq
  cases rv
  exact wpAny_truthy_bool ⟨.bl _, H', I', rfl, q⟩
theorem inO_of {neg : Bool} (h : tE A W (blX neg (dun false tbl "__contains__" (osPick [1, 0] (osN 2 (osCons fa (osCons fb osNil)))))) σ H Q) : tOp (rInO A.w tbl neg) (tO A W fa) (tO A W fb) σ H Q := by
  refine tO_mono (os_two (os_N (os_pick (tOs_of0 (dun_of (blX_of h)))))) fun y H1 h1 => tO_mono h1 fun x H2 ⟨_, ys, e0, c, n, g, hl, ⟨x', zs, e, i1, _⟩, q⟩ => ?_
  have e0' : some [x, y] = some ys := e0
  cases e0'
  cases e
  exact ⟨c, n, g, hl, i1, q⟩
theorem pe_inO (T : TblOk (MthOk X A.w lvl "__contains__") tbl) (hr : RoomG lvl X.A) (ha : PE X a (tO A W fa)) (hb : PE X b (tO A W fb)) (hm : behindInMarks .In b = false := by with_unfolding_all rfl) :
    PE X (.Compare a [.In] [b] pos) (tE A W (blX false (dun false tbl "__contains__" (osPick [1, 0] (osN 2 (osCons fa (osCons fb osNil))))))) := PE.imp (pe_cmpR (opr_inO T hr) ha hb hm) fun _ _ _ h => inO_of h
theorem pe_notInO (T : TblOk (MthOk X A.w lvl "__contains__") tbl) (hr : RoomG lvl X.A) (ha : PE X a (tO A W fa)) (hb : PE X b (tO A W fb)) (hm : behindInMarks .NotIn b = false := by with_unfolding_all rfl) :
    PE X (.Compare a [.NotIn] [b] pos) (tE A W (blX true (dun false tbl "__contains__" (osPick [1, 0] (osN 2 (osCons fa (osCons fb osNil))))))) := PE.imp (pe_cmpR (opr_notInO T hr) ha hb hm) fun _ _ _ h => inO_of h
theorem pt_inO (T : TblOk (MthOk X A.w lvl "__contains__") tbl) (hr : RoomG lvl X.A) (ha : PE X a (tO A W fa)) (hb : PE X b (tO A W fb)) (hm : behindInMarks .In b = false := by with_unfolding_all rfl) :
    PT X (.Compare a [.In] [b] pos) (tBo A W (tst (blX false (dun false tbl "__contains__" (osPick [1, 0] (osN 2 (osCons fa (osCons fb osNil)))))))) := PT.imp (pt_cmpR (opr_inO T hr) ha hb hm) fun _ _ _ h => inO_of (tst_of h)
theorem pt_notInO (T : TblOk (MthOk X A.w lvl "__contains__") tbl) (hr : RoomG lvl X.A) (ha : PE X a (tO A W fa)) (hb : PE X b (tO A W fb)) (hm : behindInMarks .NotIn b = false := by with_unfolding_all rfl) :
    PT X (.Compare a [.NotIn] [b] pos) (tBo A W (tst (blX true (dun false tbl "__contains__" (osPick [1, 0] (osN 2 (osCons fa (osCons fb osNil)))))))) := PT.imp (pt_cmpR (opr_notInO T hr) ha hb hm) fun _ _ _ h => inO_of (tst_of h)
/-- x + y .. of two instances of one class -/
def rBinO (w : Wd) (tbl : Tbl) (m : Str) : R2 := fun x y H Q => ∃ c n g, tbl.lookup c = some (n, g) ∧ IsC w c m x H ∧ IsD w c y H ∧ spF w n g [x, y] H Q (fun _ _ _ => False)
/-- the class stands first in its own order -/
structure SfOk (X : Cx) (w : Wd) (c : Str) : Prop where
  ok : ∃ C, w.CM c = some C ∧ PySem.W.selfFirst X.K C = true
theorem opr_binO {w : Wd} {op : Operator} (T : TblOk (MthOk X w lvl (PySem.dunder op.info.2)) tbl) (hr : RoomG lvl X.A) (hN : ∀ p ∈ tbl, SfOk X w p.1) : OpR X (binaryOp op) (rBinO w tbl (PySem.dunder op.info.2)) := by
  intro pins s σ H x y v u Q I rx ry ⟨c, n, g, hl, ⟨a, C, dx, xs, ex, ea, hm, ln⟩, ⟨b, C2, dy, ys, ey, eb, hm2⟩, q⟩
  subst ex ey
  cases rx
  cases ry
  rw [hm] at hm2
  cases hm2
  obtain ⟨C', f, hm', hcl, hme, F⟩ := (T _ (lookup_in hl)).ok
  rw [hm] at hm'
  cases hm'
  obtain ⟨C3, hm3, hsf⟩ := (hN _ (lookup_in hl)).ok
  rw [hm] at hm3
  cases hm3
  obtain ⟨_, O, _⟩ := ins_get I.hok ea
  obtain ⟨od, J, _⟩ := O.look
  obtain ⟨_, O2, _⟩ := ins_get I.hok eb
  obtain ⟨od2, J2, _⟩ := O2.look
  obtain ⟨mm, hF⟩ := I.fr
  refine PySem.W.binop_K hF I.ok.mod.kin J J2.type hsf hme.at_ hme.fn ?_
  refine wpAny_mono (run_0 (us := [.ref a, .ref b]) (vs := [.ref a, .ref b]) F hr I (.cons rfl (.cons rfl .nil)) q) (fun u s' hq => ?_) fun _ _ z => z
  obtain ⟨v, H', I', rv, q⟩ := hq
  exact rel_cmp rv ⟨v, H', I', rv, q⟩
theorem pe_addO (T : TblOk (MthOk X A.w lvl "__add__") tbl) (hN : TblOk (fun c _ _ => SfOk X A.w c) tbl) (hr : RoomG lvl X.A) (ha : PE X a (tO A W fa)) (hb : PE X b (tO A W fb)) :
    PE X (.BinOp a .Add b pos) (tE A W (noX (dun true tbl "__add__" (osCons fa (osCons fb osNil))))) := by
  refine PE.imp (pe_op (op := .Add) (opr_binO T hr hN) ha hb) fun σ H Q h => ?_
  refine tO_mono (os_two (tOs_of0 (dun_of (noX_of (W' := W0) h)))) fun x H1 h1 => tO_mono h1 fun y H2 ⟨c, n, g, hl, ⟨x', ys, e, i1, i2⟩, q⟩ => ?_
  cases e
  obtain ⟨y', zs, e, i3⟩ := i2 rfl
  cases e
  exact ⟨c, n, g, hl, i1, i3, q⟩
def rInvO (w : Wd) (tbl : Tbl) (m : Str) : V → Hp → VK → Prop := fun x H Q => ∃ c n g, tbl.lookup c = some (n, g) ∧ IsC w c m x H ∧ spF w n g [x] H Q (fun _ _ _ => False)
theorem unr_invO {w : Wd} (T : TblOk (MthOk X w lvl "__invert__") tbl) (hr : RoomG lvl X.A) : UnR X (unaryOp .Invert) (rInvO w tbl "__invert__") := by
  intro pins s σ H x v Q I rx ⟨c, n, g, hl, ⟨a, C, dx, xs, ex, ea, hm, ln⟩, q⟩
  subst ex
  cases rx
  obtain ⟨C', f, hm', hcl, hme, F⟩ := (T _ (lookup_in hl)).ok
  rw [hm] at hm'
  cases hm'
  obtain ⟨_, O, _⟩ := ins_get I.hok ea
  obtain ⟨od, J, _⟩ := O.look
  unfold unaryOp
  refine wpAny_holding ?_
  dsimp only
  rw [if_neg (by decide)]
  refine wpAny_bind (m := callSpecial? (.ref a) _) (PySem.W.special_fn I.kIn J hme.at_ (beq_iff_eq.mp hme.fn) (wpAny_mono (run_0 (us := [.ref a]) (vs := [.ref a]) F hr I (.cons rfl .nil) q) (fun u s' hq => ?_) fun _ _ z => z))
  exact wpAny_pure hq
theorem pe_invO (T : TblOk (MthOk X A.w lvl "__invert__") tbl) (hr : RoomG lvl X.A) (ha : PE X a (tO A W fa)) : PE X (.UnaryOp .Invert a pos) (tE A W (noX (dun false tbl "__invert__" (osCons fa osNil)))) := by
  refine PE.imp (pe_un (unr_invO T hr) ha) fun σ H Q h => ?_
  refine tO_mono (os_1 (tOs_of0 (dun_of (noX_of (W' := W0) h)))) fun x H1 ⟨c, n, g, hl, ⟨x', ys, e, i1, _⟩, q⟩ => ?_
  cases e
  exact ⟨c, n, g, hl, i1, q⟩
/-- f(e, ..), f gives an instance with __call__ -/
structure ClOk (X : Cx) (w : Wd) (lvl : Nat) (c : Str) (n : Nat) (g : GF) : Prop where
  ok : ∃ C f, w.CM c = some C ∧ StX.CallO X.K C f ∧ FnP X.prog X.w X.K X.mg X.base (L2.CX X.prog X.w) lvl f (spF w n g)
/-- an operand that is an instance -/
def oOb (fo : OF) : OF := fun r => match fo r with
  | .ok h r1 => match h.get r1 with
    | some (.obj _ _) => .ok h r1
    | _ => .bad
  | .ex e r1 => .ex e r1
  | .bad => .bad
theorem oOb_of {fo : OF} {Q : V → Hp → Prop} (h : tO A W (oOb fo) σ H Q) : tO A W fo σ H fun x H1 => (∃ a, x = .ref a) ∧ Q x H1 := by
  obtain ⟨r, G, k, mm⟩ := h
  refine ⟨r, G, k, ?_⟩
  unfold oOb at mm
  cases hf : fo r with
  | bad => rw [hf] at mm; exact mm.elim
  | ex e r' => rw [hf] at mm; exact mm
  | ok h r1 =>
    simp only [hf] at mm
    cases hg : h.get r1 with
    | none => simp only [hg] at mm
    | some v =>
      cases v with
      | obj c' fs =>
        simp only [hg] at mm
        intro x G1 H1 k1 st t
        obtain ⟨a, C, dx, xs, e1, e2, e3, e4⟩ := rrep_obj k1.sub (t.get k1 hg)
        exact ⟨⟨a, e1⟩, mm x G1 H1 k1 st t⟩
      | _ => simp only [hg] at mm
theorem pe_callI {fe : Expr} {es : List Expr} {fo : OF} {fs : OsF} (T : TblOk (ClOk X A.w lvl) tbl) (hr : RoomG lvl X.A) (tk : Takes X W) (hf : PE X fe (tO A W fo)) (ha : PA X (e :: es) (tOs A W fs))
    (ht : PCall X fe (e :: es) pos := by rfl)
    (he : NoStar X e es := by rfl) (hpl : NoStars X es pos := by rfl) : PE X (.Call fe (e :: es) [] pos) (tE A W (dun false tbl "__call__" (osCons (oOb fo) fs))) := by
  refine ⟨fun pins s σ H Q I h => ?_⟩
  refine Call_ (thn (hf.run pins s σ H _ I (oOb_of (os_cons (dun_of h)))) fun u s1 ⟨y, H1, I1, ry, ⟨a, ey⟩, q⟩ => ?_) ht
  subst ey
  obtain rfl : u = Value.ref a := ry
  refine StX.callO_with (thn (ha.run pos pins s1 σ H1 _ I1 q) fun us s2 ⟨vs, H2, I2, r, c, n, g, hl, ⟨x', ys, e, ⟨a', C, dx, xs, ex, ea, hm, ln⟩, _⟩, q2⟩ => ?_) he hpl
  cases e
  cases ex
  obtain ⟨C', f, hm', co, F⟩ := (T _ (lookup_in hl)).ok
  rw [hm] at hm'
  cases hm'
  obtain ⟨_, O, _⟩ := ins_get I2.hok ea
  obtain ⟨od, J, _⟩ := O.look
  refine ⟨⟨C, _, _, J, rfl⟩, ?_⟩
  exact wpAny_call (PySem.W.kco_code I2.kIn J rfl co.at_ co.fn co.fi (code_P (us := .ref a :: us) (vs := .ref a :: vs) F hr (fun e s' z => tk e s' (XE.of_call I2 (fun _ _ _ y => y) z)) I2 (.cons rfl r) q2))
end
/-! ### read with continuations -/
section
variable {r : Env} {fs : OsF} {tbl : Tbl} {m : Str} {two : Bool}
def kdu4 (hs : List Hd) (r1 : Env) (Q : ER → Prop) : Option (Nat × GF) → Prop
  | some (n, g) => kcall n g Q (.ok hs r1)
  | none => Q .bad
def kdu3 (tbl : Tbl) (c : Str) (hs : List Hd) (r1 : Env) (Q : ER → Prop) : Option Val → Prop
  | none => kdu4 hs r1 Q (tbl.lookup c)
  | some _ => Q .bad
def kdu2 (tbl : Tbl) (m : Str) (hs : List Hd) (r1 : Env) (Q : ER → Prop) : Option (Str × List (Str × Val)) → Prop
  | some (c, fl) => kdu3 tbl c hs r1 Q (fl.lookup m)
  | none => Q .bad
def kdu (two : Bool) (tbl : Tbl) (m : Str) (Q : ER → Prop) : OsR → Prop
  | .ok hs r1 => kdu2 tbl m hs r1 Q ((lend r1 hs).bind (hdObj two))
  | .ex e r1 => Q (.ex e r1)
  | .bad => Q .bad
theorem wE_dun {Q : ER → Prop} : wE (dun two tbl m fs) r Q = wOs fs r (kdu two tbl m Q) := by
  have key : ∀ (n : Nat) (g : GF) (hs : List Hd) (r1 : Env), fs r = .ok hs r1 → Q (callG n g fs r) = kcall n g Q (.ok hs r1) := fun n g hs r1 h => by
    have e := wE_call (n := n) (fs := fs) (r := r) (g := g) (Q := Q)
    unfold wE wOs at e
    rw [e, h]
  unfold wE wOs dun
  cases hf : fs r with
  | ok hs r1 =>
    simp only [kdu]
    cases (lend r1 hs).bind (hdObj two) with
    | none => rfl
    | some p =>
      obtain ⟨c, fl⟩ := p
      simp only [kdu2]
      cases fl.lookup m with
      | some _ => rfl
      | none =>
        simp only [kdu3]
        cases tbl.lookup c with
        | none => rfl
        | some ng => exact key _ _ _ _ hf
  | _ => rfl
def kbl (neg : Bool) (Q : ER → Prop) : ER → Prop
  | .ok false (.bl b) r' => Q (.ok false (.bl (if neg = true then !b else b)) r')
  | _ => Q .bad
theorem wE_blX {neg : Bool} {f : EF} {Q : ER → Prop} : wE (blX neg f) r Q = wE f r (kbl neg Q) := by
  unfold wE blX
  rcases f r with ⟨_ | _, v, r'⟩ | _ | _
  · cases v <;> rfl
  · rfl
  · rfl
  · rfl
def kln (Q : ER → Prop) : ER → Prop
  | .ok false (.int i) r' => if 0 ≤ i ∧ i.toNat < 1000000000 then Q (.ok false (.int i) r') else Q .bad
  | _ => Q .bad
theorem wE_lnX {f : EF} {Q : ER → Prop} : wE (lnX f) r Q = wE f r (kln Q) := by
  unfold wE lnX
  rcases f r with ⟨_ | _, v, r'⟩ | _ | _
  · cases v <;> first | rfl | (simp only [kln]; split <;> rfl)
  · rfl
  · rfl
  · rfl
def koOb (h : Hd) (r1 : Env) (Q : OR → Prop) : Option Val → Prop
  | some (.obj _ _) => Q (.ok h r1)
  | _ => Q .bad
def koO (Q : OR → Prop) : OR → Prop
  | .ok h r1 => koOb h r1 Q (h.get r1)
  | .ex e r1 => Q (.ex e r1)
  | .bad => Q .bad
theorem wO_Ob {fo : OF} {Q : OR → Prop} : wO (oOb fo) r Q = wO fo r (koO Q) := by
  unfold wO oOb
  cases fo r with
  | ok h r1 =>
    simp only [koO]
    cases h.get r1 with
    | none => rfl
    | some v => cases v <;> rfl
  | _ => rfl
theorem kdu_ok {Q : ER → Prop} {hs : List Hd} {r1 : Env} : kdu two tbl m Q (.ok hs r1) = kdu2 tbl m hs r1 Q ((lend r1 hs).bind (hdObj two)) := rfl
theorem kbl_f {Q : ER → Prop} {b : Bool} : kbl false Q (.ok false (.bl b) r) = Q (.ok false (.bl b) r) := rfl
theorem kbl_t {Q : ER → Prop} {b : Bool} : kbl true Q (.ok false (.bl b) r) = Q (.ok false (.bl (!b)) r) := rfl
theorem hd_f {o : Bool} {c : Str} {fl : List (Str × Val)} {as : List (Bool × Val)} : hdObj false ((o, .obj c fl) :: as) = some (c, fl) := rfl
theorem hd_t {o o2 : Bool} {c : Str} {fl fl2 : List (Str × Val)} {as : List (Bool × Val)} : hdObj true ((o, .obj c fl) :: (o2, .obj c fl2) :: as) = some (c, fl) := if_pos rfl
def kdu4_e1 := @kdu4.eq_1
def kdu3_e1 := @kdu3.eq_1
def kdu2_e1 := @kdu2.eq_1
def kdu_e2 := @kdu.eq_2
def koOb_e1 := @koOb.eq_1
def koO_e1 := @koO.eq_1
def koO_e2 := @koO.eq_2
def kln_e1 := @kln.eq_1
end
end M
/-! MPSA: calls of classes with a starred argument. -/
namespace M
open PySem PySem.Spec PyProof.Rows L2
def seqOf : Val → Option (List Val)
  | .tup vs => some vs
  | .lst vs => some vs
  | _ => none
/-- *e among arguments: the items, frozen -/
def osStarA (f : EF) (g : OsF) : OsF := fun r => match frz f r with
  | .ok _ v r1 => match seqOf v with
    | some vs => match g r1 with
      | .ok hs r2 => .ok (vs.map (Hd.tmp false) ++ hs) r2
      | .ex e r2 => .ex e r2
      | .bad => .bad
    | none => .bad
  | .ex e r1 => .ex e r1
  | .bad => .bad
theorem hreps_tmp {A : Act} {G H : Hp} {σ : L2.St} {r : Env} : ∀ {vs : List Val} {xs : List V} {hs : List Hd} {ys : List V}, Reps A.w G vs xs → HReps A G H σ r hs ys → HReps A G H σ r (vs.map (Hd.tmp false) ++ hs) (xs ++ ys)
  | [], xs, hs, ys, h, k => by rw [reps_nil] at h; subst h; exact k
  | v :: vs, xs, hs, ys, h, k => by
    obtain ⟨y, zs, rfl, h1, h2⟩ := reps_cons.mp h
    exact ⟨y, zs ++ ys, rfl, h1, hreps_tmp h2 k⟩
section
variable {X : Cx} {A : Act} {W : WX} {σ : L2.St} {H : Hp} {e : Expr} {es : List Expr} {f : EF} {g : OsF} {p pos sp_ : Pos}
theorem star_of (hK : A.w.K = X.K) {Q : List V → Hp → Prop} (h : tOs A W (osStarA f g) σ H Q) : StX.tStar X.K (tE A W (frz f)) (tOs A W g) σ H Q := by
  obtain ⟨r, G, k, m⟩ := h
  refine ⟨r, G, k, ?_⟩
  unfold osStarA at m
  cases hf : frz f r with
  | bad => simp only [hf] at m
  | ex e r' => simp only [hf] at m ⊢; exact m
  | ok o v r1 =>
    have eo := frz_false hf
    subst eo
    simp only [hf] at m ⊢
    intro x G1 H1 R
    have rest : ∀ {vs : List Val} {xs : List V}, seqOf v = some vs → Reps A.w G1 vs xs → tOs A W g σ H1 fun ys H2 => Q (xs ++ ys) H2 := by
      intro vs xs hs rs
      simp only [hs] at m
      refine ⟨r1, G1, R.ok, ?_⟩
      cases hg : g r1 with
      | bad => simp only [hg] at m
      | ex e r' =>
        simp only [hg] at m ⊢
        exact ExP.mono R.st.ex m
      | ok hs r2 =>
        simp only [hg] at m ⊢
        intro ys G2 H2 k2 st2 t2
        exact m _ G2 H2 k2 (R.st.trans st2) (hreps_tmp (Reps.mono st2.ex rs) t2)
    cases v with
    | tup vs =>
      obtain ⟨a, xs, rfl, sq, rs⟩ := rep_tup.mp (show Rep A.w G1 (.tup vs) x from R.tr)
      exact ⟨a, xs, rfl, .inl (by rw [← hK]; exact sqt_mono R.ok.sub sq), rest rfl rs⟩
    | lst vs =>
      obtain ⟨a, xs, rfl, sq, rs⟩ := rep_lst.mp (show Rep A.w G1 (.lst vs) x from R.tr)
      exact ⟨a, xs, rfl, .inr (.inl (.inl (R.ok.sub _ _ sq))), rest rfl rs⟩
    | _ => simp only [seqOf] at m
theorem pa_starA (c : Cal X A.w) (he : PE X e (tE A W f)) (hr : PA X es (tOs A W g)) (hs : starEach (.Starred e p :: es) X.env = (true, eval e X.env) :: starEach es X.env := by rfl) : PA X (.Starred e p :: es) (tOs A W (osStarA f g)) :=
  PA.imp (StX.pa_star (pe_frz he) hr hs) fun _ _ _ h => star_of c.K h
/-- C(..) whatever the number of arguments -/
def mkCS (c : Str) (g : GF) (f : OsF) : EF := fun r => mkC c (match f r with | .ok hs _ => hs.length + 1 | _ => 0) g f r
theorem mkCS_of {c : Str} {gf : GF} {f : OsF} {Q : VK} (h : tE A W (mkCS c gf f) σ H Q) : ∃ n, tE A W (mkC c n gf f) σ H Q := by
  obtain ⟨r, G, k, m⟩ := h
  exact ⟨_, r, G, k, m⟩
variable {lvl : Nat} {c x : Str} {gf : GF} {fs : OsF} {tbl : Tbl} {i : Nat}
/-- C(e, .., *y), C a class of the module -/
theorem pe_mkS2 (mo : ∀ n, MkOk X A.w lvl c n gf) (hr : RoomG (lvl + 1) X.A) (hg : Gl X x) (hm : ∃ C, X.mg x = some (.ref C) ∧ A.w.CM c = some C) (tk : Takes X W) (ha : PA X (e :: es) (tOs A W fs)) (hdb : (x == ("__debug__" : Str)) = false := by decide)
    (he : NoStar X e es := by rfl) (hst : (backTo pos (starEach es X.env)).any (·.1) = true := by rfl) : PE X (.Call (.Name x p) (e :: es) [] pos) (tE A W (mkCS c gf fs)) := by
  refine ⟨fun pins s σ H Q I h => ?_⟩
  obtain ⟨n, h⟩ := mkCS_of h
  obtain ⟨C, f, hC, hk, F⟩ := (mo n).ok
  obtain ⟨C', hm, hC'⟩ := hm
  rw [hC] at hC'
  cases hC'
  have h2 := mkC_of hC h
  refine wpAny_Call_Name_kw (ld_glob I hg hm ?_ hdb)
  refine PySem.W.callWith_S2 (h₀ := X.base) I.ok.mod.kin hk.kp (wpAny_mono (ha.run pos pins s σ H _ I h2) (fun us s1 ⟨vs, H1, I1, r, q⟩ => ⟨I1.kIn, ?_⟩) fun _ _ z => z) he hst
  exact run_mkP hk F hr tk I1 r q
/-- C(*y) -/
theorem pe_mkS1 (ca : Cal X A.w) (mo : ∀ n, MkOk X A.w lvl c n gf) (hr : RoomG (lvl + 1) X.A) (hg : Gl X x) (hm : ∃ C, X.mg x = some (.ref C) ∧ A.w.CM c = some C) (tk : Takes X W) (he : PE X e (tE A W f)) (hdb : (x == ("__debug__" : Str)) = false := by decide)
    (hst : starEach [.Starred e sp_] X.env = [(true, eval e X.env)] := by rfl) : PE X (.Call (.Name x p) [.Starred e sp_] [] pos) (tE A W (mkCS c gf (osStarA f osNil))) := by
  refine ⟨fun pins s σ H Q I h => ?_⟩
  obtain ⟨n, h⟩ := mkCS_of h
  obtain ⟨C, f', hC, hk, F⟩ := (mo n).ok
  obtain ⟨C', hm, hC'⟩ := hm
  rw [hC] at hC'
  cases hC'
  have h2 := star_of ca.K (mkC_of hC h)
  refine wpAny_Call_Name_kw (ld_glob I hg hm ?_ hdb)
  refine PySem.W.callWith_S (h₀ := X.base) I.ok.mod.kin hk.kp (thn ((pe_frz he).run pins s σ H _ I h2) fun v s1 ⟨y, H1, I1, ry, a, xs, ey, hxs, r, G, k, q⟩ => ?_) hst
  subst ey
  obtain rfl : v = Value.ref a := ry
  have q2 := q [] G H1 k Step.refl rfl
  simp only [List.append_nil] at q2
  exact StX.star_any I1 hxs fun us s2 I2 rv => ⟨I2.kIn, run_mkP hk F hr tk I2 rv q2⟩
/-- x(..), x a name that holds a class -/
def mkDS (tbl : Tbl) (i : Nat) (fs : OsF) : EF := fun r => match r[i]? with
  | some (some (false, .cls c)) => match tbl.lookup c with
    | some (_, g) => mkCS c g fs r
    | none => .bad
  | _ => .bad
theorem mkDS_of {Q : VK} (h : tE A W (mkDS tbl i fs) σ H Q) : ∃ c n0 n g C, tbl.lookup c = some (n0, g) ∧ A.w.CM c = some C ∧ σ[i]? = some (some (.ref C)) ∧ tE A W (mkC c n g fs) σ H Q := by
  obtain ⟨r, G, k, m⟩ := h
  unfold mkDS at m
  rcases q : r[i]? with _ | _ | ⟨_ | _, v⟩
  · simp only [q] at m
  · simp only [q] at m
  · cases v with
    | cls c =>
      simp only [q] at m
      cases ht : tbl.lookup c with
      | none => simp only [ht] at m
      | some ng =>
        obtain ⟨n, g⟩ := ng
        simp only [ht] at m
        obtain ⟨x, e1, r1⟩ := k.fz i _ q
        rw [Rep] at r1
        obtain ⟨C, hC, rfl⟩ := r1
        exact ⟨c, n, _, g, C, ht, hC, e1, r, G, k, m⟩
    | _ => simp only [q] at m
  · simp only [q] at m
theorem pe_mkDS1 (ca : Cal X A.w) (T : TblOk (fun c _ g => ∀ n, MkOk X A.w lvl c n g) tbl) (hr : RoomG (lvl + 1) X.A) (hN : X.N[i]? = some x) (hv : Vis X.env.scope x) (tk : Takes X W) (he : PE X e (tE A W f)) (hdb : (x == ("__debug__" : Str)) = false := by decide) (hcd : (x == ("__classdict__" : Str)) = false := by decide)
    (hst : starEach [.Starred e sp_] X.env = [(true, eval e X.env)] := by rfl) : PE X (.Call (.Name x p) [.Starred e sp_] [] pos) (tE A W (mkDS tbl i (osStarA f osNil))) := by
  refine ⟨fun pins s σ H Q I h => ?_⟩
  obtain ⟨c, n0, n, gg, C, hl, hC, hs, h⟩ := mkDS_of h
  obtain ⟨C', f', hC', hk, F⟩ := (T _ (lookup_in hl) n).ok
  rw [hC] at hC'
  cases hC'
  have h2 := star_of ca.K (mkC_of hC h)
  refine wpAny_Call_Name_kw (thn ((pe_var (pos := p) hN hv hdb hcd).run pins s σ H (fun v H1 => v = .ref C ∧ H1 = H) I ⟨.ref C, hs, rfl, rfl⟩) fun u s1 ⟨v, H1, I1, r1, q1⟩ => ?_)
  obtain ⟨rfl, rfl⟩ := q1
  cases r1
  refine PySem.W.callWith_S (h₀ := X.base) I.ok.mod.kin hk.kp (thn ((pe_frz he).run pins s1 σ _ _ I1 h2) fun v s1 ⟨y, H1, I1, ry, a, xs, ey, hxs, r, G, k, q⟩ => ?_) hst
  subst ey
  obtain rfl : v = Value.ref a := ry
  have q2 := q [] G H1 k Step.refl rfl
  simp only [List.append_nil] at q2
  exact StX.star_any I1 hxs fun us s2 I2 rv => ⟨I2.kIn, run_mkP hk F hr tk I2 rv q2⟩
theorem pe_mkDS2 (T : TblOk (fun c _ g => ∀ n, MkOk X A.w lvl c n g) tbl) (hr : RoomG (lvl + 1) X.A) (hN : X.N[i]? = some x) (hv : Vis X.env.scope x) (tk : Takes X W) (ha : PA X (e :: es) (tOs A W fs)) (hdb : (x == ("__debug__" : Str)) = false := by decide) (hcd : (x == ("__classdict__" : Str)) = false := by decide)
    (he : NoStar X e es := by rfl) (hst : (backTo pos (starEach es X.env)).any (·.1) = true := by rfl) : PE X (.Call (.Name x p) (e :: es) [] pos) (tE A W (mkDS tbl i fs)) := by
  refine ⟨fun pins s σ H Q I h => ?_⟩
  obtain ⟨c, n0, n, gg, C, hl, hC, hs, h⟩ := mkDS_of h
  obtain ⟨C', f', hC', hk, F⟩ := (T _ (lookup_in hl) n).ok
  rw [hC] at hC'
  cases hC'
  have h2 := mkC_of hC h
  refine wpAny_Call_Name_kw (thn ((pe_var (pos := p) hN hv hdb hcd).run pins s σ H (fun v H1 => v = .ref C ∧ H1 = H) I ⟨.ref C, hs, rfl, rfl⟩) fun u s1 ⟨v, H1, I1, r1, q1⟩ => ?_)
  obtain ⟨rfl, rfl⟩ := q1
  cases r1
  refine PySem.W.callWith_S2 (h₀ := X.base) I.ok.mod.kin hk.kp (wpAny_mono (ha.run pos pins s1 σ _ _ I1 h2) (fun us s2 ⟨vs, H2, I2, r, q⟩ => ⟨I2.kIn, ?_⟩) fun _ _ z => z) he hst
  exact run_mkP hk F hr tk I2 r q
end
theorem clo_of {X : Cx} {w : Wd} {lvl n : Nat} {c : Str} {gf : GF} {C f : Addr} (h : MthOk X w lvl "__call__" c n gf) (hC : w.CM c = some C) (me : Meth X.K C "__call__" f) (fi : PySem.W.fnIn X.K f = true) : ClOk X w lvl c n gf := by
  obtain ⟨C', f', hC', _, me', F⟩ := h.ok
  rw [hC] at hC'
  cases hC'
  have e := me.at_.symm.trans me'.at_
  cases e
  exact ⟨⟨C, f, hC, ⟨me.at_, me.fn, fi⟩, F⟩⟩
/-! ### read with continuations -/
section
variable {r : Env} {fs g : OsF} {f : EF} {gf : GF} {c : Str} {tbl : Tbl} {i : Nat}
def ksta2 (vs : List Val) (Q : OsR → Prop) : OsR → Prop
  | .ok hs r2 => Q (.ok (vs.map (Hd.tmp false) ++ hs) r2)
  | .ex e r2 => Q (.ex e r2)
  | .bad => Q .bad
def ksta1 (g : OsF) (r1 : Env) (Q : OsR → Prop) : Option (List Val) → Prop
  | some vs => wOs g r1 (ksta2 vs Q)
  | none => Q .bad
def ksta (g : OsF) (Q : OsR → Prop) : ER → Prop
  | .ok _ v r1 => ksta1 g r1 Q (seqOf v)
  | .ex e r1 => Q (.ex e r1)
  | .bad => Q .bad
theorem wOs_starA {Q : OsR → Prop} : wOs (osStarA f g) r Q = wE f r (ksta g Q) := by
  unfold wOs wE osStarA frz
  cases f r with
  | ok o v r1 =>
    simp only [ksta]
    cases seqOf v with
    | none => rfl
    | some vs =>
      simp only [ksta1, wOs]
      cases g r1 <;> rfl
  | _ => rfl
def kmkS (c : Str) (gf : GF) (Q : ER → Prop) : OsR → Prop
  | .ok hs r1 => kmk c (hs.length + 1) gf Q (.ok hs r1)
  | .ex e r1 => Q (.ex e r1)
  | .bad => Q .bad
theorem wE_mkCS {Q : ER → Prop} : wE (mkCS c gf fs) r Q = wOs fs r (kmkS c gf Q) := by
  have key : ∀ (n : Nat), wE (mkC c n gf fs) r Q = wOs fs r (kmk c n gf Q) := fun n => wE_mkC
  unfold wE mkCS
  have k2 := key (match fs r with | .ok hs _ => hs.length + 1 | _ => 0)
  unfold wE at k2
  rw [k2]
  unfold wOs
  cases fs r <;> rfl
def kmdS1 (c : Str) (fs : OsF) (r : Env) (Q : ER → Prop) : Option (Nat × GF) → Prop
  | some (_, g) => wE (mkCS c g fs) r Q
  | none => Q .bad
def kmdS (tbl : Tbl) (fs : OsF) (r : Env) (Q : ER → Prop) : Option Slot → Prop
  | some (some (false, .cls c)) => kmdS1 c fs r Q (tbl.lookup c)
  | _ => Q .bad
theorem wE_mkDS {Q : ER → Prop} : wE (mkDS tbl i fs) r Q = kmdS tbl fs r Q r[i]? := by
  unfold wE mkDS
  rcases r[i]? with _ | _ | ⟨_ | _, v⟩
  · rfl
  · rfl
  · cases v with
    | cls c =>
      simp only [kmdS]
      cases tbl.lookup c <;> rfl
    | _ => rfl
  · rfl
def ksta2_e1 := @ksta2.eq_1
def ksta1_e1 := @ksta1.eq_1
def ksta_e1 := @ksta.eq_1
def ksta_e2 := @ksta.eq_2
def seqOf_e1 := @seqOf.eq_1
def seqOf_e2 := @seqOf.eq_2
def kmkS_e1 := @kmkS.eq_1
def kmkS_e2 := @kmkS.eq_2
def kmdS1_e1 := @kmdS1.eq_1
def kmdS_e1 := @kmdS.eq_1
theorem lend_tmps (r1 : Env) : ∀ (vs : List Val), lend r1 (vs.map (Hd.tmp false)) = some (vs.map fun v => (false, v))
  | [] => rfl
  | v :: vs => by simp only [List.map_cons, lend, lend_tmps r1 vs]
end
end M
/-! MPIO: isinstance of an instance of a class of the module. -/
namespace M
open PySem PySem.Spec PyProof.Rows L2
structure OwnC (K : PySem.W.Frag) (D : Addr) : Prop where
  hg : PySem.W.plainGet K D "__class__" = true
  hd : PySem.W.hasDictIn K D = true
  ha : PySem.W.findIn K (.ref D) "__class__" = some (some (.builtin "object.__class__"))
  hn : PySem.W.specialIn K (.builtin "object.__class__") "__get__" = some (some (.builtin "getset_descriptor.__get__"))
  ht : PySem.W.takesIn K (.builtin "object.__class__") = some true
  hm : PySem.W.mroIn K D (.type "object") = some true
theorem ownB_ok {K : PySem.W.Frag} {D : Addr} (h : ownB K D = true) : OwnC K D := by
  obtain ⟨h1, h⟩ := He.ba h
  obtain ⟨h2, h⟩ := He.ba h
  obtain ⟨h3, h⟩ := He.ba h
  obtain ⟨h4, h⟩ := He.ba h
  obtain ⟨h5, h6⟩ := He.ba h
  exact ⟨h1, h2, He.eqO_ok h3, He.eqO_ok h4, of_decide_eq_true h5, of_decide_eq_true h6⟩
abbrev OTb := List ((Str × Str) × Bool)
def PisO (tb : OTb) : List Val → Option (Bool × Val)
  | [.obj c _, .cls D] => (tb.lookup (c, D)).map fun b => (false, .bl b)
  | _ => none
def OTbOk (w : Wd) (tb : OTb) : Prop := ∀ c D b, tb.lookup (c, D) = some b → ∃ C E, w.CM c = some C ∧ OwnC w.K C ∧ w.CM D = some E ∧ PySem.W.kitOne w.K (.ref C) (.ref E) = some b
theorem otb_nil {w : Wd} : OTbOk w [] := fun _ _ _ h => by cases h
theorem otb_cons {w : Wd} {tb : OTb} {c D : Str} {b : Bool} {C E : Addr} (h1 : w.CM c = some C) (h2 : OwnC w.K C) (h3 : w.CM D = some E) (h4 : PySem.W.kitOne w.K (.ref C) (.ref E) = some b) (r : OTbOk w tb) : OTbOk w (((c, D), b) :: tb) := fun c' D' b' h => by
  rw [List.lookup_cons] at h
  split at h
  · rename_i e
    have e := beq_iff_eq.mp e
    cases e; cases h
    exact ⟨C, E, h1, h2, h3, h4⟩
  · exact r c' D' b' h
theorem bi_isO {X : Cx} {w : Wd} {tb : OTb} (hK : w.K = X.K) (T : OTbOk w tb) : CallR X (.builtin "isinstance") (rOf w (PisO tb)) := by
  intro pins s σ H xs us Q I r ⟨G, vs, o, z, le, rr, hp, q⟩
  unfold PisO at hp
  split at hp
  · rename_i c fs D
    rw [Option.map_eq_some_iff] at hp
    obtain ⟨b, hb, e⟩ := hp
    cases e
    obtain ⟨x, y, e, r1, r2⟩ := rreps_two rr
    subst e
    obtain ⟨u1, u2, rfl, g1, g2⟩ := vals2 r
    obtain ⟨a, C, d, gs, rfl, ha, hC, _⟩ := rrep_obj le r1
    obtain ⟨C', E, k1, k2, k3, k4⟩ := T c D b hb
    rw [hC] at k1; cases k1
    rw [hK] at k2 k4
    obtain rfl : u1 = Value.ref a := g1
    rcases r2 with r2 | ⟨_, _, r2⟩
    · rw [Rep] at r2
      obtain ⟨E', h5, rfl⟩ := r2
      rw [k3] at h5; cases h5
      obtain rfl : u2 = Value.ref E := g2
      obtain ⟨_, O, _⟩ := ins_get I.hok ha
      obtain ⟨od, J, _⟩ := O.look
      exact PySem.W.kia_one (PySem.W.kitx_own k2.hg k2.hd k2.ha k2.hn k2.ht k2.hm) I.kIn J k4 (fun z => nomatch z) fun tk => ⟨.bl b, H, I.tok tk, rfl, bl_new le q⟩
    · exact r2.elim
  · cases hp
end M
/-! MPTR: t[::-1], t a tuple. -/
namespace M
open PySem PySem.Spec PyProof.Rows L2 HT
section
variable {prog : Program} {w : World} {A : Around} {E : Value → Shared → Prop} {s : Shared}
theorem ends_back (n : Nat) : Builtin.Slice.sliceAdjust none none (-1) (n : Int) = ((n : Int) - 1, -1) := rfl
theorem many_back (n : Nat) : Builtin.Slice.slicePlaces ((n : Int) - 1) (-1) (-1) = n := by
  unfold Builtin.Slice.slicePlaces
  rw [if_neg (by decide : ¬ ((-1 : Int) > 0)), Int.neg_neg, Int.ediv_one]
  split <;> omega
/-- the slice ::-1 over n places -/
theorem slice_back {sl : Addr} {a b c : Value} {n : Nat} {Q : Int × Int × Nat → Shared → Prop} (S : s.heap.IsSliceOf sl a b c) (pa : IsPart a none) (pb : IsPart b none) (pc : IsPart c (some (-1))) (q : Q ((n : Int) - 1, -1, n) s) :
    wpAny (model prog w) A (Builtin.Slice.sliceApplied (.ref sl) (pure (n : Int))) Q E s := by
  obtain ⟨_, at_, _, da⟩ := S
  unfold Builtin.Slice.sliceApplied Builtin.Slice.sliceFields
  refine wpAny_bind (wpAny_bind (wpAny_field at_ da (x := a) rfl ?_))
  refine wpAny_bind (wpAny_field at_ da (x := b) rfl ?_)
  refine wpAny_bind (wpAny_field at_ da (x := c) rfl (wpAny_pure ?_))
  refine wpAny_bind (slicePart_ pc ?_)
  simp only [Option.getD_some, Int.reduceNeg, Int.reduceBEq, Bool.false_eq_true, if_false]
  refine wpAny_bind (slicePart_ pa ?_)
  refine wpAny_bind (slicePart_ pb ?_)
  refine wpAny_bind (wpAny_pure ?_)
  simp only [ends_back, many_back]
  exact wpAny_pure q
theorem fm_same {α β : Type} {f g : α → Option β} {l : List α} (h : ∀ k ∈ l, f k = g k) : l.filterMap f = l.filterMap g := by
  induction l with
  | nil => rfl
  | cons a l ih => simp only [List.filterMap_cons, h a (List.mem_cons_self ..), ih fun k hk => h k (List.mem_cons_of_mem _ hk)]
theorem picked_back (xs : Array Value) : ((List.range xs.size).filterMap fun (k : Nat) => xs[((xs.size : Int) - 1 + (k : Int) * -1).toNat]?).toArray = xs.toList.reverse.toArray := by
  rw [← PySem.W.krv_pick xs]
  unfold slicePick
  rw [PySem.W.krv_bounds]
  simp only [PySem.W.krv_sliceRange, List.filterMap_map]
  refine congrArg List.toArray (fm_same fun k hk => ?_)
  have lt := List.mem_range.mp hk
  show xs[((xs.size : Int) - 1 + (k : Int) * -1).toNat]? = xs[xs.size - 1 - k]?
  rw [show ((xs.size : Int) - 1 + (k : Int) * -1).toNat = xs.size - 1 - k by omega]
theorem tuple_back (t sl : Addr) (xs : Array Value) (a b c : Value) (pa : IsPart a none) (pb : IsPart b none) (pc : IsPart c (some (-1))) (few : xs.size ≤ sizeLine) :
    Meets (Builtin.«tuple.__getitem__» ⟨[.ref t, .ref sl], []⟩) (fun _ R s => (IsTup s.heap t xs ∧ s.heap.IsSliceOf sl a b c) ∧
      R (.ok (.ret (.ref s.heap.objs.size))) { s with heap := s.heap.push { cls := .type "tuple", data := .seq xs.toList.reverse.toArray } }) :=
  .of_wp fun prog w A R s h => by
    obtain ⟨⟨T, S⟩, q⟩ := h
    have ty : s.TypeIs (.ref sl) "slice" := by
      obtain ⟨o, at_, cl, _⟩ := S
      exact ⟨o, at_, cl⟩
    have room : sizeOk (.seq xs.toList.reverse.toArray) := by
      show xs.toList.reverse.toArray.size ≤ sizeLine
      simpa using few
    have no : ((xs.size : Int) - 1 == 0 && (-1 : Int) == 1 && xs.size == xs.size) = false := by simp
    wp_walk using (tupleItemsOf_ T), (wpAny_typeOf ty), (slice_back S pa pb pc)
    rw [picked_back, if_neg (Nat.not_lt.mpr room)]
    wp_walk
    exact ⟨_, rfl, q⟩
end
/-- t[::-1] told by HandS -/
def tBack (K : PySem.W.Frag) (te : TE) : TE := fun σ H Q => te σ H fun x H1 => ∃ a xs, x = .ref a ∧ SqT K H1 a xs ∧ ∀ p, H1 p = none → Q (.ref p) (upd H1 p (.tup xs.reverse))
section
variable {X : Cx} {k : Nat} {p1 p2 p3 pos : Pos}
/-- the step -1 -/
theorem minus_one {pins : List (Addr × Obj)} {σ : L2.St} {H : Hp} {s : Shared} (I : Inv X pins σ H s) :
    wpAny (model X.prog X.w) X.A (evalPart (some (.UnaryOp .USub (.Constant (.int 1) k p1) p2)) X.env) (fun v t => IsPart v (some (-1)) ∧ Inv X pins σ H t) X.xe s := by
  refine wpAny_mono ((po_some (pe_un un_neg pe_int)).run pins s σ H (fun o H2 => o = some (-1) ∧ H2 = H) I ⟨1, rfl, -1, rfl, rfl, rfl⟩) (fun v t h => ?_) fun _ _ z => z
  obtain ⟨_, _, J, part, rfl, rfl⟩ := h
  exact ⟨part, J⟩
theorem pe_back {e : Expr} {te : TE} (he : PE X e te) : PE X (.Subscript e (.Slice none none (some (.UnaryOp .USub (.Constant (.int 1) k p1) p2)) p3) pos) (tBack X.K te) := by
  refine ⟨fun pins s σ H Q I h => Subscript_ (wpAny_mono (he.run pins s σ H _ I h) (fun v s1 q => ?_) fun _ _ z => z)⟩
  obtain ⟨x, H1, I1, rx, a, xs, rfl, hx, q⟩ := q
  obtain rfl : v = Value.ref a := rx
  refine wpAny_Slice ?_
  rw [evalPart_none]
  refine wpAny_pure (wpAny_pure (wpAny_mono (minus_one I1) (fun c s2 h2 => ?_) fun _ _ z => z))
  obtain ⟨pc, I2⟩ := h2
  obtain ⟨t, ht⟩ : ∃ t : Shared, t = { s2 with heap := s2.heap.push { cls := .type "slice", data := .fields #[Value.none, Value.none, c] } } := ⟨_, rfl⟩
  have I3 : Inv X pins σ H1 t := ht ▸ I2.kept (t' := s2.toks) fun _ _ e => Heap.get?_push_of_some _ e
  have S : t.heap.IsSliceOf s2.heap.objs.size Value.none Value.none c := ht ▸ Heap.IsSliceOf.new _ _ _ _
  obtain ⟨its, rel, tup, room⟩ := I3.tuple hx
  have few : its.toArray.size ≤ sizeLine := by
    rw [List.size_toArray, ← rel.length]; exact room
  have item : wpAny (model X.prog X.w) X.A (getItem (.ref a) (.ref s2.heap.objs.size)) (EP X pins σ Q) X.xe t := by
    refine getItem_meets tup.typeIs (by decide) PyProof.Rows.slot_tuple_getitem PyProof.Rows.entry_tuple_getitem (PyProof.Rows.args_tuple_getitem _ _) (tuple_back _ _ _ _ _ _ .none .none pc few) ⟨⟨tup, S⟩, ?_⟩
    refine ⟨.ref _, upd H1 _ (.tup xs.reverse), I3.laid (t' := t.toks) (fun _ _ e => Heap.get?_push_of_some _ e) (Nat.le_refl _) ⟨?_, its.reverse, rel.reverse, ⟨_, Heap.get?_push_size _ rfl, rfl, _, rfl⟩⟩, rfl, q _ (I3.hok.fresh (Nat.le_refl _))⟩
    rw [List.length_reverse]; exact room
  rw [← ht]
  exact tail_any (ops := [.ref a, .ref s2.heap.objs.size]) tup.typeIs PyProof.Rows.slot_tuple_getitem.lookup item (by with_unfolding_all rfl)
end
def PrevX : List Val → Option (Bool × Val)
  | [.tup ds] => some (false, .tup ds.reverse)
  | _ => none
section
variable {X : Cx} {A : Act} {W : WX} {x : Expr} {fo : OF} {k0 : Nat} {p1 p2 p3 pos : Pos}
theorem pe_revX (c : Cal X A.w) (h : PE X x (tO A W fo)) :
    PE X (.Subscript x (.Slice none none (some (.UnaryOp .USub (.Constant (.int 1) k0 p1) p2)) p3) pos) (tE A W (prim PrevX (osCons fo osNil))) :=
  PE.imp (pe_back h) fun σ H Q q => by
    obtain ⟨r, G, k, m⟩ := prim_os1 q
    refine ⟨r, G, k, ?_⟩
    cases hf : fo r with
    | bad => simp only [hf] at m
    | ex e r' => simp only [hf] at m ⊢; exact m
    | ok h r1 =>
      simp only [hf] at m ⊢
      intro x G1 H1 k1 st1 t1
      obtain ⟨G2, vs, o, z, le, rr, hp, q2⟩ := m x G1 H1 k1 st1 t1
      unfold PrevX at hp
      split at hp
      · obtain ⟨y, e, r1⟩ := rreps_one rr
        cases e; cases hp
        obtain ⟨a, xs, rfl, at_, rs⟩ := rrep_tup le r1
        rw [c.K] at at_
        exact ⟨a, xs, rfl, at_, fun p hp =>
          have gr := Grow.laidG (o := .tup xs.reverse) le hp
          q2 _ _ _ gr (nrep_f (rep_tup.mpr ⟨p, _, rfl, SqT.of upd_same, (reps_reverse rs).mono gr.g⟩))⟩
      · cases hp
end
def PrevX_e1 := @PrevX.eq_1
end M
local macro_rules
  | `(tactic| simp? only [$xs,*] $[$loc]?) => `(tactic| simp only [M.tyOf_e1, M.tyOf_e2, M.tyOf_e3, M.tyOf_e4, M.tyOf_e5, M.tyOf_e6, M.tyOf_e7, M.tyOf_e8, M.itemsOf_e1, M.itemsOf_e2, M.itemsOf_e3, M.itemsOf_e4, M.itemsOf_e5, M.Plen_e1, M.Plen_e2, M.Plen_e3, M.Plen_e4, M.Plist_e1, M.Plist_e2, M.Plist_e3, M.Ptuple_e1, M.Ptuple_e2, M.Pgt, M.Pge, M.Plt, M.Ple, M.cmpI_e1, M.Pint_e1, M.Pint_e2, M.Pneg_e1, M.Prev_e1, M.PrevX_e1, M.wE_cst, M.wE_var, M.wE_mv, M.wE_frz, M.wO_V, M.wO_S, M.wOs_nil, M.wOs_cons, M.wE_prim, M.wB_tst, M.wB_and, M.wB_or, M.wB_not, M.wB_yes, M.wE_andV, M.wE_orV, M.wE_notV, M.wE_ite, M.wA_nil, M.wA_cons, M.wA_star, M.wE_tup, M.wE_lst, M.wE_call, M.wS_seq, M.wS_skip, M.wS_brk, M.wS_cont, M.wS_asg, M.wS_drop, M.wS_ret, M.wS_if, M.wS_aug, M.wI_V, M.wI_R, M.wI_zip, M.wS_for, M.wE_lc, M.wP_no, M.wP_int, M.wE_slc, M.wE_chn, M.wO_Ty, M.wE_mut, M.wS_setIx, M.wE_dNew, M.wD_nil, M.wD_cons, M.wE_dsp, M.wE_lenSet, M.wS_asg2, M.wS_asgT, M.wOs_app, M.wOs_N, M.wOs_pick, M.kvar_e1, M.kvar_e2, M.kvar_e3, M.kmv_e1, M.kmv_e2, M.kfrz_e1, M.kfrz_e2, M.kfrz_e3, M.koV_e1, M.koV_e2, M.koV_e3, M.koS_e1, M.koS_e2, M.kcons2_e1, M.kcons2_e2, M.kcons2_e3, M.kcons_e1, M.kcons_e2, M.kcons_e3, M.kp2_e1, M.kp2_e2, M.kp1_e1, M.kp1_e2, M.kprim_e1, M.kprim_e2, M.kprim_e3, M.ktst_e1, M.ktst_e2, M.ktst_e3, M.ktst_e4, M.kand_e1, M.kand_e2, M.kor_e1, M.kor_e2, M.knot_e1, M.knot_e2, M.kandV_e1, M.kandV_e2, M.kandV_e3, M.kandV_e4, M.korV_e1, M.korV_e2, M.korV_e3, M.korV_e4, M.knotV_e1, M.knotV_e2, M.knotV_e3, M.kite_e1, M.kite_e2, M.kite_e3, M.kite_e4, M.kac2_e1, M.kac2_e2, M.kac2_e3, M.kac_e1, M.kac_e2, M.kac_e3, M.kstar2_e1, M.kstar2_e2, M.kstar2_e3, M.kstar1_e1, M.kstar1_e2, M.kstar_e1, M.kstar_e2, M.kstar_e3, M.ktup_e1, M.ktup_e2, M.ktup_e3, M.klst_e1, M.klst_e2, M.klst_e3, M.kback_e1, M.kback_e2, M.kback_e3, M.kc1_e1, M.kc1_e2, M.kcall_e1, M.kcall_e2, M.kcall_e3, M.kd1_e1, M.kd1_e2, M.kd2_e1, M.kd2_e2, M.kd3_e1, M.kd3_e2, M.kdef_e1, M.kdef_e2, M.kdef_e3, M.kdef_e4, M.kseq_e1, M.kseq_e2, M.kasg_e1, M.kasg_e2, M.kasg_e3, M.kdrop_e1, M.kdrop_e2, M.kdrop_e3, M.kret_e1, M.kret_e2, M.kret_e3, M.kif_e1, M.kif_e2, M.kif_e3, M.kif_e4, M.kaug2_e1, M.kaug2_e2, M.kaug2_e3, M.kaug2_e4, M.kaug_e1, M.kaug_e2, M.kitV1_e1, M.kitV1_e2, M.kitV_e1, M.kitV_e2, M.kitV_e3, M.kitR_e1, M.kitR_e2, M.kitR_e3, M.kfor_e1, M.kfor_e2, M.kfor_e3, M.kT_e1, M.kT_e2, M.kTurn_e1, M.kTurn_e2, M.kTurn_e3, M.kTurn_e4, M.kTurnW_e1, M.kTurnW_e2, M.kTurnW_e3, M.kTurnW_e4, M.klc2_e1, M.klc2_e2, M.klc_e1, M.klc_e2, M.klc_e3, M.kU2_e1, M.kU2_e2, M.kU1_e1, M.kU1_e2, M.kU1_e3, M.kU0_e1, M.kU0_e2, M.kpInt_e1, M.kpInt_e2, M.kpInt_e3, M.kpInt_e4, M.ksl4_e1, M.ksl4_e2, M.ksl3_e1, M.ksl3_e2, M.ksl3_e3, M.ksl2_e1, M.ksl2_e2, M.ksl2_e3, M.ksl1_e1, M.ksl1_e2, M.ksl1_e3, M.kch5_e1, M.kch5_e2, M.kch4_e1, M.kch4_e2, M.kch3b_e1, M.kch3b_e2, M.kch3b_e3, M.kch3_e1, M.kch3_e2, M.kch3_e3, M.kch2_e1, M.kch2_e2, M.kch1_e1, M.kch1_e2, M.kch1_e3, M.kch0_e1, M.kch0_e2, M.kch0_e3, M.koTy2_e1, M.koTy2_e2, M.koTy_e1, M.koTy_e2, M.koTy_e3, M.kmu3_e1, M.kmu3_e2, M.kmu2_e1, M.kmu2_e2, M.kmu1_e1, M.kmu1_e2, M.kmu1_e3, M.kmu_e1, M.kmu_e2, M.ksx4_e1, M.ksx4_e2, M.ksx3_e1, M.ksx3_e2, M.ksx2_e1, M.ksx2_e2, M.ksx2_e3, M.ksx1_e1, M.ksx1_e2, M.ksx_e1, M.ksx_e2, M.ksx_e3, M.kdp3_e1, M.kdp3_e2, M.kdp2_e1, M.kdp2_e2, M.kdp2_e3, M.kdp1_e1, M.kdp1_e2, M.kdp1_e3, M.kds2_e1, M.kds2_e2, M.kds_e1, M.kds_e2, M.kds_e3, M.kls2_e1, M.kls2_e2, M.kls_e1, M.kls_e2, M.kls_e3, M.kls_e4, M.kas2_e1, M.kas2_e2, M.kas2_e3, M.kas2_e4, M.kasT2_e1, M.kasT2_e2, M.kasT_e1, M.kasT_e2, M.kasT_e3, M.kapp2_e1, M.kapp2_e2, M.kapp2_e3, M.kapp_e1, M.kapp_e2, M.kapp_e3, M.kN_e1, M.kN_e2, M.kN_e3, M.kpick2_e1, M.kpick2_e2, M.kpick_e1, M.kpick_e2, M.kpick_e3, M.getAll, M.Hd.get, M.ownIx, M.outOf, M.lend, M.lentIx, M.back, M.lents, M.tgN, M.tgT, M.tgCons, M.tgNil, M.wipeR, M.restR, List.getElem?_cons_zero, List.getElem?_cons_succ, List.set_cons_zero, List.set_cons_succ, List.map_cons, List.map_nil, List.replicate_succ, List.replicate_zero, List.length_cons, List.length_nil, List.nil_append, List.cons_append, List.append_nil, List.filter_cons, List.filter_nil, Nat.reduceAdd, Nat.reduceSub, Nat.reduceLeDiff, Nat.reduceEqDiff, ↓reduceIte, if_true, if_false, Bool.false_eq_true, Option.map_some, Option.map_none, Option.getD_some, Option.getD_none, and_true, true_and, and_self, reduceCtorEq, Option.some.injEq, Bool.not_true, Bool.not_false, Nat.le_refl, M.wO_Cl, M.wE_callM, M.wE_noX, M.wE_mkC, M.wE_mkD, M.wS_setFld, M.wS_never, M.wI_I, M.wI_E, M.wA_StD, M.wE_fstr, M.wF_nil, M.wF_cons, M.wE_dst, M.wE_dc, M.wI_Vs, M.wE_dc2, M.koCl1_e1, M.koCl1_e2, M.koCl_e1, M.koCl_e2, M.koCl_e3, M.kcm2_e1, M.kcm2_e2, M.kcm1_e1, M.kcm1_e2, M.kcm_e1, M.kcm_e2, M.kcm_e3, M.knoX_e1, M.knoX_e2, M.knoX_e3, M.kmk3_e1, M.kmk3_e2, M.kmk2_e1, M.kmk2_e2, M.kmk2_e3, M.kmk1_e1, M.kmk1_e2, M.kmk_e1, M.kmk_e2, M.kmk_e3, M.kmd1_e1, M.kmd1_e2, M.kmd_e1, M.kmd_e2, M.ksf1_e1, M.ksf1_e2, M.ksf_e1, M.ksf_e2, M.ksf_e3, M.kitI_e1, M.kitI_e2, M.kitI_e3, M.kitI_e4, M.kitE_e1, M.kitE_e2, M.kitE_e3, M.kitE_e4, M.kitE_e5, M.kasD2_e1, M.kasD2_e2, M.kasD2_e3, M.kasD_e1, M.kasD_e2, M.kasD_e3, M.kasD_e4, M.kF_e1, M.kF_e2, M.kF_e3, M.kF_e4, M.kdst4_e1, M.kdst4_e2, M.kdst3_e1, M.kdst3_e2, M.kdst3_e3, M.kdst2_e1, M.kdst2_e2, M.kdst2_e3, M.kdst1_e1, M.kdst1_e2, M.kdst1_e3, M.kdst1_e4, M.kdc2_e1, M.kdc2_e2, M.kdc_e1, M.kdc_e2, M.kdc_e3, M.kitVs_e1, M.kitVs_e2, M.kitVs_e3, M.kitVs_e4, M.kdcc_e1, M.kdcc_e2, M.kdcc_e3, M.lk1, M.pairsOf, M.wS_rai, M.krai_e1, M.krai_e2, M.krai_e3, M.krai2_e1, M.krai2_e2, M.wS_try, M.ktry_ex, M.ktry_nx, M.ktry_rt, M.wH_nil, M.wH_cons, M.khn_t, M.khn_f, M.kend_nx0, M.kend_nx, M.kend_rt, M.wE_callB, M.kcallB_e1, M.kcallB_e2, M.kcallB_e3, M.kcb_t, M.kcb_f, M.kcb1_e1, M.kcb1_e2, M.kbb_e1, M.wS_rai0, M.wE_dun, M.kdu_ok, M.kdu_e2, M.kdu2_e1, M.kdu3_e1, M.kdu4_e1, M.wE_blX, M.kbl_f, M.kbl_t, M.wE_lnX, M.kln_e1, M.wO_Ob, M.koO_e1, M.koO_e2, M.koOb_e1, M.hd_f, M.hd_t, Option.bind_some, M.wOs_starA, M.ksta_e1, M.ksta_e2, M.ksta1_e1, M.ksta2_e1, M.seqOf_e1, M.seqOf_e2, M.wE_mkCS, M.kmkS_e1, M.kmkS_e2, M.wE_mkDS, M.kmdS_e1, M.kmdS1_e1, $xs,*] $[$loc]?)
  | `(tactic| simp? [$xs,*] $[$loc]?) => `(tactic| simp only [M.tyOf_e1, M.tyOf_e2, M.tyOf_e3, M.tyOf_e4, M.tyOf_e5, M.tyOf_e6, M.tyOf_e7, M.tyOf_e8, M.itemsOf_e1, M.itemsOf_e2, M.itemsOf_e3, M.itemsOf_e4, M.itemsOf_e5, M.Plen_e1, M.Plen_e2, M.Plen_e3, M.Plen_e4, M.Plist_e1, M.Plist_e2, M.Plist_e3, M.Ptuple_e1, M.Ptuple_e2, M.Pgt, M.Pge, M.Plt, M.Ple, M.cmpI_e1, M.Pint_e1, M.Pint_e2, M.Pneg_e1, M.Prev_e1, M.PrevX_e1, M.wE_cst, M.wE_var, M.wE_mv, M.wE_frz, M.wO_V, M.wO_S, M.wOs_nil, M.wOs_cons, M.wE_prim, M.wB_tst, M.wB_and, M.wB_or, M.wB_not, M.wB_yes, M.wE_andV, M.wE_orV, M.wE_notV, M.wE_ite, M.wA_nil, M.wA_cons, M.wA_star, M.wE_tup, M.wE_lst, M.wE_call, M.wS_seq, M.wS_skip, M.wS_brk, M.wS_cont, M.wS_asg, M.wS_drop, M.wS_ret, M.wS_if, M.wS_aug, M.wI_V, M.wI_R, M.wI_zip, M.wS_for, M.wE_lc, M.wP_no, M.wP_int, M.wE_slc, M.wE_chn, M.wO_Ty, M.wE_mut, M.wS_setIx, M.wE_dNew, M.wD_nil, M.wD_cons, M.wE_dsp, M.wE_lenSet, M.wS_asg2, M.wS_asgT, M.wOs_app, M.wOs_N, M.wOs_pick, M.kvar_e1, M.kvar_e2, M.kvar_e3, M.kmv_e1, M.kmv_e2, M.kfrz_e1, M.kfrz_e2, M.kfrz_e3, M.koV_e1, M.koV_e2, M.koV_e3, M.koS_e1, M.koS_e2, M.kcons2_e1, M.kcons2_e2, M.kcons2_e3, M.kcons_e1, M.kcons_e2, M.kcons_e3, M.kp2_e1, M.kp2_e2, M.kp1_e1, M.kp1_e2, M.kprim_e1, M.kprim_e2, M.kprim_e3, M.ktst_e1, M.ktst_e2, M.ktst_e3, M.ktst_e4, M.kand_e1, M.kand_e2, M.kor_e1, M.kor_e2, M.knot_e1, M.knot_e2, M.kandV_e1, M.kandV_e2, M.kandV_e3, M.kandV_e4, M.korV_e1, M.korV_e2, M.korV_e3, M.korV_e4, M.knotV_e1, M.knotV_e2, M.knotV_e3, M.kite_e1, M.kite_e2, M.kite_e3, M.kite_e4, M.kac2_e1, M.kac2_e2, M.kac2_e3, M.kac_e1, M.kac_e2, M.kac_e3, M.kstar2_e1, M.kstar2_e2, M.kstar2_e3, M.kstar1_e1, M.kstar1_e2, M.kstar_e1, M.kstar_e2, M.kstar_e3, M.ktup_e1, M.ktup_e2, M.ktup_e3, M.klst_e1, M.klst_e2, M.klst_e3, M.kback_e1, M.kback_e2, M.kback_e3, M.kc1_e1, M.kc1_e2, M.kcall_e1, M.kcall_e2, M.kcall_e3, M.kd1_e1, M.kd1_e2, M.kd2_e1, M.kd2_e2, M.kd3_e1, M.kd3_e2, M.kdef_e1, M.kdef_e2, M.kdef_e3, M.kdef_e4, M.kasg_e1, M.kasg_e2, M.kasg_e3, M.kdrop_e1, M.kdrop_e2, M.kdrop_e3, M.kret_e1, M.kret_e2, M.kret_e3, M.kif_e1, M.kif_e2, M.kif_e3, M.kif_e4, M.kaug2_e1, M.kaug2_e2, M.kaug2_e3, M.kaug2_e4, M.kaug_e1, M.kaug_e2, M.kitV1_e1, M.kitV1_e2, M.kitV_e1, M.kitV_e2, M.kitV_e3, M.kitR_e1, M.kitR_e2, M.kitR_e3, M.kfor_e1, M.kfor_e2, M.kfor_e3, M.kT_e1, M.kT_e2, M.kTurn_e1, M.kTurn_e2, M.kTurn_e3, M.kTurn_e4, M.kTurnW_e1, M.kTurnW_e2, M.kTurnW_e3, M.kTurnW_e4, M.klc2_e1, M.klc2_e2, M.klc_e1, M.klc_e2, M.klc_e3, M.kU2_e1, M.kU2_e2, M.kU1_e1, M.kU1_e2, M.kU1_e3, M.kU0_e1, M.kU0_e2, M.kpInt_e1, M.kpInt_e2, M.kpInt_e3, M.kpInt_e4, M.ksl4_e1, M.ksl4_e2, M.ksl3_e1, M.ksl3_e2, M.ksl3_e3, M.ksl2_e1, M.ksl2_e2, M.ksl2_e3, M.ksl1_e1, M.ksl1_e2, M.ksl1_e3, M.kch5_e1, M.kch5_e2, M.kch4_e1, M.kch4_e2, M.kch3b_e1, M.kch3b_e2, M.kch3b_e3, M.kch3_e1, M.kch3_e2, M.kch3_e3, M.kch2_e1, M.kch2_e2, M.kch1_e1, M.kch1_e2, M.kch1_e3, M.kch0_e1, M.kch0_e2, M.kch0_e3, M.koTy2_e1, M.koTy2_e2, M.koTy_e1, M.koTy_e2, M.koTy_e3, M.kmu3_e1, M.kmu3_e2, M.kmu2_e1, M.kmu2_e2, M.kmu1_e1, M.kmu1_e2, M.kmu1_e3, M.kmu_e1, M.kmu_e2, M.ksx4_e1, M.ksx4_e2, M.ksx3_e1, M.ksx3_e2, M.ksx2_e1, M.ksx2_e2, M.ksx2_e3, M.ksx1_e1, M.ksx1_e2, M.ksx_e1, M.ksx_e2, M.ksx_e3, M.kdp3_e1, M.kdp3_e2, M.kdp2_e1, M.kdp2_e2, M.kdp2_e3, M.kdp1_e1, M.kdp1_e2, M.kdp1_e3, M.kds2_e1, M.kds2_e2, M.kds_e1, M.kds_e2, M.kds_e3, M.kls2_e1, M.kls2_e2, M.kls_e1, M.kls_e2, M.kls_e3, M.kls_e4, M.kas2_e1, M.kas2_e2, M.kas2_e3, M.kas2_e4, M.kasT2_e1, M.kasT2_e2, M.kasT_e1, M.kasT_e2, M.kasT_e3, M.kapp2_e1, M.kapp2_e2, M.kapp2_e3, M.kapp_e1, M.kapp_e2, M.kapp_e3, M.kN_e1, M.kN_e2, M.kN_e3, M.kpick2_e1, M.kpick2_e2, M.kpick_e1, M.kpick_e2, M.kpick_e3, M.getAll, M.Hd.get, M.ownIx, M.outOf, M.lend, M.lentIx, M.back, M.lents, M.tgN, M.tgT, M.tgCons, M.tgNil, M.wipeR, M.restR, List.getElem?_cons_zero, List.getElem?_cons_succ, List.set_cons_zero, List.set_cons_succ, List.map_cons, List.map_nil, List.replicate_succ, List.replicate_zero, List.length_cons, List.length_nil, List.nil_append, List.cons_append, List.append_nil, List.filter_cons, List.filter_nil, Nat.reduceAdd, Nat.reduceSub, Nat.reduceLeDiff, Nat.reduceEqDiff, ↓reduceIte, if_true, if_false, Bool.false_eq_true, Option.map_some, Option.map_none, Option.getD_some, Option.getD_none, and_true, true_and, and_self, reduceCtorEq, Option.some.injEq, Bool.not_true, Bool.not_false, Nat.le_refl, M.wO_Cl, M.wE_callM, M.wE_noX, M.wE_mkC, M.wE_mkD, M.wS_setFld, M.wS_never, M.wI_I, M.wI_E, M.wA_StD, M.wE_fstr, M.wF_nil, M.wF_cons, M.wE_dst, M.wE_dc, M.wI_Vs, M.wE_dc2, M.koCl1_e1, M.koCl1_e2, M.koCl_e1, M.koCl_e2, M.koCl_e3, M.kcm2_e1, M.kcm2_e2, M.kcm1_e1, M.kcm1_e2, M.kcm_e1, M.kcm_e2, M.kcm_e3, M.knoX_e1, M.knoX_e2, M.knoX_e3, M.kmk3_e1, M.kmk3_e2, M.kmk2_e1, M.kmk2_e2, M.kmk2_e3, M.kmk1_e1, M.kmk1_e2, M.kmk_e1, M.kmk_e2, M.kmk_e3, M.kmd1_e1, M.kmd1_e2, M.kmd_e1, M.kmd_e2, M.ksf1_e1, M.ksf1_e2, M.ksf_e1, M.ksf_e2, M.ksf_e3, M.kitI_e1, M.kitI_e2, M.kitI_e3, M.kitI_e4, M.kitE_e1, M.kitE_e2, M.kitE_e3, M.kitE_e4, M.kitE_e5, M.kasD2_e1, M.kasD2_e2, M.kasD2_e3, M.kasD_e1, M.kasD_e2, M.kasD_e3, M.kasD_e4, M.kF_e1, M.kF_e2, M.kF_e3, M.kF_e4, M.kdst4_e1, M.kdst4_e2, M.kdst3_e1, M.kdst3_e2, M.kdst3_e3, M.kdst2_e1, M.kdst2_e2, M.kdst2_e3, M.kdst1_e1, M.kdst1_e2, M.kdst1_e3, M.kdst1_e4, M.kdc2_e1, M.kdc2_e2, M.kdc_e1, M.kdc_e2, M.kdc_e3, M.kitVs_e1, M.kitVs_e2, M.kitVs_e3, M.kitVs_e4, M.kdcc_e1, M.kdcc_e2, M.kdcc_e3, M.lk1, M.pairsOf, M.wS_rai, M.krai_e1, M.krai_e2, M.krai_e3, M.krai2_e1, M.krai2_e2, M.wS_try, M.ktry_ex, M.ktry_nx, M.ktry_rt, M.wH_nil, M.wH_cons, M.khn_t, M.khn_f, M.kend_nx0, M.kend_nx, M.kend_rt, M.wE_callB, M.kcallB_e1, M.kcallB_e2, M.kcallB_e3, M.kcb_t, M.kcb_f, M.kcb1_e1, M.kcb1_e2, M.kbb_e1, M.wS_rai0, M.wE_dun, M.kdu_ok, M.kdu_e2, M.kdu2_e1, M.kdu3_e1, M.kdu4_e1, M.wE_blX, M.kbl_f, M.kbl_t, M.wE_lnX, M.kln_e1, M.wO_Ob, M.koO_e1, M.koO_e2, M.koOb_e1, M.hd_f, M.hd_t, Option.bind_some, M.wOs_starA, M.ksta_e1, M.ksta_e2, M.ksta1_e1, M.ksta2_e1, M.seqOf_e1, M.seqOf_e2, M.wE_mkCS, M.kmkS_e1, M.kmkS_e2, M.wE_mkDS, M.kmdS_e1, M.kmdS1_e1, $xs,*] $[$loc]?)
namespace BB
open PySem L2 M 
def b__law_pen : SF := (ret (dsp [((cst (.str "cells")), (slc (oS 0) pNo (pInt (cst (.int 63))))), ((cst (.str "at")), (cst (.int 0))), ((cst (.str "rest")), (cst (.int 0)))]))
def g__law_pen : GF := runDef [0] 1 1 b__law_pen
def b__law_draw : SF := (seq (ifS (tst (bin Pgt (oV (bin Pix (oS 0) (oV (cst (.str "rest"))))) (oV (cst (.int 0))))) (seq (asg 5 (bin Pmod (oV (bin Pix (oS 0) (oV (cst (.str "rest"))))) (oS 1)))
    (seq (setIx 0 (cst (.str "rest")) (bin Pdiv (oV (bin Pix (oS 0) (oV (cst (.str "rest"))))) (oS 1)))
    (ret (mv 5)))) skip)
    (seq (asg 2 (bin Pix (oS 0) (oV (cst (.str "at")))))
    (seq (setIx 0 (cst (.str "at")) (bin Padd (oS 2) (oV (cst (.int 1)))))
    (seq (asg 3 (frz (bin Padd (oV (bin Pmul (oV (cst (.int 40361))) (oS 2))) (oV (cst (.int 103))))))
    (seq (ifS (tst (bin PneX (oV (bin Pix (oS 0) (oV (cst (.str "cells"))))) (oV (lst asNil)))) (asg 3 (bin Pix (oV (bin Pix (oS 0) (oV (cst (.str "cells"))))) (oV (bin Pmod (oS 2) (oV (prim Plen (osCons (oV (bin Pix (oS 0) (oV (cst (.str "cells"))))) osNil))))))) skip)
    (seq (ifS (andB (tst (bin Plt (oS 2) (oV (prim Plen (osCons (oV (bin Pix (oS 0) (oV (cst (.str "cells"))))) osNil))))) (tst (bin Pge (oV (prim Pabs (osCons (oS 3) osNil))) (oV (bin Ppow (oV (cst (.int 10))) (oV (cst (.int 18)))))))) (seq (asg 6 (frz (bin Padd (oV (bin Pmul (oV (cst (.int 2))) (oV (prim Pabs (osCons (oS 3) osNil))))) (oV (prim Pint (osCons (oV (bin Plt (oS 3) (oV (cst (.int 0))))) osNil))))))
    (seq (setIx 0 (cst (.str "rest")) (bin Pdiv (oS 6) (oS 1)))
    (ret (bin Pmod (oS 6) (oS 1))))) skip)
    (seq (asg 4 (frz (bin Pmod (oV (bin Ppow (oV (bin Padd (oV (bin Padd (oV (bin Pmod (oS 3) (oV (cst (.int 2147483579))))) (oV (bin Pmul (oV (cst (.int 50111))) (oS 2))))) (oV (cst (.int 17))))) (oV (cst (.int 5))))) (oV (cst (.int 2147483647))))))
    (seq (asg 4 (frz (bin Pmod (oV (bin Ppow (oV (bin Padd (oV (bin Pmul (oS 4) (oV (bin Padd (oS 2) (oV (cst (.int 60013))))))) (oV (bin Pmul (oV (bin Pmul (oV (cst (.int 80021))) (oS 2))) (oS 2))))) (oV (cst (.int 3))))) (oV (cst (.int 2147483629))))))
    (ret (bin Pmod (oV (bin Pdiv (oS 4) (oV (cst (.int 64))))) (oS 1)))))))))))
def g__law_draw : GF := runDef [0, 1] 2 7 b__law_draw
def L1__law_names : SF := (seq (asg2 8 9 (asCons (bin Pix (oS 2) (oV (bin Pmod (oV (bin Padd (oS 7) (oS 5))) (oV (cst (.int 26)))))) (asCons (bin Pix (oS 2) (oV (bin Pdiv (oS 5) (oV (cst (.int 26)))))) asNil)))
    (drop (mutE "list" 4 Mappend (asCons (ite (orB (tst (bin Pgt (oS 6) (oV (cst (.int 0))))) (tst (bin Pgt (oS 5) (oV (cst (.int 25)))))) (bin Padd (oV (bin Padd (oS 3) (oS 8))) (oS 9)) (var 8)) asNil))))
def b__law_names : SF := (seq (asg 2 (cst (.str "abcdefghijklmnopqrstuvwxyz")))
    (seq (asg2 6 7 (asCons (callG 2 g__law_draw (osCons (oS 0) (osCons (oV (cst (.int 3))) osNil))) (asCons (callG 2 g__law_draw (osCons (oS 0) (osCons (oV (cst (.int 26))) osNil))) asNil)))
    (seq (asg 3 (bin Pix (oV (lst (asCons (cst (.str "")) (asCons (cst (.str "")) (asCons (cst (.str "zzzzzz")) asNil))))) (oS 6)))
    (seq (asg 4 (lst asNil))
    (seq (forS (itR rng1 (asCons (var 1) asNil)) (tgN 5) L1__law_names)
    (ret (mv 4)))))))
def g__law_names : GF := runDef [0, 1] 2 10 b__law_names
def E1__law_shuffled : EF := (mutE "list" 2 MpopAt (asCons (callG 2 g__law_draw (osCons (oS 0) (osCons (oV (frz (prim Plen (osCons (oS 2) osNil)))) osNil))) asNil))
def b__law_shuffled : SF := (seq (asg 2 (prim Plist (osCons (oS 1) osNil)))
    (ret (lc (itR rng1 (asCons (prim Plen (osCons (oS 2) osNil)) asNil)) (tgN 3) yesB E1__law_shuffled [3])))
def g__law_shuffled : GF := runDef [0, 1] 2 4 b__law_shuffled
end BB
namespace BB
open PySem L2 M 
/-! ### the plain law -/
abbrev pen (cs : List Int) (t r : Int) : Val := .dct false [(.str "cells", .lst (cs.map .int)), (.str "at", .int t), (.str "rest", .int r)]
theorem pn0 (cs : List Int) (t r : Int) : Pix [pen cs t r, .str "cells"] = some (false, .lst (cs.map .int)) := rfl
theorem pn1 (cs : List Int) (t r : Int) : Pix [pen cs t r, .str "at"] = some (false, .int t) := rfl
theorem pn2 (cs : List Int) (t r : Int) : Pix [pen cs t r, .str "rest"] = some (false, .int r) := rfl
theorem pu1 (cs : List Int) (t r e : Int) : putIx (pen cs t r) (.str "at") (.int e) = some (pen cs e r) := rfl
theorem pu2 (cs : List Int) (t r e : Int) : putIx (pen cs t r) (.str "rest") (.int e) = some (pen cs t e) := rfl
theorem pneX_nil (cs : List Int) : PneX [.lst (cs.map .int), .lst []] = some (false, .bl (decide (cs ≠ []))) := by
  have := pne_nil cs
  simp [PneX, orP, PneS, this]
def mixed (c t : Int) : Int := ((c % 2147483579 + 50111 * t + 17) ^ 5 % 2147483647 * (t + 60013) + 80021 * t * t) ^ 3 % 2147483629
def cell (cs : List Int) (t : Int) : Option Int := if cs = [] then some (40361 * t + 103) else match Pix [.lst (cs.map .int), .int (t % (cs.length : Int))] with
  | some (false, .int c) => some c
  | _ => none
theorem cell_some (cs : List Int) (t : Int) (ht : 0 ≤ t) : ∃ c, cell cs t = some c := by
  unfold cell
  by_cases h : cs = []
  · exact ⟨_, if_pos h⟩
  · obtain ⟨c, e⟩ := ix_mod cs t h ht
    exact ⟨c, by rw [if_neg h, e]⟩
theorem draw_rest (cs : List Int) (t r n : Int) (hr : 0 < r) (h0 : 0 < n) (hn : n < 1073741824) :
    g__law_draw [(true, pen cs t r), (false, .int n)] = .ok false (.int (r % n)) (some (true, pen cs t (r / n))) := by
  have hns : smallI 1073741823 n = true := small_ok (by omega) (by omega)
  have h64 : smallI 1073741823 64 = true := rfl
  simp [g__law_draw, b__law_draw, M.dNew, M.dsp, M.dspL, M.putAll, M.asg2, M.mutE, M.tup, M.runDef, M.seq, M.skip, M.ifS, M.asg, M.setIx, M.ret, M.drop, M.tst, M.bin, M.prim, M.osCons, M.osNil, M.oV, M.oS, M.cst, M.var, M.mv, M.frz, M.getAll, M.Hd.get, M.ownIx, M.outOf, M.lst, M.tup, M.asCons, M.asNil, M.andB, M.orB, M.notB, M.callG, M.lend, M.lentIx, M.back, M.lents, M.tgN, M.itV, M.itR, M.forS, M.slc, M.pNo, M.pInt, List.getElem?_cons_zero, List.getElem?_cons_succ, List.set_cons_zero, List.set_cons_succ, List.map_cons, List.map_nil, List.replicate_succ, List.replicate_zero, List.length_cons, List.length_nil, List.nil_append, List.cons_append, List.append_nil, Nat.reduceAdd, Nat.reduceSub, pn2, pu2, Pgt, cmpI, hr, Pmod, h0, hns, h64, Pdiv]
theorem draw_small (cs : List Int) (t n c : Int) (ht : 0 ≤ t) (ht2 : t < 1000000) (h0 : 0 < n) (hn : n < 1073741824) (hc : cell cs t = some c) (hb : ¬ (t < cs.length ∧ 10 ^ 18 ≤ (if c < 0 then -c else c))) :
    g__law_draw [(true, pen cs t 0), (false, .int n)] = .ok false (.int (mixed c t / 64 % n)) (some (true, pen cs (t + 1) 0)) := by
  have hns : smallI 1073741823 n = true := small_ok (by omega) (by omega)
  have h64 : smallI 1073741823 64 = true := rfl
  have m0 : 0 ≤ c % 2147483579 := Int.emod_nonneg _ (by decide)
  have m1 : c % 2147483579 < 2147483579 := Int.emod_lt_of_pos _ (by decide)
  have p1 : (c % 2147483579 + 50111 * t + 17).natAbs < 2 ^ 64 := by omega
  obtain ⟨z, hz⟩ : ∃ z, z = (c % 2147483579 + 50111 * t + 17) ^ 5 % 2147483647 := ⟨_, rfl⟩
  have z0 : 0 ≤ z := by rw [hz]; exact Int.emod_nonneg _ (by decide)
  have z1 : z < 2147483647 := by rw [hz]; exact Int.emod_lt_of_pos _ (by decide)
  have q1 : z * (t + 60013) ≤ 2147483647 * 1060013 := Int.mul_le_mul (by omega) (by omega) (by omega) (by decide)
  have q0 : 0 ≤ z * (t + 60013) := Int.mul_nonneg z0 (by omega)
  have q2 : 80021 * t * t ≤ 80021 * 1000000 * 1000000 := Int.mul_le_mul (by omega) (by omega) ht (by decide)
  have q3 : 0 ≤ 80021 * t * t := Int.mul_nonneg (by omega) ht
  have p2 : (z * (t + 60013) + 80021 * t * t).natAbs < 2 ^ 64 := by omega
  have k1 : mulOk 40361 t = true := mul_okL (by decide) (by decide)
  have k2 : mulOk 50111 t = true := mul_okL (by decide) (by decide)
  have k3 : mulOk z (t + 60013) = true := mul_okL z0 (by omega)
  have k4 : mulOk 80021 t = true := mul_okL (by decide) (by decide)
  have k5 : mulOk (80021 * t) t = true := mul_ok ht (by omega)
  by_cases h : cs = []
  · have hc' : 40361 * t + 103 = c := by simpa [cell, h] using hc
    have hl : ¬ t < (cs.length : Int) := by rw [h]; simp; omega
    have hpn : PneX [.lst (cs.map .int), .lst []] = some (false, .bl false) := by rw [pneX_nil]; simp [h]
    simp [g__law_draw, b__law_draw, M.dNew, M.dsp, M.dspL, M.putAll, M.asg2, M.mutE, M.tup, M.runDef, M.seq, M.skip, M.ifS, M.asg, M.setIx, M.ret, M.drop, M.tst, M.bin, M.prim, M.osCons, M.osNil, M.oV, M.oS, M.cst, M.var, M.mv, M.frz, M.getAll, M.Hd.get, M.ownIx, M.outOf, M.lst, M.tup, M.asCons, M.asNil, M.andB, M.orB, M.notB, M.callG, M.lend, M.lentIx, M.back, M.lents, M.tgN, M.itV, M.itR, M.forS, M.slc, M.pNo, M.pInt, List.getElem?_cons_zero, List.getElem?_cons_succ, List.set_cons_zero, List.set_cons_succ, List.map_cons, List.map_nil, List.replicate_succ, List.replicate_zero, List.length_cons, List.length_nil, List.nil_append, List.cons_append, List.append_nil, Nat.reduceAdd, Nat.reduceSub, pn0, pn1, pn2, pu1, Pgt, Pge, Plt, cmpI, Pmod, h0, hns, h64, Pdiv, Padd, Pmul, Ppow, Pabs, Pint, Plen, hpn, hl, k1, k2, k4, k5, hc', p1, p2, k3, ← hz, mixed]
  · have hlN : 0 < cs.length := List.length_pos_iff.mpr h
    have hpn : PneX [.lst (cs.map .int), .lst []] = some (false, .bl true) := by rw [pneX_nil]; simp [h]
    have hix : Pix [.lst (cs.map .int), .int (t % (cs.length : Int))] = some (false, .int c) := by
      obtain ⟨c', e⟩ := ix_mod cs t h ht
      unfold cell at hc
      rw [if_neg h, e] at hc
      cases hc
      exact e
    by_cases hl2 : t < (cs.length : Int)
    · have hb' : ¬ (1000000000000000000 : Int) ≤ (if c < 0 then -c else c) := fun z => hb ⟨hl2, z⟩
      simp [g__law_draw, b__law_draw, M.dNew, M.dsp, M.dspL, M.putAll, M.asg2, M.mutE, M.tup, M.runDef, M.seq, M.skip, M.ifS, M.asg, M.setIx, M.ret, M.drop, M.tst, M.bin, M.prim, M.osCons, M.osNil, M.oV, M.oS, M.cst, M.var, M.mv, M.frz, M.getAll, M.Hd.get, M.ownIx, M.outOf, M.lst, M.tup, M.asCons, M.asNil, M.andB, M.orB, M.notB, M.callG, M.lend, M.lentIx, M.back, M.lents, M.tgN, M.itV, M.itR, M.forS, M.slc, M.pNo, M.pInt, List.getElem?_cons_zero, List.getElem?_cons_succ, List.set_cons_zero, List.set_cons_succ, List.map_cons, List.map_nil, List.replicate_succ, List.replicate_zero, List.length_cons, List.length_nil, List.nil_append, List.cons_append, List.append_nil, Nat.reduceAdd, Nat.reduceSub, pn0, pn1, pn2, pu1, Pgt, Pge, Plt, cmpI, Pmod, h0, hns, h64, Pdiv, Padd, Pmul, Ppow, Pabs, Pint, Plen, hpn, hix, hlN, hl2, hb', k1, k2, k4, k5, p1, p2, k3, ← hz, mixed]
    · simp [g__law_draw, b__law_draw, M.dNew, M.dsp, M.dspL, M.putAll, M.asg2, M.mutE, M.tup, M.runDef, M.seq, M.skip, M.ifS, M.asg, M.setIx, M.ret, M.drop, M.tst, M.bin, M.prim, M.osCons, M.osNil, M.oV, M.oS, M.cst, M.var, M.mv, M.frz, M.getAll, M.Hd.get, M.ownIx, M.outOf, M.lst, M.tup, M.asCons, M.asNil, M.andB, M.orB, M.notB, M.callG, M.lend, M.lentIx, M.back, M.lents, M.tgN, M.itV, M.itR, M.forS, M.slc, M.pNo, M.pInt, List.getElem?_cons_zero, List.getElem?_cons_succ, List.set_cons_zero, List.set_cons_succ, List.map_cons, List.map_nil, List.replicate_succ, List.replicate_zero, List.length_cons, List.length_nil, List.nil_append, List.cons_append, List.append_nil, Nat.reduceAdd, Nat.reduceSub, pn0, pn1, pn2, pu1, Pgt, Pge, Plt, cmpI, Pmod, h0, hns, h64, Pdiv, Padd, Pmul, Ppow, Pabs, Pint, Plen, hpn, hix, hlN, hl2, k1, k2, k4, k5, p1, p2, k3, ← hz, mixed]
theorem draw_great (cs : List Int) (t n c : Int) (ht : 0 ≤ t) (ht2 : t < 1000000) (h0 : 0 < n) (hn : n < 1073741824) (hc : cell cs t = some c) (hb : t < cs.length ∧ 10 ^ 18 ≤ (if c < 0 then -c else c)) :
    g__law_draw [(true, pen cs t 0), (false, .int n)] = .ok false (.int ((2 * (if c < 0 then -c else c) + (if c < 0 then 1 else 0)) % n)) (some (true, pen cs (t + 1) ((2 * (if c < 0 then -c else c) + (if c < 0 then 1 else 0)) / n))) := by
  have hns : smallI 1073741823 n = true := small_ok (by omega) (by omega)
  have h64 : smallI 1073741823 64 = true := rfl
  have k1 : mulOk 40361 t = true := mul_okL (by decide) (by decide)
  have k2 : ∀ j, mulOk 2 j = true := fun j => mul_okL (by decide) (by decide)
  have h : cs ≠ [] := fun z => by rw [z] at hb; simp at hb; omega
  have hlN : 0 < cs.length := List.length_pos_iff.mpr h
  have hpn : PneX [.lst (cs.map .int), .lst []] = some (false, .bl true) := by rw [pneX_nil]; simp [h]
  have hix : Pix [.lst (cs.map .int), .int (t % (cs.length : Int))] = some (false, .int c) := by
    obtain ⟨c', e⟩ := ix_mod cs t h ht
    unfold cell at hc
    rw [if_neg h, e] at hc
    cases hc
    exact e
  have hl2 := hb.1
  have hb' : (1000000000000000000 : Int) ≤ (if c < 0 then -c else c) := hb.2
  simp [g__law_draw, b__law_draw, M.dNew, M.dsp, M.dspL, M.putAll, M.asg2, M.mutE, M.tup, M.runDef, M.seq, M.skip, M.ifS, M.asg, M.setIx, M.ret, M.drop, M.tst, M.bin, M.prim, M.osCons, M.osNil, M.oV, M.oS, M.cst, M.var, M.mv, M.frz, M.getAll, M.Hd.get, M.ownIx, M.outOf, M.lst, M.tup, M.asCons, M.asNil, M.andB, M.orB, M.notB, M.callG, M.lend, M.lentIx, M.back, M.lents, M.tgN, M.itV, M.itR, M.forS, M.slc, M.pNo, M.pInt, List.getElem?_cons_zero, List.getElem?_cons_succ, List.set_cons_zero, List.set_cons_succ, List.map_cons, List.map_nil, List.replicate_succ, List.replicate_zero, List.length_cons, List.length_nil, List.nil_append, List.cons_append, List.append_nil, Nat.reduceAdd, Nat.reduceSub, pn0, pn1, pn2, pu1, pu2, Pgt, Pge, Plt, cmpI, Pmod, h0, hns, h64, Pdiv, Padd, Pmul, Ppow, Pabs, Pint, Plen, hpn, hix, hlN, hl2, hb', k1, k2]
/-- a drawn number, the pen behind it -/
theorem draw (cs : List Int) (t r n : Int) (ht : 0 ≤ t) (ht2 : t < 1000000) (hr : 0 ≤ r) (h0 : 0 < n) (hn : n < 1073741824) :
    ∃ d t' r', g__law_draw [(true, pen cs t r), (false, .int n)] = .ok false (.int d) (some (true, pen cs t' r')) ∧ 0 ≤ d ∧ d < n ∧ 0 ≤ t' ∧ t' ≤ t + 1 ∧ 0 ≤ r' := by
  have hns : smallI 1073741823 n = true := small_ok (by omega) (by omega)
  have h64 : smallI 1073741823 64 = true := rfl
  by_cases hz : 0 < r
  · exact ⟨_, _, _, draw_rest cs t r n hz h0 hn, Int.emod_nonneg _ (by omega), Int.emod_lt_of_pos _ h0, ht, by omega, Int.ediv_nonneg hr (by omega)⟩
  · have e : r = 0 := by omega
    subst e
    obtain ⟨c, hc⟩ := cell_some cs t ht
    by_cases hb : t < cs.length ∧ 10 ^ 18 ≤ (if c < 0 then -c else c)
    · exact ⟨_, _, _, draw_great cs t n c ht ht2 h0 hn hc hb, Int.emod_nonneg _ (by omega), Int.emod_lt_of_pos _ h0, by omega, by omega, Int.ediv_nonneg (by split <;> omega) (by omega)⟩
    · exact ⟨_, _, _, draw_small cs t n c ht ht2 h0 hn hc hb, Int.emod_nonneg _ (by omega), Int.emod_lt_of_pos _ h0, by omega, by omega, by omega⟩
theorem pen_made (ns : List Int) (h : ns.length ≤ 63) : g__law_pen [(false, .scr ns)] = .ok true (pen ns 0 0) none := by
  have e : cutA ns none (some 63) = ns := by
    unfold cutA
    have h1 : HT.sIx ns.length 0 none = 0 := rfl
    have h2 : HT.sIx ns.length ns.length (some 63) = ns.length := by
      show min (63 : Int).toNat ns.length = ns.length
      exact Nat.min_eq_right (by omega)
    rw [h1, h2]; simp
  have e2 : putAll [] [(.str "cells", .lst (ns.map .int)), (.str "at", .int 0), (.str "rest", .int 0)] = some [(.str "cells", .lst (ns.map .int)), (.str "at", .int 0), (.str "rest", .int 0)] := rfl
  simp [g__law_pen, b__law_pen, M.runDef, M.ret, M.dsp, M.dspL, M.frz, M.cst, M.slc, M.oS, M.pNo, M.pInt, M.ownIx, M.outOf, Psl, e, e2, Hd.get]
/-! ### names -/
def letters : Str := "abcdefghijklmnopqrstuvwxyz"
def okS (s : Str) : Prop := s.length ≤ 10 ∧ ∀ c ∈ s.cps.toList, c < 0x110000
theorem okS_one {c : Nat} (h : c < 0x110000) : okS (one c) := ⟨by show 1 ≤ 10; decide, (good_one h).2⟩
theorem lend_app (a b : Str) : (a ++ b).cps.toList = a.cps.toList ++ b.cps.toList := by
  show (a.cps ++ b.cps).toList = _
  simp
end BB
namespace BB
open PySem L2 M 
/-! ### the pen, what is drawn: read from the left -/
def Pen (m : Int) (v : Val) : Prop := ∃ cs t r, v = pen cs t r ∧ 0 ≤ t ∧ t ≤ m ∧ 0 ≤ r
theorem Pen.mono {m k : Int} {v : Val} (h : Pen m v) (l : m ≤ k) : Pen k v := by
  obtain ⟨cs, t, r, e, h0, h1, h2⟩ := h
  exact ⟨cs, t, r, e, h0, by omega, h2⟩
theorem Pen.pos {m : Int} {v : Val} (h : Pen m v) : 0 ≤ m := by
  obtain ⟨cs, t, r, e, h0, h1, h2⟩ := h
  omega
theorem draw_wp {m n : Int} {p : Val} {K : GR → Prop} (hp : Pen m p) (hm : m < 1000000) (h0 : 0 < n) (hn : n < 1073741824) (q : ∀ d p', 0 ≤ d → d < n → Pen (m + 1) p' → K (.ok false (.int d) (some (true, p')))) :
    wG g__law_draw [(true, p), (false, .int n)] K := by
  obtain ⟨cs, t, r, e, h1, h2, h3⟩ := hp
  subst e
  obtain ⟨d, t', r', e, d0, d1, t0, t1, r0⟩ := draw cs t r n h1 (by omega) h3 h0 hn
  unfold wG
  rw [e]
  exact q d _ d0 d1 ⟨cs, t', r', rfl, t0, by omega, r0⟩
theorem pen_wp {ns : List Int} {K : GR → Prop} (h : ns.length ≤ 63) (q : ∀ p, Pen 0 p → K (.ok true p none)) : wG g__law_pen [(false, .scr ns)] K := by
  unfold wG
  rw [pen_made ns h]
  exact q _ ⟨ns, 0, 0, rfl, by omega, by omega, by omega⟩
/-! names -/
def nmL (base : List Nat) (w : Bool) (f k : Nat) : List Nat := if w = true ∨ 25 < k then base ++ [97 + (f + k) % 26, 97 + k / 26] else [97 + (f + k) % 26]
theorem nmL_inj {base : List Nat} {w : Bool} {f k j : Nat} (hk : k < 600) (hj : j < 600) (hw : w = false → base = []) (h : nmL base w f k = nmL base w f j) : k = j := by
  unfold nmL at h
  have key : ∀ a b : Nat, (f + a) % 26 = (f + b) % 26 → a / 26 = b / 26 → a = b := by omega
  by_cases h1 : w = true ∨ 25 < k
  · by_cases h2 : w = true ∨ 25 < j
    · rw [if_pos h1, if_pos h2] at h
      have := List.append_cancel_left h
      simp at this
      exact key _ _ (by omega) (by omega)
    · rw [if_pos h1, if_neg h2] at h
      have hb : base = [] := hw (by cases w with | false => rfl | true => exact absurd (.inl rfl) h2)
      rw [hb] at h
      simp at h
  · by_cases h2 : w = true ∨ 25 < j
    · rw [if_neg h1, if_pos h2] at h
      have hb : base = [] := hw (by cases w with | false => rfl | true => exact absurd (.inl rfl) h1)
      rw [hb] at h
      simp at h
    · rw [if_neg h1, if_neg h2] at h
      simp at h
      have h3 : ¬ 25 < k := fun z => h1 (.inr z)
      have h4 : ¬ 25 < j := fun z => h2 (.inr z)
      exact key _ _ (by omega) (by omega)
theorem letters_at (i : Int) (h0 : 0 ≤ i) (h1 : i < 26) : Pix [.str letters, .int i] = some (false, .str (mk [97 + i.toNat])) := by
  have : ∀ j : Fin 26, letters.cps.toList[j.val]? = some (97 + j.val) := by decide +kernel
  have hl : letters.cps.toList.length = 26 := by decide +kernel
  have hx : ixN letters.cps.toList.length i = some i.toNat := by
    unfold ixN
    rw [if_pos h0, if_pos (by rw [hl]; exact h1)]
  have e := this ⟨i.toNat, by omega⟩
  simp only [Pix, atI, hx, Option.bind_some]
  simp only at e
  rw [e]
  rfl
theorem names_turn_wp {a0 a1 : M.Slot} {base : List Nat} {way first k : Int} {acc : List Str} {a8 a9 : M.Slot} {Q : SR → Prop} (hb : base.length ≤ 6) (hk0 : 0 ≤ k) (hk : k < 600) (hf : 0 ≤ first) (ha : acc.length < 100000)
    (q : ∀ b8 b9, Q (.nx [a0, a1, some (false, .str letters), some (false, .str (mk base)), some (true, .lst ((acc ++ [mk (nmL base (decide (0 < way)) first.toNat k.toNat)]).map .str)), some (false, .int k), some (false, .int way), some (false, .int first), b8, b9])) :
    wS L1__law_names [a0, a1, some (false, .str letters), some (false, .str (mk base)), some (true, .lst (acc.map .str)), some (false, .int k), some (false, .int way), some (false, .int first), a8, a9] Q := by
  have m0 : 0 ≤ (first + k) % 26 := Int.emod_nonneg _ (by decide)
  have m1 : (first + k) % 26 < 26 := Int.emod_lt_of_pos _ (by decide)
  have e1 := letters_at _ m0 m1
  have e2 := letters_at (k / 26) (by omega) (by omega)
  have ha' : (acc.map Val.str).length < 100000 := by simpa using ha
  have t1 : ((first + k) % 26).toNat = (first.toNat + k.toNat) % 26 := by omega
  have t2 : (k / 26).toNat = k.toNat / 26 := by omega
  rw [t1] at e1
  rw [t2] at e2
  have pm : Pmod [.int (first + k), .int 26] = some (false, .int ((first + k) % 26)) := rfl
  have pd : Pdiv [.int k, .int 26] = some (false, .int (k / 26)) := rfl
  have pa : Padd [.int first, .int k] = some (false, .int (first + k)) := rfl
  have x1 := padd_mk base [97 + (first.toNat + k.toNat) % 26] (by simp; omega)
  have x2 := padd_mk (base ++ [97 + (first.toNat + k.toNat) % 26]) [97 + k.toNat / 26] (by simp; omega)
  unfold L1__law_names
  simp? only [pa, pm, pd, e1, e2, Pgt, cmpI]
  have := q (some (false, .str (mk [97 + (first.toNat + k.toNat) % 26]))) (some (false, .str (mk [97 + k.toNat / 26])))
  by_cases hw : 0 < way
  · simp? only [hw, decide_true, x1, x2, Mappend, ha', tyOf]
    simpa [nmL, hw] using this
  · by_cases h25 : 25 < k
    · have h25' : 25 < k.toNat := by omega
      simp? only [hw, decide_false, h25, decide_true, x1, x2, Mappend, ha', tyOf]
      simpa [nmL, hw, h25'] using this
    · have h25' : ¬ 25 < k.toNat := by omega
      simp? only [hw, decide_false, h25, x1, x2, Mappend, ha', tyOf]
      simpa [nmL, hw, h25'] using this
theorem nmL_name {base : List Nat} {w : Bool} {f k : Nat} (hb : base.length ≤ 6) (hb2 : ∀ c ∈ base, 97 ≤ c ∧ c ≤ 122) (hk : k < 600) : IsName (mk (nmL base w f k)) := by
  refine ⟨_, rfl, ?_⟩
  unfold nmL
  split
  · refine ⟨by simp, by simp; omega, fun c hc => ?_⟩
    rcases List.mem_append.mp hc with z | z
    · exact hb2 c z
    · simp at z; omega
  · refine ⟨by simp, by simp, fun c hc => ?_⟩
    simp at hc; omega
theorem names_wp {m many : Int} {p : Val} {K : GR → Prop} (hp : Pen m p) (hm : m < 999990) (h0 : 0 ≤ many) (h1 : many < 600)
    (q : ∀ (ss : List Str) (p' : Val), ss.length = many.toNat → ss.Nodup → (∀ s ∈ ss, IsName s) → Pen (m + 2) p' → K (.ok true (.lst (ss.map .str)) (some (true, p')))) : wG g__law_names [(true, p), (false, .int many)] K := by
  have hpos := hp.pos
  unfold g__law_names
  rw [wG_run (by rfl) (by simp [ownIx])]
  unfold b__law_names
  simp? only []
  refine draw_wp hp (by omega) (by decide) (by decide) fun way p1 w0 w1 hp1 => ?_
  simp? only []
  refine draw_wp hp1 (by omega) (by decide) (by decide) fun first p2 f0 f1 hp2 => ?_
  obtain ⟨base, e3, hb, hb2, hb3⟩ : ∃ base : List Nat, Pix [.lst [.str "", .str "", .str "zzzzzz"], .int way] = some (false, .str (mk base)) ∧ base.length ≤ 6 ∧ (∀ c ∈ base, 97 ≤ c ∧ c ≤ 122) ∧ (decide (0 < way) = false → base = []) := by
    have : way = 0 ∨ way = 1 ∨ way = 2 := by omega
    rcases this with z | z | z <;> subst z
    · exact ⟨[], rfl, by decide, by decide, fun _ => rfl⟩
    · exact ⟨[], rfl, by decide, by decide, fun _ => rfl⟩
    · exact ⟨[122, 122, 122, 122, 122, 122], rfl, by decide, by decide, by decide⟩
  simp? only [e3, rng_nums many ⟨h0, by omega⟩]
  refine wL_inv (fun vs r => ∃ (k : Nat) (b5 b8 b9 : M.Slot), vs = (nums many.toNat).drop k ∧ k ≤ many.toNat ∧ r = [some (true, p2), some (false, .int many), some (false, .str letters), some (false, .str (mk base)),
      some (true, .lst (((List.range k).map fun k => mk (nmL base (decide (0 < way)) first.toNat k)).map .str)), b5, some (false, .int way), some (false, .int first), b8, b9]) ?_ ?_ _ _ ⟨0, _, _, _, rfl, by omega, rfl⟩
  · rintro v vs r ⟨k, b5, b8, b9, e, hk, rfl⟩
    obtain ⟨hk2, rfl, rfl⟩ := drop_step e
    rw [nums_get]
    rw [nums_len] at hk2
    simp? only []
    refine names_turn_wp hb (by omega) (by omega) f0 (by simp; omega) fun b8 b9 => ?_
    exact ⟨k + 1, some (false, .int k), b8, b9, rfl, hk2, by simp [List.range_succ]⟩
  · rintro r ⟨k, b5, b8, b9, e, hk, rfl⟩
    have hk2 := drop_end e (by rw [nums_len]; exact hk)
    rw [nums_len] at hk2
    subst hk2
    simp? only []
    refine q _ _ (by simp) ?_ ?_ (hp2.mono (by omega))
    · rw [List.nodup_iff_pairwise_ne, List.pairwise_map]
      refine List.Pairwise.imp_of_mem ?_ List.nodup_range
      intro a b ha hb' hab he
      exact hab (nmL_inj (by have := List.mem_range.mp ha; omega) (by have := List.mem_range.mp hb'; omega) hb3 (mk_inj he))
    · intro s hs
      obtain ⟨k, hk, rfl⟩ := List.mem_map.mp hs
      exact nmL_name hb hb2 (by have := List.mem_range.mp hk; omega)
/-! shuffled -/
theorem shuffled_wp {m : Int} {p : Val} {xs : List Val} {K : GR → Prop} (hp : Pen m p) (hl : xs.length ≤ 1000) (hm : m + xs.length < 999990)
    (q : ∀ (ys : List Val) (p' : Val), ys.Perm xs → Pen (m + xs.length) p' → K (.ok true (.lst ys) (some (true, p')))) : wG g__law_shuffled [(true, p), (false, .lst xs)] K := by
  have hpos := hp.pos
  unfold g__law_shuffled
  rw [wG_run (by rfl) (by simp [ownIx])]
  unfold b__law_shuffled
  simp? only [Plist, Plen, rng_nat xs.length (by omega)]
  refine wC_inv (fun vs acc r => ∃ (left : List Val) (p1 : Val), left.length = vs.length ∧ (acc ++ left).Perm xs ∧ Pen (m + xs.length - vs.length) p1 ∧ r = [some (true, p1), some (false, .lst xs), some (true, .lst left), none]) ?_ ?_ _ _ _ ⟨xs, p, (nums_len _).symm, .refl _, hp.mono (by rw [nums_len]; omega), rfl⟩
  · rintro v vs acc r ⟨left, p1, h1, h2, hp1, rfl⟩
    have hlen := h2.length_eq
    simp only [List.length_append, List.length_cons] at h1 hlen hp1
    simp? only [E1__law_shuffled, Plen]
    refine draw_wp hp1 (by omega) (by omega) (by omega) fun d p2 d0 d1 hp2 => ?_
    have hd : d.toNat < left.length := by omega
    have hx : ixN left.length d = some d.toNat := by
      unfold ixN
      rw [if_pos d0, if_pos d1]
    have hpop : MpopAt (.lst left) [.int d] = some (.lst (left.eraseIdx d.toNat), left[d.toNat]) := by
      simp only [MpopAt, hx, List.getElem?_eq_getElem hd]
      rw [if_pos (by omega)]
    simp? only [tyOf, hpop]
    refine ⟨by omega, left.eraseIdx d.toNat, p2, by rw [List.length_eraseIdx_of_lt hd]; omega, ?_, hp2.mono (by omega), rfl⟩
    rw [List.append_assoc]
    exact ((perm_erase left d.toNat hd).append_left acc).trans h2
  · rintro acc r ⟨left, p1, h1, h2, hp1, rfl⟩
    have : left = [] := List.eq_nil_of_length_eq_zero h1
    subst this
    simp? only []
    exact q acc p1 (by simpa using h2) (hp1.mono (by simp))
end BB
namespace K11
open PySem L2 M BB
def E1__law_tangle : EF := (var 7)
def F2__law_tangle : BF := (andB (tst (bin Pgt (oS 3) (oV (cst (.int 1))))) (tst (bin PeqX (oV (callG 2 g__law_draw (osCons (oS 0) (osCons (oV (bin Pix (oV (lst (asCons (cst (.int 1)) (asCons (cst (.int 1)) (asCons (cst (.int 12)) (asCons (cst (.int 6)) (asCons (cst (.int 3)) asNil))))))) (oS 3))) osNil)))) (oV (cst (.int 0))))))
def L3__law_tangle : SF := (seq (asg 6 (lc (itV (var 2)) (tgN 7) F2__law_tangle E1__law_tangle [7]))
    (seq (ifS (tst (bin PeqX (oS 3) (oV (cst (.int 1))))) (asg 6 (frz (lst (asCons (bin Pix (oS 2) (oV (bin Pmod (oV (bin Padd (oS 5) (oV (cst (.int 1))))) (oS 1)))) asNil)))) skip)
    (seq (ifS (tst (bin PeqX (oV (callG 2 g__law_draw (osCons (oS 0) (osCons (oV (cst (.int 9))) osNil)))) (oV (cst (.int 0))))) (asg 6 (frz (lst (asCons (bin Pix (oS 2) (oS 5)) asNil)))) skip)
    (setIx 4 (bin Pix (oS 2) (oS 5)) (prim Ptuple (osCons (oV (callG 2 g__law_shuffled (osCons (oS 0) (osCons (oV (var 6)) osNil)))) osNil))))))
def b__law_tangle : SF := (seq (asg 2 (frz (callG 2 g__law_names (osCons (oS 0) (osCons (oV (var 1)) osNil)))))
    (seq (asg 3 (frz (callG 2 g__law_draw (osCons (oS 0) (osCons (oV (cst (.int 5))) osNil)))))
    (seq (asg 4 (dNew false))
    (seq (forS (itR rng1 (asCons (var 1) asNil)) (tgN 5) L3__law_tangle)
    (ret (mv 4))))))
def g__law_tangle : GF := runDef [0, 1] 2 8 b__law_tangle
def E1__law_walk : EF := (var 7)
def L2__law_walk : SF := (seq (asg 5 (bin Pix (oS 1) (oV (bin Pix (oS 3) (oV (prim Pneg (osCons (oV (cst (.int 1))) osNil)))))))
    (seq (ifS (tst (bin PeqX (oS 5) (oV (tup asNil)))) (ret (mv 3)) skip)
    (seq (asg 6 (bin Pix (oS 5) (oV (callG 2 g__law_draw (osCons (oS 0) (osCons (oV (frz (prim Plen (osCons (oS 5) osNil)))) osNil))))))
    (seq (ifS (tst (bin PinX (oS 6) (oS 3))) (ret (slc (oS 3) (pInt (prim Pindex (osCons (oTy "list" (oS 3)) (osCons (oS 6) osNil)))) pNo)) skip)
    (drop (mutE "list" 3 Mappend (asCons (var 6) asNil)))))))
def b__law_walk : SF := (seq (asg 2 (lc (itV (var 1)) (tgN 7) yesB E1__law_walk [7]))
    (seq (asg 3 (lst (asCons (bin Pix (oS 2) (oV (callG 2 g__law_draw (osCons (oS 0) (osCons (oV (frz (prim Plen (osCons (oS 2) osNil)))) osNil))))) asNil)))
    (seq (forS (itR rng1 (asCons (prim Plen (osCons (oS 2) osNil)) asNil)) (tgN 4) L2__law_walk)
    (ret (mv 3)))))
def g__law_walk : GF := runDef [0, 1] 2 8 b__law_walk
def E1__law_things : EF := (var 6)
def b__law_things : SF := (seq (asg 2 (frz (callG 2 g__law_walk (osCons (oS 0) (osCons (oV (var 1)) osNil)))))
    (seq (asg 3 (lc (itV (var 1)) (tgN 6) yesB E1__law_things [6]))
    (seq (asg 4 (frz (callG 2 g__law_draw (osCons (oS 0) (osCons (oV (frz (prim Plen (osCons (oS 2) osNil)))) osNil)))))
    (seq (asg 5 (frz (lst (asCons (prim Ptuple (osCons (oS 2) osNil)) (asCons (prim Ptuple (osCons (oV (bin Padd (oV (slc (oS 2) (pInt (var 4)) pNo)) (oV (slc (oS 2) pNo (pInt (var 4)))))) osNil)) (asCons (prim Ptuple (osCons (oV (prim Prev (osCons (oS 2) osNil))) osNil)) (asCons (prim Ptuple (osCons (oV (slc (oS 2) pNo (pInt (prim Pneg (osCons (oV (cst (.int 1))) osNil))))) osNil)) (asCons (prim Ptuple (osCons (oV (bin Pmul (oS 2) (oV (cst (.int 2))))) osNil)) (asCons (prim Plist (osCons (oS 2) osNil)) asNil)))))))))
    (seq (asg 5 (frz (bin Padd (oS 5) (oV (lst (asCons (prim Ptuple (osCons (oV (bin Padd (oV (bin Padd (oV (slc (oS 2) pNo (pInt (var 4)))) (oV (lst (asCons (bin Pix (oS 3) (oV (callG 2 g__law_draw (osCons (oS 0) (osCons (oV (frz (prim Plen (osCons (oS 3) osNil)))) osNil))))) asNil))))) (oV (slc (oS 2) (pInt (bin Padd (oS 4) (oV (cst (.int 1))))) pNo)))) osNil)) (asCons (prim Ptuple (osCons (oV (bin Padd (oS 2) (oV (slc (oS 2) pNo (pInt (cst (.int 1))))))) osNil)) asNil)))))))
    (seq (asg 5 (frz (bin Padd (oS 5) (oV (lst (asCons (tup (asCons (bin Pix (oS 3) (oV (cst (.int 0)))) asNil)) (asCons (tup asNil) (asCons (cst .non) (asCons (bin Pix (oS 3) (oV (cst (.int 0)))) (asCons (cst (.bl true)) (asCons (cst (.int 0)) (asCons (dNew false) (asCons (tup (asCons (cst .non) asNil)) (asCons (tup (asCons (cst (.int 0)) (asCons (cst (.int 1)) asNil))) (asCons (tup (asCons (bin Pix (oS 2) (oV (cst (.int 0)))) (asCons (cst .non) asNil))) (asCons (tup (asCons (tup (asCons (cst (.str "a")) asNil)) asNil)) (asCons (tup (asCons (lst asNil) asNil)) asNil)))))))))))))))))
    (ret (bin Padd (oS 5) (oV (lst (asCons (prim Ptuple (osCons (oV (callG 2 g__law_shuffled (osCons (oS 0) (osCons (oV (var 3)) osNil)))) osNil)) (asCons (prim Ptuple (osCons (oV (slc (oS 3) pNo (pInt (cst (.int 2))))) osNil)) (asCons (tup (asCons (cst (.str "nosuch")) asNil)) (asCons (var 1) asNil))))))))))))))
def g__law_things : GF := runDef [0, 1] 2 7 b__law_things
def E1_is_ring : EF := (andV (prim Pisi (osCons (oS 2) (osCons (oV (cst (.ty "str"))) osNil))) (bin PinX (oS 2) (oS 0)))
def E2_is_ring : EF := (bin PinX (oS 3) (oV (bin Pix (oS 0) (oS 2))))
def b_is_ring : SF := (seq (ifS (orB (notB (tst (prim Pisi (osCons (oS 1) (osCons (oV (cst (.ty "tuple"))) osNil))))) (tst (bin PeqX (oV (prim Plen (osCons (oS 1) osNil))) (oV (cst (.int 0)))))) (ret (cst (.bl false))) skip)
    (seq (ifS (orB (notB (tst (prim Pall (osCons (oV (lc (itV (var 1)) (tgN 2) yesB E1_is_ring [2])) osNil)))) (tst (bin Plt (oV (lenSet (var 1))) (oV (prim Plen (osCons (oS 1) osNil)))))) (ret (cst (.bl false))) skip)
    (ret (prim Pall (osCons (oV (lc (itZip (asCons (var 1) (asCons (tup (asStar (slc (oS 1) (pInt (cst (.int 1))) pNo) (asCons (bin Pix (oS 1) (oV (cst (.int 0)))) asNil))) asNil))) (tgT (tgCons (tgN 2) (tgCons (tgN 3) tgNil))) yesB E2_is_ring [2, 3])) osNil)))))
def g_is_ring : GF := runDef [0, 1] 2 4 b_is_ring
def L1__law_is_ring : SF := (ifS (orB (notB (tst (prim Pisi (osCons (oV (bin Pix (oS 1) (oS 2))) (osCons (oV (cst (.ty "str"))) osNil))))) (orB (tst (bin PnotInX (oV (bin Pix (oS 1) (oS 2))) (oS 0))) (tst (bin PinX (oV (bin Pix (oS 1) (oS 2))) (oV (slc (oS 1) pNo (pInt (var 2)))))))) (ret (cst (.bl false))) skip)
def L2__law_is_ring : SF := (ifS (tst (bin PnotInX (oV (bin Pix (oS 1) (oV (bin Pmod (oV (bin Padd (oS 2) (oV (cst (.int 1))))) (oV (prim Plen (osCons (oS 1) osNil))))))) (oV (bin Pix (oS 0) (oV (bin Pix (oS 1) (oS 2))))))) (ret (cst (.bl false))) skip)
def b__law_is_ring : SF := (seq (ifS (orB (notB (tst (prim Pisi (osCons (oS 1) (osCons (oV (cst (.ty "tuple"))) osNil))))) (tst (bin PeqX (oS 1) (oV (tup asNil))))) (ret (cst (.bl false))) skip)
    (seq (forS (itR rng1 (asCons (prim Plen (osCons (oS 1) osNil)) asNil)) (tgN 2) L1__law_is_ring)
    (seq (forS (itR rng1 (asCons (prim Plen (osCons (oS 1) osNil)) asNil)) (tgN 2) L2__law_is_ring)
    (ret (cst (.bl true))))))
def g__law_is_ring : GF := runDef [0, 1] 2 3 b__law_is_ring
def L1_law : SF := (ifS (tst (bin PneX (oV (prim PreprX (osCons (oV (callG 2 g_is_ring (osCons (oV (var 3)) (osCons (oV (var 5)) osNil)))) osNil))) (oV (prim PreprX (osCons (oV (callG 2 g__law_is_ring (osCons (oV (var 3)) (osCons (oV (var 5)) osNil)))) osNil))))) (ret (cst (.bl false))) skip)
def L2_law : SF := (seq (asg 3 (frz (callG 2 g__law_tangle (osCons (oS 1) (osCons (oV (frz (bin Padd (oV (cst (.int 1))) (oV (callG 2 g__law_draw (osCons (oS 1) (osCons (oV (cst (.int 7))) osNil))))))) osNil)))))
    (seq (asg 4 (frz (prim PreprX (osCons (oS 3) osNil))))
    (seq (forS (itV (callG 2 g__law_things (osCons (oS 1) (osCons (oV (var 3)) osNil)))) (tgN 5) L1_law)
    (ifS (tst (bin PneX (oV (prim PreprX (osCons (oS 3) osNil))) (oS 4))) (ret (cst (.bl false))) skip))))
def b_law : SF := (seq (asg 1 (callG 1 g__law_pen (osCons (oV (var 0)) osNil)))
    (seq (forS (itR rng1 (asCons (cst (.int 5)) asNil)) (tgN 2) L2_law)
    (ret (andV (bin Pis (oV (callG 2 g_is_ring (osCons (oV (frz (dsp [((cst (.str "a")), (tup (asCons (cst (.str "b")) asNil))), ((cst (.str "b")), (tup (asCons (cst (.str "a")) asNil)))]))) (osCons (oV (tup (asCons (cst (.str "b")) (asCons (cst (.str "a")) asNil)))) osNil)))) (oV (cst (.bl true)))) (bin Pis (oV (callG 2 g_is_ring (osCons (oV (frz (dNew false))) (osCons (oV (tup asNil)) osNil)))) (oV (cst (.bl false))))))))
def g_law : GF := runDef [0] 1 6 b_law
end K11
namespace K11
open PySem L2 M BB
/-! ### needs -/
abbrev Nd := List (Str × List Str)
def en (m : Nd) : List (Str × Val) := m.map fun p => (p.1, .tup (p.2.map .str))
abbrev enc (m : Nd) : Val := .dct false (sd (en m))
theorem en_keys (m : Nd) : (en m).map (·.1) = m.map (·.1) := by simp [en]
theorem en_get (m : Nd) (k : Str) : (en m).lookup k = (m.lookup k).map fun vs => .tup (vs.map .str) := by
  induction m with
  | nil => rfl
  | cons p m ih =>
    obtain ⟨a, b⟩ := p
    simp only [en, List.map_cons, List.lookup_cons] at ih ⊢
    cases h : k == a with
    | true => simp
    | false => simpa using ih
structure Good (m : Nd) : Prop where
  nd : (m.map (·.1)).Nodup
  nm : ∀ s ∈ m.map (·.1), IsName s
  vl : ∀ p ∈ m, p.2.length ≤ 7 ∧ ∀ y ∈ p.2, y ∈ m.map (·.1)
  len : 1 ≤ m.length ∧ m.length ≤ 7
theorem dense_ix (d : Int) (h : 1 < d ∧ d < 5) : ∃ q : Int, Pix [.lst [.int 1, .int 1, .int 12, .int 6, .int 3], .int d] = some (false, .int q) ∧ 0 < q ∧ q < 20 := by
  have : d = 2 ∨ d = 3 ∨ d = 4 := by omega
  rcases this with z | z | z <;> subst z
  · exact ⟨12, rfl, by decide, by decide⟩
  · exact ⟨6, rfl, by decide, by decide⟩
  · exact ⟨3, rfl, by decide, by decide⟩
theorem en_add (m : Nd) (k : Str) (vs : List Str) : en m ++ [(k, .tup (vs.map .str))] = en (m ++ [(k, vs)]) := by simp [en]
/-- the slots of a turn -/
abbrev tg (p : Val) (many : Int) (names : List Str) (d : Int) (m : Nd) (k : M.Slot) (s : M.Slot) : M.Env := [some (true, p), some (false, .int many), some (false, .lst (names.map .str)), some (false, .int d), some (true, enc m), k, s, none]
theorem tangle_some {m0 many d : Int} {p : Val} {names : List Str} {m : Nd} {k b6 : M.Slot} {Q : AR → Prop} (hp : Pen m0 p) (hm : m0 < 990000) (hl : names.length ≤ 7) (d1 : d < 5)
    (q : ∀ (ys : List Str) (p' : Val), ys.length ≤ names.length → (∀ y ∈ ys, y ∈ names) → Pen (m0 + names.length) p' → Q (.ok (ys.map .str) (tg p' many names d m k b6))) :
    wC (M.tgN 7) F2__law_tangle E1__law_tangle [7] (names.map .str) [] (tg p many names d m k b6) Q := by
  have hpos := hp.pos
  obtain ⟨I, hI⟩ : ∃ I : List Val → List Val → M.Env → Prop, I = fun vs acc r => ∃ (j : Nat) (ys : List Str) (p4 : Val), vs = (names.map Val.str).drop j ∧ j ≤ names.length ∧ acc = ys.map .str ∧ ys.length ≤ j ∧ (∀ y ∈ ys, y ∈ names) ∧ Pen (m0 + j) p4 ∧ r = tg p4 many names d m k b6 := ⟨_, rfl⟩
  refine wC_inv I ?_ ?_ _ _ _ (by rw [hI]; exact ⟨0, [], p, rfl, by omega, rfl, by simp, by simp, hp.mono (by omega), rfl⟩)
  · intro v vs acc r h
    rw [hI] at h
    obtain ⟨j, ys, p4, e, hj, rfl, hys, hin, hp4, rfl⟩ := h
    obtain ⟨hj2, rfl, rfl⟩ := drop_step e
    rw [List.length_map] at hj2
    rw [List.getElem_map]
    have hacc : (ys.map Val.str).length < 100000 := by rw [List.length_map]; omega
    simp? only [F2__law_tangle, E1__law_tangle]
    by_cases hd : 1 < d
    · obtain ⟨qq, e2, q0, q1⟩ := dense_ix d ⟨hd, d1⟩
      simp? only [hd, decide_true, e2]
      refine draw_wp hp4 (by omega) q0 (by omega) fun w p5 w0 w1 hp5 => ?_
      simp? only [peqI]
      by_cases hw : w = 0
      · simp? only [hw, decide_true]
        rw [hI]
        refine ⟨hacc, j + 1, ys ++ [names[j]], p5, rfl, hj2, by simp, by simp; omega, fun y hy => ?_, hp5.mono (by omega), rfl⟩
        rcases List.mem_append.mp hy with z | z
        · exact hin y z
        · rw [List.mem_singleton.mp z]; exact List.getElem_mem hj2
      · simp? only [hw, decide_false]
        rw [hI]
        exact ⟨j + 1, ys, p5, rfl, hj2, rfl, by omega, hin, hp5.mono (by omega), rfl⟩
    · simp? only [hd, decide_false]
      rw [hI]
      exact ⟨j + 1, ys, p4, rfl, hj2, rfl, by omega, hin, hp4.mono (by omega), rfl⟩
  · intro acc r h
    rw [hI] at h
    obtain ⟨j, ys, p4, e, hj, rfl, hys, hin, hp4, rfl⟩ := h
    have hj2 := drop_end e (by rw [List.length_map]; exact hj)
    rw [List.length_map] at hj2
    subst hj2
    exact q ys p4 hys hin hp4
theorem tangle_turn {m0 many d : Int} {p : Val} {names : List Str} {m : Nd} {k : Nat} {b6 : M.Slot} {Q : SR → Prop} (hp : Pen m0 p) (hm : m0 < 980000) (hl : names.length ≤ 7) (hmn : names.length = many.toNat) (hk : k < names.length) (d1 : d < 5)
    (hfr : names[k] ∉ m.map (·.1)) (hml : m.length ≤ 7)
    (q : ∀ (us : List Str) (p' : Val) (b6 : M.Slot), us.length ≤ 7 → (∀ y ∈ us, y ∈ names) → Pen (m0 + 30) p' → Q (.nx (tg p' many names d (m ++ [(names[k], us)]) (some (false, .int (k : Nat))) b6))) :
    wS L3__law_tangle (tg p many names d m (some (false, .int (k : Nat))) b6) Q := by
  have hpos := hp.pos
  have m0' : 0 ≤ ((k : Int) + 1) % many := Int.emod_nonneg _ (by omega)
  have m1' : ((k : Int) + 1) % many < many := Int.emod_lt_of_pos _ (by omega)
  have x1 := pix_strs (ss := names) m0' (by omega)
  have x2 := pix_strs (ss := names) (i := (k : Int)) (by omega) (by simpa using hk)
  simp only [Int.toNat_natCast] at x2
  have hpx : ∀ us : List Str, putIx (enc m) (.str names[k]) (.tup (us.map .str)) = some (enc (m ++ [(names[k], us)])) := fun us => by
    have := putIx_new (v := .tup (us.map .str)) (ps := en m) (by rw [en_keys]; exact hfr) (by simp [en]; omega)
    rw [en_add] at this
    exact this
  have one : ∀ (i : Nat) (hi : i < names.length), ([names[i]] : List Str).length ≤ 7 ∧ ∀ y ∈ [names[i]], y ∈ names := fun i hi => ⟨by simp, fun y hy => by rw [List.mem_singleton.mp hy]; exact List.getElem_mem hi⟩
  unfold L3__law_tangle
  rw [wS_seq]
  simp? []
  refine tangle_some hp (by omega) hl d1 fun ys p4 hys hin hp4 => ?_
  simp? []
  rw [kseq, wS_seq]
  generalize hK : kseq _ Q = K2
  have tail : ∀ (zs : List Str) (b : Bool), zs.length ≤ 7 → (∀ y ∈ zs, y ∈ names) → K2 (.nx (tg p4 many names d m (some (false, .int (k : Nat))) (some (b, .lst (zs.map .str))))) := by
    intro zs b hz1 hz2
    rw [← hK, kseq, wS_seq]
    generalize hK3 : kseq _ Q = K3
    have fin : ∀ (zs : List Str) (p5 : Val) (b : Bool), zs.length ≤ 7 → (∀ y ∈ zs, y ∈ names) → Pen (m0 + 10) p5 → K3 (.nx (tg p5 many names d m (some (false, .int (k : Nat))) (some (b, .lst (zs.map .str))))) := by
      intro zs p5 b hz1 hz2 hp5
      rw [← hK3, kseq]
      cases b
      all_goals
        simp? only []
        refine shuffled_wp hp5 (by simp; omega) (by simp; omega) fun ys p6 hperm hp6 => ?_
        obtain ⟨us, rfl, hus⟩ := perm_strs hperm
        have hlu := hus.length_eq
        simp? only [x2, hpx]
        exact q us p6 _ (by omega) (fun y hy => hz2 y (hus.subset hy)) (hp6.mono (by simp; omega))
    simp? only []
    refine draw_wp hp4 (by omega) (by decide) (by decide) fun w p5 w0 w1 hp5 => ?_
    by_cases hw : w = 0
    · simp? only [peqI, hw, decide_true, x2]
      exact fin [_] p5 false (one _ hk).1 (one _ hk).2 (hp5.mono (by omega))
    · simp? only [peqI, hw, decide_false]
      exact fin zs p5 b hz1 hz2 (hp5.mono (by omega))
  by_cases hd1 : d = 1
  · subst hd1
    simp? only [peqI, decide_true, Padd, pmodI (show 0 < many by omega), x1]
    exact tail [_] false (one _ (by omega)).1 (one _ (by omega)).2
  · simp? only [peqI, hd1, decide_false]
    exact tail ys true (by omega) hin
theorem tangle_wp {m0 many : Int} {p : Val} {K : GR → Prop} (hp : Pen m0 p) (hm : m0 < 900000) (h0 : 1 ≤ many) (h1 : many ≤ 7)
    (q : ∀ (m : Nd) (p' : Val), Good m → Pen (m0 + 1000) p' → K (.ok true (enc m) (some (true, p')))) : wG g__law_tangle [(true, p), (false, .int many)] K := by
  have hpos := hp.pos
  unfold g__law_tangle
  rw [wG_run (by rfl) (by simp [ownIx])]
  unfold b__law_tangle
  simp? only []
  refine names_wp hp (by omega) (by omega) (by omega) fun names p1 hl hnd hnm hp1 => ?_
  simp? only []
  refine draw_wp hp1 (by omega) (by decide) (by decide) fun d p2 d0 d1 hp2 => ?_
  simp? only [rng_nums many ⟨by omega, by omega⟩]
  obtain ⟨I, hI⟩ : ∃ I : List Val → M.Env → Prop, I = fun vs r => ∃ (k : Nat) (m : Nd) (p3 : Val) (b5 b6 : M.Slot), vs = (nums many.toNat).drop k ∧ k ≤ many.toNat ∧ m.map (·.1) = names.take k ∧ (∀ x ∈ m, x.2.length ≤ 7 ∧ ∀ y ∈ x.2, y ∈ names) ∧ Pen (m0 + 4 + k * 40) p3 ∧
    r = tg p3 many names d m b5 b6 := ⟨_, rfl⟩
  refine wL_inv I ?_ ?_ _ _ (by rw [hI]; exact ⟨0, [], p2, none, none, rfl, by omega, by simp, by simp, hp2.mono (by omega), rfl⟩)
  · intro v vs r h
    rw [hI] at h
    obtain ⟨k, m, p3, b5, b6, e, hk, hkeys, hvals, hp3, rfl⟩ := h
    obtain ⟨hk2, rfl, rfl⟩ := drop_step e
    rw [nums_get]
    rw [nums_len] at hk2
    have hkn : k < names.length := by omega
    have hml : m.length = k := by
      have := congrArg List.length hkeys
      simp at this
      omega
    have hfresh : names[k] ∉ m.map (·.1) := by
      rw [hkeys]
      intro z
      obtain ⟨i, hi, ei⟩ := List.mem_take_iff_getElem.mp z
      have := (List.getElem_inj hnd).mp ei
      omega
    simp only [M.kT, M.tgN, List.set_cons_succ, List.set_cons_zero]
    refine tangle_turn hp3 (by omega) (by omega) hl hkn d1 hfresh (by omega) fun us p6 b6 hu1 hu2 hp6 => ?_
    rw [kTurn, hI]
    refine ⟨k + 1, _, p6, _, _, rfl, hk2, ?_, ?_, hp6.mono (by simp; omega), rfl⟩
    · rw [List.map_append, hkeys, List.take_succ_eq_append_getElem hkn]; rfl
    · intro x hx
      rcases List.mem_append.mp hx with z | z
      · exact hvals x z
      · rw [List.mem_singleton.mp z]
        exact ⟨hu1, hu2⟩
  · intro r h
    rw [hI] at h
    obtain ⟨k, m, p3, b5, b6, e, hk, hkeys, hvals, hp3, rfl⟩ := h
    have hk2 := drop_end e (by rw [nums_len]; exact hk)
    rw [nums_len] at hk2
    subst hk2
    rw [← hl, List.take_length] at hkeys
    simp? only []
    refine q m p3 ⟨by rw [hkeys]; exact hnd, by rw [hkeys]; exact hnm, by rw [hkeys]; exact hvals, ?_⟩ (hp3.mono (by omega))
    have := congrArg List.length hkeys
    rw [List.length_map] at this
    omega
end K11
namespace K11
open PySem L2 M BB
/-! ### rings -/
def getN (m : Nd) (s : Str) : List Str := (m.lookup s).getD []
def rot (ss : List Str) : List Str := ss.drop 1 ++ [ss.getD 0 default]
def ringB (m : Nd) (ss : List Str) : Bool := decide (ss ≠ [] ∧ (∀ s ∈ ss, s ∈ m.map (·.1)) ∧ ss.Nodup) && (ss.zip (rot ss)).all fun p => decide (p.2 ∈ getN m p.1)
def ringOf (m : Nd) : Val → Bool
  | .tup xs => match asStrs xs with
    | some ss => ringB m ss
    | none => false
  | _ => false
structure Odd (xs : List Val) : Prop where
  ty : ∀ x ∈ xs, (tyOf x).isSome = true
  no : asStrs xs = none
  ne : PeqX [.tup xs, .tup []] = some (false, .bl false)
  len : xs.length ≤ 100
/-- a thing that is looked at -/
def Thing (v : Val) : Prop := (∃ ss : List Str, v = .tup (ss.map .str) ∧ ss.length ≤ 100 ∧ ∀ s ∈ ss, CpOk s) ∨ (∃ xs, v = .tup xs ∧ Odd xs) ∨ ((tyOf v).isSome = true ∧ ∀ xs, v ≠ .tup xs)
theorem isi_not {v : Val} (h : (tyOf v).isSome = true) (n : ∀ xs, v ≠ .tup xs) : Pisi [v, .ty "tuple"] = some (false, .bl false) := by
  rw [pisi_ok h (by simp)]
  cases v with
  | tup xs => exact absurd rfl (n xs)
  | _ => first | rfl | simp [tyOf] at h
theorem isi_notS {v : Val} (h : (tyOf v).isSome = true) (n : ∀ s, v ≠ .str s) : Pisi [v, .ty "str"] = some (false, .bl false) := by
  rw [pisi_ok h (by simp)]
  cases v with
  | str s => exact absurd rfl (n s)
  | _ => first | rfl | simp [tyOf] at h
def known (m : Nd) : Val → Bool
  | .str s => decide (s ∈ m.map (·.1))
  | _ => false
theorem pin_en (m : Nd) (s : Str) : PinX [.str s, enc m] = some (false, .bl (decide (s ∈ m.map (·.1)))) := by rw [pin_sd, en_keys]
theorem pnotin_en (m : Nd) (s : Str) : PnotInX [.str s, enc m] = some (false, .bl (!decide (s ∈ m.map (·.1)))) := by rw [pnotin_sd, en_keys]
theorem pix_en (m : Nd) (s : Str) (h : s ∈ m.map (·.1)) : Pix [enc m, .str s] = some (false, .tup ((getN m s).map .str)) := by
  obtain ⟨v, e⟩ := lookup_some h
  rw [pix_sd, en_get, getN, e]; rfl
theorem known_all {m : Nd} {xs : List Val} (h : xs.all (known m) = true) : ∃ ss : List Str, xs = ss.map .str ∧ ∀ s ∈ ss, s ∈ m.map (·.1) := by
  induction xs with
  | nil => exact ⟨[], rfl, by simp⟩
  | cons x xs ih =>
    simp only [List.all_cons, Bool.and_eq_true] at h
    obtain ⟨ss, rfl, h2⟩ := ih h.2
    cases x with
    | str s => exact ⟨s :: ss, rfl, fun y hy => (List.mem_cons.mp hy).elim (fun z => by rw [z]; exact of_decide_eq_true h.1) (h2 y)⟩
    | _ => exact absurd h.1 (by simp [known])
theorem cut1 {α : Type} (xs : List α) : cutA xs (some 1) none = xs.drop 1 := cut_from xs 1
theorem is_ring_wp {m : Nd} {v : Val} {K : GR → Prop} (hv : Thing v) (q : K (.ok false (.bl (ringOf m v)) none)) : wG g_is_ring [(false, enc m), (false, v)] K := by
  unfold g_is_ring
  rw [wG_run (by rfl) (by simp [ownIx])]
  unfold b_is_ring
  have tupcase : ∀ xs : List Val, v = .tup xs → xs.length ≤ 100 → (∀ x ∈ xs, (tyOf x).isSome = true) → wS b_is_ring [some (false, enc m), some (false, v), none, none] (kdef [(false, enc m), (false, v)] K) := by
    intro xs e hl hty
    subst e
    unfold b_is_ring
    simp? only [isi_tt, peqI]
    by_cases h0 : xs = []
    · subst h0
      simpa [M.tyOf_e1, M.tyOf_e2, M.tyOf_e3, M.tyOf_e4, M.tyOf_e5, M.tyOf_e6, M.tyOf_e7, M.tyOf_e8, M.itemsOf_e1, M.itemsOf_e2, M.itemsOf_e3, M.itemsOf_e4, M.itemsOf_e5, M.Plen_e1, M.Plen_e2, M.Plen_e3, M.Plen_e4, M.Plist_e1, M.Plist_e2, M.Plist_e3, M.Ptuple_e1, M.Ptuple_e2, M.Pgt, M.Pge, M.Plt, M.Ple, M.cmpI_e1, M.Pint_e1, M.Pint_e2, M.Pneg_e1, M.Prev_e1, M.PrevX_e1, M.wE_cst, M.wE_var, M.wE_mv, M.wE_frz, M.wO_V, M.wO_S, M.wOs_nil, M.wOs_cons, M.wE_prim, M.wB_tst, M.wB_and, M.wB_or, M.wB_not, M.wB_yes, M.wE_andV, M.wE_orV, M.wE_notV, M.wE_ite, M.wA_nil, M.wA_cons, M.wA_star, M.wE_tup, M.wE_lst, M.wE_call, M.wS_seq, M.wS_skip, M.wS_brk, M.wS_cont, M.wS_asg, M.wS_drop, M.wS_ret, M.wS_if, M.wS_aug, M.wI_V, M.wI_R, M.wI_zip, M.wS_for, M.wE_lc, M.wP_no, M.wP_int, M.wE_slc, M.wE_chn, M.wO_Ty, M.wE_mut, M.wS_setIx, M.wE_dNew, M.wD_nil, M.wD_cons, M.wE_dsp, M.wE_lenSet, M.wS_asg2, M.wS_asgT, M.wOs_app, M.wOs_N, M.wOs_pick, M.kvar_e1, M.kvar_e2, M.kvar_e3, M.kmv_e1, M.kmv_e2, M.kfrz_e1, M.kfrz_e2, M.kfrz_e3, M.koV_e1, M.koV_e2, M.koV_e3, M.koS_e1, M.koS_e2, M.kcons2_e1, M.kcons2_e2, M.kcons2_e3, M.kcons_e1, M.kcons_e2, M.kcons_e3, M.kp2_e1, M.kp2_e2, M.kp1_e1, M.kp1_e2, M.kprim_e1, M.kprim_e2, M.kprim_e3, M.ktst_e1, M.ktst_e2, M.ktst_e3, M.ktst_e4, M.kand_e1, M.kand_e2, M.kor_e1, M.kor_e2, M.knot_e1, M.knot_e2, M.kandV_e1, M.kandV_e2, M.kandV_e3, M.kandV_e4, M.korV_e1, M.korV_e2, M.korV_e3, M.korV_e4, M.knotV_e1, M.knotV_e2, M.knotV_e3, M.kite_e1, M.kite_e2, M.kite_e3, M.kite_e4, M.kac2_e1, M.kac2_e2, M.kac2_e3, M.kac_e1, M.kac_e2, M.kac_e3, M.kstar2_e1, M.kstar2_e2, M.kstar2_e3, M.kstar1_e1, M.kstar1_e2, M.kstar_e1, M.kstar_e2, M.kstar_e3, M.ktup_e1, M.ktup_e2, M.ktup_e3, M.klst_e1, M.klst_e2, M.klst_e3, M.kback_e1, M.kback_e2, M.kback_e3, M.kc1_e1, M.kc1_e2, M.kcall_e1, M.kcall_e2, M.kcall_e3, M.kd1_e1, M.kd1_e2, M.kd2_e1, M.kd2_e2, M.kd3_e1, M.kd3_e2, M.kdef_e1, M.kdef_e2, M.kdef_e3, M.kdef_e4, M.kseq_e1, M.kseq_e2, M.kasg_e1, M.kasg_e2, M.kasg_e3, M.kdrop_e1, M.kdrop_e2, M.kdrop_e3, M.kret_e1, M.kret_e2, M.kret_e3, M.kif_e1, M.kif_e2, M.kif_e3, M.kif_e4, M.kaug2_e1, M.kaug2_e2, M.kaug2_e3, M.kaug2_e4, M.kaug_e1, M.kaug_e2, M.kitV1_e1, M.kitV1_e2, M.kitV_e1, M.kitV_e2, M.kitV_e3, M.kitR_e1, M.kitR_e2, M.kitR_e3, M.kfor_e1, M.kfor_e2, M.kfor_e3, M.kT_e1, M.kT_e2, M.kTurn_e1, M.kTurn_e2, M.kTurn_e3, M.kTurn_e4, M.kTurnW_e1, M.kTurnW_e2, M.kTurnW_e3, M.kTurnW_e4, M.klc2_e1, M.klc2_e2, M.klc_e1, M.klc_e2, M.klc_e3, M.kU2_e1, M.kU2_e2, M.kU1_e1, M.kU1_e2, M.kU1_e3, M.kU0_e1, M.kU0_e2, M.kpInt_e1, M.kpInt_e2, M.kpInt_e3, M.kpInt_e4, M.ksl4_e1, M.ksl4_e2, M.ksl3_e1, M.ksl3_e2, M.ksl3_e3, M.ksl2_e1, M.ksl2_e2, M.ksl2_e3, M.ksl1_e1, M.ksl1_e2, M.ksl1_e3, M.kch5_e1, M.kch5_e2, M.kch4_e1, M.kch4_e2, M.kch3b_e1, M.kch3b_e2, M.kch3b_e3, M.kch3_e1, M.kch3_e2, M.kch3_e3, M.kch2_e1, M.kch2_e2, M.kch1_e1, M.kch1_e2, M.kch1_e3, M.kch0_e1, M.kch0_e2, M.kch0_e3, M.koTy2_e1, M.koTy2_e2, M.koTy_e1, M.koTy_e2, M.koTy_e3, M.kmu3_e1, M.kmu3_e2, M.kmu2_e1, M.kmu2_e2, M.kmu1_e1, M.kmu1_e2, M.kmu1_e3, M.kmu_e1, M.kmu_e2, M.ksx4_e1, M.ksx4_e2, M.ksx3_e1, M.ksx3_e2, M.ksx2_e1, M.ksx2_e2, M.ksx2_e3, M.ksx1_e1, M.ksx1_e2, M.ksx_e1, M.ksx_e2, M.ksx_e3, M.kdp3_e1, M.kdp3_e2, M.kdp2_e1, M.kdp2_e2, M.kdp2_e3, M.kdp1_e1, M.kdp1_e2, M.kdp1_e3, M.kds2_e1, M.kds2_e2, M.kds_e1, M.kds_e2, M.kds_e3, M.kls2_e1, M.kls2_e2, M.kls_e1, M.kls_e2, M.kls_e3, M.kls_e4, M.kas2_e1, M.kas2_e2, M.kas2_e3, M.kas2_e4, M.kasT2_e1, M.kasT2_e2, M.kasT_e1, M.kasT_e2, M.kasT_e3, M.kapp2_e1, M.kapp2_e2, M.kapp2_e3, M.kapp_e1, M.kapp_e2, M.kapp_e3, M.kN_e1, M.kN_e2, M.kN_e3, M.kpick2_e1, M.kpick2_e2, M.kpick_e1, M.kpick_e2, M.kpick_e3, M.getAll, M.Hd.get, M.ownIx, M.outOf, M.lend, M.lentIx, M.back, M.lents, M.tgN, M.tgT, M.tgCons, M.tgNil, M.wipeR, M.restR, List.getElem?_cons_zero, List.getElem?_cons_succ, List.set_cons_zero, List.set_cons_succ, List.map_cons, List.map_nil, List.replicate_succ, List.replicate_zero, List.length_cons, List.length_nil, List.nil_append, List.cons_append, List.append_nil, List.filter_cons, List.filter_nil, Nat.reduceAdd, Nat.reduceSub, Nat.reduceLeDiff, Nat.reduceEqDiff, ↓reduceIte, if_true, if_false, Bool.false_eq_true, Option.map_some, Option.map_none, Option.getD_some, Option.getD_none, and_true, true_and, and_self, reduceCtorEq, Option.some.injEq, Bool.not_true, Bool.not_false, Nat.le_refl, M.wO_Cl, M.wE_callM, M.wE_noX, M.wE_mkC, M.wE_mkD, M.wS_setFld, M.wS_never, M.wI_I, M.wI_E, M.wA_StD, M.wE_fstr, M.wF_nil, M.wF_cons, M.wE_dst, M.wE_dc, M.wI_Vs, M.wE_dc2, M.koCl1_e1, M.koCl1_e2, M.koCl_e1, M.koCl_e2, M.koCl_e3, M.kcm2_e1, M.kcm2_e2, M.kcm1_e1, M.kcm1_e2, M.kcm_e1, M.kcm_e2, M.kcm_e3, M.knoX_e1, M.knoX_e2, M.knoX_e3, M.kmk3_e1, M.kmk3_e2, M.kmk2_e1, M.kmk2_e2, M.kmk2_e3, M.kmk1_e1, M.kmk1_e2, M.kmk_e1, M.kmk_e2, M.kmk_e3, M.kmd1_e1, M.kmd1_e2, M.kmd_e1, M.kmd_e2, M.ksf1_e1, M.ksf1_e2, M.ksf_e1, M.ksf_e2, M.ksf_e3, M.kitI_e1, M.kitI_e2, M.kitI_e3, M.kitI_e4, M.kitE_e1, M.kitE_e2, M.kitE_e3, M.kitE_e4, M.kitE_e5, M.kasD2_e1, M.kasD2_e2, M.kasD2_e3, M.kasD_e1, M.kasD_e2, M.kasD_e3, M.kasD_e4, M.kF_e1, M.kF_e2, M.kF_e3, M.kF_e4, M.kdst4_e1, M.kdst4_e2, M.kdst3_e1, M.kdst3_e2, M.kdst3_e3, M.kdst2_e1, M.kdst2_e2, M.kdst2_e3, M.kdst1_e1, M.kdst1_e2, M.kdst1_e3, M.kdst1_e4, M.kdc2_e1, M.kdc2_e2, M.kdc_e1, M.kdc_e2, M.kdc_e3, M.kitVs_e1, M.kitVs_e2, M.kitVs_e3, M.kitVs_e4, M.kdcc_e1, M.kdcc_e2, M.kdcc_e3, M.lk1, M.pairsOf, M.wS_rai, M.krai_e1, M.krai_e2, M.krai_e3, M.krai2_e1, M.krai2_e2, M.wS_try, M.ktry_ex, M.ktry_nx, M.ktry_rt, M.wH_nil, M.wH_cons, M.khn_t, M.khn_f, M.kend_nx0, M.kend_nx, M.kend_rt, M.wE_callB, M.kcallB_e1, M.kcallB_e2, M.kcallB_e3, M.kcb_t, M.kcb_f, M.kcb1_e1, M.kcb1_e2, M.kbb_e1, M.wS_rai0, M.wE_dun, M.kdu_ok, M.kdu_e2, M.kdu2_e1, M.kdu3_e1, M.kdu4_e1, M.wE_blX, M.kbl_f, M.kbl_t, M.wE_lnX, M.kln_e1, M.wO_Ob, M.koO_e1, M.koO_e2, M.koOb_e1, M.hd_f, M.hd_t, Option.bind_some, M.wOs_starA, M.ksta_e1, M.ksta_e2, M.ksta1_e1, M.ksta2_e1, M.seqOf_e1, M.seqOf_e2, M.wE_mkCS, M.kmkS_e1, M.kmkS_e2, M.wE_mkDS, M.kmdS_e1, M.kmdS1_e1, ringOf, asStrs, ringB] using q
    have hlen : 0 < xs.length := List.length_pos_iff.mpr h0
    have hlen' : ¬ ((xs.length : Int) = 0) := by omega
    simp? only [hlen', decide_false]
    refine wC_mapV (fun x => .bl (known m x)) (fun _ => true) xs (fun x hx => ⟨_, rfl, rfl, rfl, fun _ => ?_⟩) (by omega) ?_
    · by_cases hs : ∃ s, x = .str s
      · obtain ⟨s, rfl⟩ := hs
        simp? only [E1_is_ring, isi_ss, pin_en]
        exact ⟨_, _, rfl, rfl⟩
      · have hs' : ∀ s, x ≠ .str s := fun s z => hs ⟨s, z⟩
        simp? only [E1_is_ring, isi_notS (hty x hx) hs']
        cases x with
        | str s => exact absurd rfl (hs' s)
        | _ => exact ⟨_, _, rfl, rfl⟩
    rw [filter_yes]
    simp? only [pall_map]
    by_cases ha : xs.all (known m) = true
    · obtain ⟨ss, rfl, hk⟩ := known_all ha
      rw [List.length_map] at hl hlen
      have hl1000 : ss.length ≤ 1000 := by omega
      have hne : ss ≠ [] := fun z => by rw [z] at hlen; simp at hlen
      simp? only [ha, asStrs_map, List.length_map, hl1000, set_lt]
      by_cases hnd : ss.Nodup
      · have hr : (ss.map Val.str).drop 1 ++ [Val.str (ss.getD 0 default)] = (rot ss).map .str := by simp [rot]
        have h00 : Pix [.tup (ss.map .str), .int 0] = some (false, .str (ss.getD 0 default)) := by
          rw [pix_tstrs (by decide) (by simpa using hlen)]
          simp [List.getD_eq_getElem?_getD, hlen]
        have hrl : (rot ss).length = ss.length := by simp [rot]; omega
        have hrl2 : ((rot ss).map Val.str).length ≤ 100000 := by rw [List.length_map]; omega
        simp? only [hnd, decide_true, Psl, cut1, h00, hr, hrl2, zipOf, zipV_map]
        refine wC_map (fun p : Str × Str => .tup [.str p.1, .str p.2]) (fun p => .bl (decide (p.2 ∈ getN m p.1))) (fun _ => true) (ss.zip (rot ss)) (fun p hp => ⟨_, rfl, rfl, rfl, fun _ => ?_⟩) (by simp; omega) ?_
        · simp? only [E2_is_ring, pix_en m p.1 (hk _ (List.of_mem_zip hp).1), pin_tup]
          exact ⟨_, _, rfl, rfl⟩
        rw [filter_yes]
        simp? only [pall_map]
        have : ringOf m (.tup (ss.map .str)) = (ss.zip (rot ss)).all fun p => decide (p.2 ∈ getN m p.1) := by
          simp only [ringOf, asStrs_map, ringB]
          rw [decide_eq_true ⟨hne, hk, hnd⟩, Bool.true_and]
        rw [this] at q
        exact q
      · simp? only [hnd, decide_false]
        have : ringOf m (.tup (ss.map .str)) = false := by
          simp only [ringOf, asStrs_map, ringB]
          rw [decide_eq_false fun z => hnd z.2.2, Bool.false_and]
        rw [this] at q
        exact q
    · have ha' : xs.all (known m) = false := by simpa using ha
      simp? only [ha']
      have : ringOf m (.tup xs) = false := by
        simp only [ringOf]
        cases h : asStrs xs with
        | none => rfl
        | some ss =>
          have := asStrs_some h
          subst this
          simp only [ringB]
          rw [decide_eq_false fun z => ha ?_, Bool.false_and]
          rw [List.all_map, List.all_eq_true]
          intro s hs
          exact decide_eq_true (z.2.1 s hs)
      rw [this] at q
      exact q
  rcases hv with ⟨ss, rfl, hl, hc⟩ | ⟨xs, rfl, ho⟩ | ⟨h, n⟩
  · exact tupcase _ rfl (by simpa using hl) (fun x hx => by obtain ⟨s, _, rfl⟩ := List.mem_map.mp hx; rfl)
  · exact tupcase _ rfl ho.len ho.ty
  · simp? only [isi_not h n]
    have : ringOf m v = false := by
      cases v with
      | tup xs => exact absurd rfl (n xs)
      | _ => rfl
    rw [this] at q
    exact q
/-! the law's own look -/
theorem rot_get {ss : List Str} {k : Nat} (hk : k < ss.length) : (rot ss)[k]? = some (ss.getD ((k + 1) % ss.length) default) := by
  unfold rot
  rcases Nat.lt_or_ge (k + 1) ss.length with h | h
  · rw [List.getElem?_append_left (by simp; omega), Nat.mod_eq_of_lt h]
    simp [List.getD_eq_getElem?_getD, Nat.add_comm 1 k, h]
  · have e : k + 1 = ss.length := by omega
    rw [List.getElem?_append_right (by simp; omega), e, Nat.mod_self]
    have : k - (ss.drop 1).length = 0 := by simp; omega
    rw [this]; rfl
theorem zip_all {ss : List Str} {f : Str → Str → Bool} : ((ss.zip (rot ss)).all fun p => f p.1 p.2) = true ↔ ∀ k, k < ss.length → f (ss.getD k default) (ss.getD ((k + 1) % ss.length) default) = true := by
  rw [List.all_eq_true]
  have hrl : ss ≠ [] → (rot ss).length = ss.length := fun h => by
    have := List.length_pos_iff.mpr h
    simp [rot]; omega
  constructor
  · intro h k hk
    have hne : ss ≠ [] := fun z => by rw [z] at hk; simp at hk
    have := h (ss[k], (rot ss)[k]'(by rw [hrl hne]; exact hk)) (by
      rw [List.mem_iff_getElem]
      exact ⟨k, by rw [List.length_zip, hrl hne]; omega, by simp⟩)
    have e := rot_get hk
    rw [List.getElem?_eq_getElem (by rw [hrl hne]; exact hk)] at e
    have e := Option.some.inj e
    simp only [e] at this
    simpa [List.getD_eq_getElem?_getD, hk] using this
  · rintro h ⟨a, b⟩ hp
    obtain ⟨k, hk, e⟩ := List.mem_iff_getElem.mp hp
    rw [List.length_zip] at hk
    have hk1 : k < ss.length := by omega
    have hk2 : k < (rot ss).length := by omega
    simp only [List.getElem_zip, Prod.mk.injEq] at e
    have e2 := rot_get hk1
    rw [List.getElem?_eq_getElem hk2] at e2
    have := h k hk1
    obtain ⟨e3, e4⟩ := e
    simp only
    rw [← e3, ← e4, Option.some.inj e2]
    simpa [List.getD_eq_getElem?_getD, hk1] using this
theorem law_is_ring_wp {m : Nd} {v : Val} {K : GR → Prop} (hv : Thing v) (q : K (.ok false (.bl (ringOf m v)) none)) : wG g__law_is_ring [(false, enc m), (false, v)] K := by
  unfold g__law_is_ring
  rw [wG_run (by rfl) (by simp [ownIx])]
  unfold b__law_is_ring
  have tupcase : ∀ xs : List Val, v = .tup xs → xs.length ≤ 100 → (∀ x ∈ xs, (tyOf x).isSome = true) → PeqX [.tup xs, .tup []] = some (false, .bl (decide (xs = []))) → wS b__law_is_ring [some (false, enc m), some (false, v), none] (kdef [(false, enc m), (false, v)] K) := by
    intro xs e hl hty hpe
    subst e
    unfold b__law_is_ring
    simp? only [isi_tt, hpe]
    by_cases h0 : xs = []
    · subst h0
      simpa [M.tyOf_e1, M.tyOf_e2, M.tyOf_e3, M.tyOf_e4, M.tyOf_e5, M.tyOf_e6, M.tyOf_e7, M.tyOf_e8, M.itemsOf_e1, M.itemsOf_e2, M.itemsOf_e3, M.itemsOf_e4, M.itemsOf_e5, M.Plen_e1, M.Plen_e2, M.Plen_e3, M.Plen_e4, M.Plist_e1, M.Plist_e2, M.Plist_e3, M.Ptuple_e1, M.Ptuple_e2, M.Pgt, M.Pge, M.Plt, M.Ple, M.cmpI_e1, M.Pint_e1, M.Pint_e2, M.Pneg_e1, M.Prev_e1, M.PrevX_e1, M.wE_cst, M.wE_var, M.wE_mv, M.wE_frz, M.wO_V, M.wO_S, M.wOs_nil, M.wOs_cons, M.wE_prim, M.wB_tst, M.wB_and, M.wB_or, M.wB_not, M.wB_yes, M.wE_andV, M.wE_orV, M.wE_notV, M.wE_ite, M.wA_nil, M.wA_cons, M.wA_star, M.wE_tup, M.wE_lst, M.wE_call, M.wS_seq, M.wS_skip, M.wS_brk, M.wS_cont, M.wS_asg, M.wS_drop, M.wS_ret, M.wS_if, M.wS_aug, M.wI_V, M.wI_R, M.wI_zip, M.wS_for, M.wE_lc, M.wP_no, M.wP_int, M.wE_slc, M.wE_chn, M.wO_Ty, M.wE_mut, M.wS_setIx, M.wE_dNew, M.wD_nil, M.wD_cons, M.wE_dsp, M.wE_lenSet, M.wS_asg2, M.wS_asgT, M.wOs_app, M.wOs_N, M.wOs_pick, M.kvar_e1, M.kvar_e2, M.kvar_e3, M.kmv_e1, M.kmv_e2, M.kfrz_e1, M.kfrz_e2, M.kfrz_e3, M.koV_e1, M.koV_e2, M.koV_e3, M.koS_e1, M.koS_e2, M.kcons2_e1, M.kcons2_e2, M.kcons2_e3, M.kcons_e1, M.kcons_e2, M.kcons_e3, M.kp2_e1, M.kp2_e2, M.kp1_e1, M.kp1_e2, M.kprim_e1, M.kprim_e2, M.kprim_e3, M.ktst_e1, M.ktst_e2, M.ktst_e3, M.ktst_e4, M.kand_e1, M.kand_e2, M.kor_e1, M.kor_e2, M.knot_e1, M.knot_e2, M.kandV_e1, M.kandV_e2, M.kandV_e3, M.kandV_e4, M.korV_e1, M.korV_e2, M.korV_e3, M.korV_e4, M.knotV_e1, M.knotV_e2, M.knotV_e3, M.kite_e1, M.kite_e2, M.kite_e3, M.kite_e4, M.kac2_e1, M.kac2_e2, M.kac2_e3, M.kac_e1, M.kac_e2, M.kac_e3, M.kstar2_e1, M.kstar2_e2, M.kstar2_e3, M.kstar1_e1, M.kstar1_e2, M.kstar_e1, M.kstar_e2, M.kstar_e3, M.ktup_e1, M.ktup_e2, M.ktup_e3, M.klst_e1, M.klst_e2, M.klst_e3, M.kback_e1, M.kback_e2, M.kback_e3, M.kc1_e1, M.kc1_e2, M.kcall_e1, M.kcall_e2, M.kcall_e3, M.kd1_e1, M.kd1_e2, M.kd2_e1, M.kd2_e2, M.kd3_e1, M.kd3_e2, M.kdef_e1, M.kdef_e2, M.kdef_e3, M.kdef_e4, M.kseq_e1, M.kseq_e2, M.kasg_e1, M.kasg_e2, M.kasg_e3, M.kdrop_e1, M.kdrop_e2, M.kdrop_e3, M.kret_e1, M.kret_e2, M.kret_e3, M.kif_e1, M.kif_e2, M.kif_e3, M.kif_e4, M.kaug2_e1, M.kaug2_e2, M.kaug2_e3, M.kaug2_e4, M.kaug_e1, M.kaug_e2, M.kitV1_e1, M.kitV1_e2, M.kitV_e1, M.kitV_e2, M.kitV_e3, M.kitR_e1, M.kitR_e2, M.kitR_e3, M.kfor_e1, M.kfor_e2, M.kfor_e3, M.kT_e1, M.kT_e2, M.kTurn_e1, M.kTurn_e2, M.kTurn_e3, M.kTurn_e4, M.kTurnW_e1, M.kTurnW_e2, M.kTurnW_e3, M.kTurnW_e4, M.klc2_e1, M.klc2_e2, M.klc_e1, M.klc_e2, M.klc_e3, M.kU2_e1, M.kU2_e2, M.kU1_e1, M.kU1_e2, M.kU1_e3, M.kU0_e1, M.kU0_e2, M.kpInt_e1, M.kpInt_e2, M.kpInt_e3, M.kpInt_e4, M.ksl4_e1, M.ksl4_e2, M.ksl3_e1, M.ksl3_e2, M.ksl3_e3, M.ksl2_e1, M.ksl2_e2, M.ksl2_e3, M.ksl1_e1, M.ksl1_e2, M.ksl1_e3, M.kch5_e1, M.kch5_e2, M.kch4_e1, M.kch4_e2, M.kch3b_e1, M.kch3b_e2, M.kch3b_e3, M.kch3_e1, M.kch3_e2, M.kch3_e3, M.kch2_e1, M.kch2_e2, M.kch1_e1, M.kch1_e2, M.kch1_e3, M.kch0_e1, M.kch0_e2, M.kch0_e3, M.koTy2_e1, M.koTy2_e2, M.koTy_e1, M.koTy_e2, M.koTy_e3, M.kmu3_e1, M.kmu3_e2, M.kmu2_e1, M.kmu2_e2, M.kmu1_e1, M.kmu1_e2, M.kmu1_e3, M.kmu_e1, M.kmu_e2, M.ksx4_e1, M.ksx4_e2, M.ksx3_e1, M.ksx3_e2, M.ksx2_e1, M.ksx2_e2, M.ksx2_e3, M.ksx1_e1, M.ksx1_e2, M.ksx_e1, M.ksx_e2, M.ksx_e3, M.kdp3_e1, M.kdp3_e2, M.kdp2_e1, M.kdp2_e2, M.kdp2_e3, M.kdp1_e1, M.kdp1_e2, M.kdp1_e3, M.kds2_e1, M.kds2_e2, M.kds_e1, M.kds_e2, M.kds_e3, M.kls2_e1, M.kls2_e2, M.kls_e1, M.kls_e2, M.kls_e3, M.kls_e4, M.kas2_e1, M.kas2_e2, M.kas2_e3, M.kas2_e4, M.kasT2_e1, M.kasT2_e2, M.kasT_e1, M.kasT_e2, M.kasT_e3, M.kapp2_e1, M.kapp2_e2, M.kapp2_e3, M.kapp_e1, M.kapp_e2, M.kapp_e3, M.kN_e1, M.kN_e2, M.kN_e3, M.kpick2_e1, M.kpick2_e2, M.kpick_e1, M.kpick_e2, M.kpick_e3, M.getAll, M.Hd.get, M.ownIx, M.outOf, M.lend, M.lentIx, M.back, M.lents, M.tgN, M.tgT, M.tgCons, M.tgNil, M.wipeR, M.restR, List.getElem?_cons_zero, List.getElem?_cons_succ, List.set_cons_zero, List.set_cons_succ, List.map_cons, List.map_nil, List.replicate_succ, List.replicate_zero, List.length_cons, List.length_nil, List.nil_append, List.cons_append, List.append_nil, List.filter_cons, List.filter_nil, Nat.reduceAdd, Nat.reduceSub, Nat.reduceLeDiff, Nat.reduceEqDiff, ↓reduceIte, if_true, if_false, Bool.false_eq_true, Option.map_some, Option.map_none, Option.getD_some, Option.getD_none, and_true, true_and, and_self, reduceCtorEq, Option.some.injEq, Bool.not_true, Bool.not_false, Nat.le_refl, M.wO_Cl, M.wE_callM, M.wE_noX, M.wE_mkC, M.wE_mkD, M.wS_setFld, M.wS_never, M.wI_I, M.wI_E, M.wA_StD, M.wE_fstr, M.wF_nil, M.wF_cons, M.wE_dst, M.wE_dc, M.wI_Vs, M.wE_dc2, M.koCl1_e1, M.koCl1_e2, M.koCl_e1, M.koCl_e2, M.koCl_e3, M.kcm2_e1, M.kcm2_e2, M.kcm1_e1, M.kcm1_e2, M.kcm_e1, M.kcm_e2, M.kcm_e3, M.knoX_e1, M.knoX_e2, M.knoX_e3, M.kmk3_e1, M.kmk3_e2, M.kmk2_e1, M.kmk2_e2, M.kmk2_e3, M.kmk1_e1, M.kmk1_e2, M.kmk_e1, M.kmk_e2, M.kmk_e3, M.kmd1_e1, M.kmd1_e2, M.kmd_e1, M.kmd_e2, M.ksf1_e1, M.ksf1_e2, M.ksf_e1, M.ksf_e2, M.ksf_e3, M.kitI_e1, M.kitI_e2, M.kitI_e3, M.kitI_e4, M.kitE_e1, M.kitE_e2, M.kitE_e3, M.kitE_e4, M.kitE_e5, M.kasD2_e1, M.kasD2_e2, M.kasD2_e3, M.kasD_e1, M.kasD_e2, M.kasD_e3, M.kasD_e4, M.kF_e1, M.kF_e2, M.kF_e3, M.kF_e4, M.kdst4_e1, M.kdst4_e2, M.kdst3_e1, M.kdst3_e2, M.kdst3_e3, M.kdst2_e1, M.kdst2_e2, M.kdst2_e3, M.kdst1_e1, M.kdst1_e2, M.kdst1_e3, M.kdst1_e4, M.kdc2_e1, M.kdc2_e2, M.kdc_e1, M.kdc_e2, M.kdc_e3, M.kitVs_e1, M.kitVs_e2, M.kitVs_e3, M.kitVs_e4, M.kdcc_e1, M.kdcc_e2, M.kdcc_e3, M.lk1, M.pairsOf, M.wS_rai, M.krai_e1, M.krai_e2, M.krai_e3, M.krai2_e1, M.krai2_e2, M.wS_try, M.ktry_ex, M.ktry_nx, M.ktry_rt, M.wH_nil, M.wH_cons, M.khn_t, M.khn_f, M.kend_nx0, M.kend_nx, M.kend_rt, M.wE_callB, M.kcallB_e1, M.kcallB_e2, M.kcallB_e3, M.kcb_t, M.kcb_f, M.kcb1_e1, M.kcb1_e2, M.kbb_e1, M.wS_rai0, M.wE_dun, M.kdu_ok, M.kdu_e2, M.kdu2_e1, M.kdu3_e1, M.kdu4_e1, M.wE_blX, M.kbl_f, M.kbl_t, M.wE_lnX, M.kln_e1, M.wO_Ob, M.koO_e1, M.koO_e2, M.koOb_e1, M.hd_f, M.hd_t, Option.bind_some, M.wOs_starA, M.ksta_e1, M.ksta_e2, M.ksta1_e1, M.ksta2_e1, M.seqOf_e1, M.seqOf_e2, M.wE_mkCS, M.kmkS_e1, M.kmkS_e2, M.wE_mkDS, M.kmdS_e1, M.kmdS1_e1, ringOf, asStrs, ringB] using q
    have hlen : 0 < xs.length := List.length_pos_iff.mpr h0
    simp? only [h0, decide_false, rng_nat xs.length (by omega)]
    have isF : ringOf m (.tup xs) = false → K (.ok false (.bl false) none) := fun h => by
      rw [h] at q
      exact q
    obtain ⟨I, hI⟩ : ∃ I : List Val → M.Env → Prop, I = fun vs r => ∃ (k : Nat) (b2 : M.Slot), vs = (nums xs.length).drop k ∧ k ≤ xs.length ∧ (∀ i < k, ∃ s, xs[i]? = some (.str s) ∧ s ∈ m.map (·.1) ∧ ∀ j < i, xs[j]? ≠ some (.str s)) ∧ r = [some (false, enc m), some (false, .tup xs), b2] := ⟨_, rfl⟩
    refine wL_inv I ?_ ?_ _ _ (by rw [hI]; exact ⟨0, none, rfl, by omega, by simp, rfl⟩)
    · intro v vs r h
      rw [hI] at h
      obtain ⟨k, b2, e, hk, hs, rfl⟩ := h
      obtain ⟨hk2, rfl, rfl⟩ := drop_step e
      rw [nums_get]
      rw [nums_len] at hk2
      have hx := pix_tup (xs := xs) (i := (k : Int)) (by omega) (by simpa using hk2)
      simp only [Int.toNat_natCast] at hx
      simp only [M.kT, M.tgN, List.set_cons_succ, List.set_cons_zero, L1__law_is_ring]
      by_cases h1 : ∃ s, xs[k] = .str s
      · obtain ⟨s, es⟩ := h1
        rw [es] at hx
        have htk : xs.take k = ((xs.take k).map unstr).map .str := by
          rw [List.map_map]
          refine ((List.map_congr_left fun y hy => ?_).trans (List.map_id _)).symm
          obtain ⟨i, hi, rfl⟩ := List.mem_take_iff_getElem.mp hy
          obtain ⟨t, e2, _⟩ := hs i (by omega)
          rw [List.getElem?_eq_getElem (by omega)] at e2
          rw [Option.some.inj e2]; rfl
        have hmem : s ∈ (xs.take k).map unstr ↔ ∃ j < k, xs[j]? = some (.str s) := by
          rw [List.mem_map]
          constructor
          · rintro ⟨y, hy, e2⟩
            obtain ⟨i, hi, rfl⟩ := List.mem_take_iff_getElem.mp hy
            obtain ⟨t, e3, _⟩ := hs i (by omega)
            have e4 := e3
            rw [List.getElem?_eq_getElem (by omega)] at e4
            rw [Option.some.inj e4] at e2
            exact ⟨i, by omega, by rw [e3, ← e2]; rfl⟩
          · rintro ⟨j, hj, e2⟩
            refine ⟨.str s, ?_, rfl⟩
            rw [List.mem_take_iff_getElem]
            rw [List.getElem?_eq_getElem (by omega)] at e2
            exact ⟨j, by omega, Option.some.inj e2⟩
        simp? only [hx, isi_ss, pnotin_en]
        by_cases h2 : s ∈ m.map (·.1)
        · simp? only [h2, decide_true, Psl, cut_to, hx]
          rw [htk]
          simp? only [pin_tup]
          by_cases h3 : s ∈ (xs.take k).map unstr
          · simp? only [h3, decide_true]
            refine isF ?_
            obtain ⟨j, hj, e2⟩ := hmem.mp h3
            simp only [ringOf]
            cases h : asStrs xs with
            | none => rfl
            | some ss =>
              have := asStrs_some h
              subst this
              simp only [ringB]
              rw [decide_eq_false fun z => ?_, Bool.false_and]
              have z := z.2.2
              rw [List.length_map] at hk2
              simp only [List.getElem_map, Val.str.injEq] at es
              rw [List.getElem?_map, List.getElem?_eq_getElem (by omega)] at e2
              have e2 := Val.str.inj (Option.some.inj e2)
              have := (List.getElem_inj z).mp (e2.trans es.symm)
              omega
          · simp? only [h3, decide_false]
            rw [hI]
            refine ⟨k + 1, _, rfl, hk2, fun i hi => ?_, rfl⟩
            rcases Nat.lt_succ_iff_lt_or_eq.mp hi with z | z
            · exact hs i z
            · subst z
              exact ⟨s, by rw [List.getElem?_eq_getElem hk2, es], h2, fun j hj e3 => h3 (hmem.mpr ⟨j, hj, e3⟩)⟩
        · simp? only [h2, decide_false]
          refine isF ?_
          simp only [ringOf]
          cases h : asStrs xs with
          | none => rfl
          | some ss =>
            have := asStrs_some h
            subst this
            simp only [ringB]
            simp only [List.getElem_map, Val.str.injEq] at es
            have hms : s ∈ ss := es ▸ List.getElem_mem _
            rw [decide_eq_false fun z => h2 (z.2.1 s hms), Bool.false_and]
      · have h1' : ∀ s, xs[k] ≠ .str s := fun s z => h1 ⟨s, z⟩
        simp? only [hx, isi_notS (hty _ (List.getElem_mem hk2)) h1']
        refine isF ?_
        simp only [ringOf]
        cases h : asStrs xs with
        | none => rfl
        | some ss =>
          have := asStrs_some h
          subst this
          exact absurd (List.getElem_map ..) (h1' _)
    · intro r h
      rw [hI] at h
      obtain ⟨k, b2, e, hk, hs, rfl⟩ := h
      have hk2 := drop_end e (by rw [nums_len]; exact hk)
      rw [nums_len] at hk2
      subst hk2
      clear hI I
      have hss : ∃ ss : List Str, xs = ss.map .str := by
        refine ⟨xs.map unstr, ?_⟩
        rw [List.map_map]
        refine ((List.map_congr_left fun y hy => ?_).trans (List.map_id _)).symm
        obtain ⟨i, hi, rfl⟩ := List.mem_iff_getElem.mp hy
        obtain ⟨t, e2, _⟩ := hs i hi
        rw [List.getElem?_eq_getElem hi] at e2
        rw [Option.some.inj e2]; rfl
      obtain ⟨ss, rfl⟩ := hss
      rw [List.length_map] at hl hlen hs
      have hne : ss ≠ [] := fun z => by rw [z] at hlen; simp at hlen
      have hkeys : ∀ s ∈ ss, s ∈ m.map (·.1) := fun s hsm => by
        obtain ⟨i, hi, rfl⟩ := List.mem_iff_getElem.mp hsm
        obtain ⟨t, e2, h2, _⟩ := hs i hi
        rw [List.getElem?_map, List.getElem?_eq_getElem hi] at e2
        rw [Val.str.inj (Option.some.inj e2)]; exact h2
      have hnd : ss.Nodup := by
        rw [List.nodup_iff_pairwise_ne, List.pairwise_iff_getElem]
        intro i j hi hj hij e2
        obtain ⟨t, e3, _, h3⟩ := hs j hj
        rw [List.getElem?_map, List.getElem?_eq_getElem hj] at e3
        refine h3 i hij ?_
        rw [List.getElem?_map, List.getElem?_eq_getElem hi, ← e3, e2]
      have hring : ringOf m (.tup (ss.map .str)) = (ss.zip (rot ss)).all fun p => decide (p.2 ∈ getN m p.1) := by
        simp only [ringOf, asStrs_map, ringB]
        rw [decide_eq_true ⟨hne, hkeys, hnd⟩, Bool.true_and]
      rw [hring] at isF q
      simp? only [List.length_map, rng_nat ss.length (by omega)]
      obtain ⟨I, hI⟩ : ∃ I : List Val → M.Env → Prop, I = fun vs r => ∃ (k : Nat) (b2 : M.Slot), vs = (nums ss.length).drop k ∧ k ≤ ss.length ∧ (∀ i < k, ss.getD ((i + 1) % ss.length) default ∈ getN m (ss.getD i default)) ∧ r = [some (false, enc m), some (false, .tup (ss.map .str)), b2] := ⟨_, rfl⟩
      refine wL_inv I ?_ ?_ _ _ (by rw [hI]; exact ⟨0, b2, rfl, by omega, by simp, rfl⟩)
      · intro v vs r h
        rw [hI] at h
        obtain ⟨k, b3, e, hk, hs2, rfl⟩ := h
        obtain ⟨hk2, rfl, rfl⟩ := drop_step e
        rw [nums_get]
        rw [nums_len] at hk2
        have hgd : ∀ i (hi : i < ss.length), ss[i] = ss.getD i default := fun i hi => by simp [List.getD_eq_getElem?_getD, hi]
        have hx := pix_tstrs (ss := ss) (i := (k : Int)) (by omega) (by simpa using hk2)
        simp only [Int.toNat_natCast, hgd] at hx
        obtain ⟨j, hj, hlt, hm2⟩ : ∃ j : Nat, j = (k + 1) % ss.length ∧ j < ss.length ∧ ((k : Int) + 1) % (ss.length : Int) = (j : Int) := ⟨_, rfl, Nat.mod_lt _ (by omega), by rw [Int.natCast_emod]; rfl⟩
        have hx2 := pix_tstrs (ss := ss) (i := (j : Int)) (by omega) (by simpa using hlt)
        simp only [Int.toNat_natCast, hgd] at hx2
        have hkey := hkeys (ss.getD k default) (by rw [← hgd k hk2]; exact List.getElem_mem hk2)
        simp only [M.kT, M.tgN, List.set_cons_succ, List.set_cons_zero, L2__law_is_ring]
        simp? only [Padd, List.length_map, pmodI (show (0 : Int) < (ss.length : Int) by omega), hm2, hx, hx2, pix_en m _ hkey, pnotin_tup]
        by_cases h4 : ss.getD j default ∈ getN m (ss.getD k default)
        · simp? only [h4, decide_true]
          rw [hI]
          refine ⟨k + 1, _, rfl, hk2, fun i hi => ?_, rfl⟩
          rcases Nat.lt_succ_iff_lt_or_eq.mp hi with z | z
          · exact hs2 i z
          · subst z; rw [← hj]; exact h4
        · simp? only [h4, decide_false]
          refine isF ?_
          rw [Bool.eq_false_iff]
          intro z
          rw [hj] at h4
          exact h4 (of_decide_eq_true ((zip_all (f := fun a b => decide (b ∈ getN m a))).mp z k hk2))
      · intro r h
        rw [hI] at h
        obtain ⟨k, b3, e, hk, hs2, rfl⟩ := h
        have hk2 := drop_end e (by rw [nums_len]; exact hk)
        rw [nums_len] at hk2
        subst hk2
        have : ((ss.zip (rot ss)).all fun p => decide (p.2 ∈ getN m p.1)) = true := (zip_all (f := fun a b => decide (b ∈ getN m a))).mpr fun k hk => decide_eq_true (hs2 k hk)
        rw [this] at q
        simpa only [M.tyOf_e1, M.tyOf_e2, M.tyOf_e3, M.tyOf_e4, M.tyOf_e5, M.tyOf_e6, M.tyOf_e7, M.tyOf_e8, M.itemsOf_e1, M.itemsOf_e2, M.itemsOf_e3, M.itemsOf_e4, M.itemsOf_e5, M.Plen_e1, M.Plen_e2, M.Plen_e3, M.Plen_e4, M.Plist_e1, M.Plist_e2, M.Plist_e3, M.Ptuple_e1, M.Ptuple_e2, M.Pgt, M.Pge, M.Plt, M.Ple, M.cmpI_e1, M.Pint_e1, M.Pint_e2, M.Pneg_e1, M.Prev_e1, M.PrevX_e1, M.wE_cst, M.wE_var, M.wE_mv, M.wE_frz, M.wO_V, M.wO_S, M.wOs_nil, M.wOs_cons, M.wE_prim, M.wB_tst, M.wB_and, M.wB_or, M.wB_not, M.wB_yes, M.wE_andV, M.wE_orV, M.wE_notV, M.wE_ite, M.wA_nil, M.wA_cons, M.wA_star, M.wE_tup, M.wE_lst, M.wE_call, M.wS_seq, M.wS_skip, M.wS_brk, M.wS_cont, M.wS_asg, M.wS_drop, M.wS_ret, M.wS_if, M.wS_aug, M.wI_V, M.wI_R, M.wI_zip, M.wS_for, M.wE_lc, M.wP_no, M.wP_int, M.wE_slc, M.wE_chn, M.wO_Ty, M.wE_mut, M.wS_setIx, M.wE_dNew, M.wD_nil, M.wD_cons, M.wE_dsp, M.wE_lenSet, M.wS_asg2, M.wS_asgT, M.wOs_app, M.wOs_N, M.wOs_pick, M.kvar_e1, M.kvar_e2, M.kvar_e3, M.kmv_e1, M.kmv_e2, M.kfrz_e1, M.kfrz_e2, M.kfrz_e3, M.koV_e1, M.koV_e2, M.koV_e3, M.koS_e1, M.koS_e2, M.kcons2_e1, M.kcons2_e2, M.kcons2_e3, M.kcons_e1, M.kcons_e2, M.kcons_e3, M.kp2_e1, M.kp2_e2, M.kp1_e1, M.kp1_e2, M.kprim_e1, M.kprim_e2, M.kprim_e3, M.ktst_e1, M.ktst_e2, M.ktst_e3, M.ktst_e4, M.kand_e1, M.kand_e2, M.kor_e1, M.kor_e2, M.knot_e1, M.knot_e2, M.kandV_e1, M.kandV_e2, M.kandV_e3, M.kandV_e4, M.korV_e1, M.korV_e2, M.korV_e3, M.korV_e4, M.knotV_e1, M.knotV_e2, M.knotV_e3, M.kite_e1, M.kite_e2, M.kite_e3, M.kite_e4, M.kac2_e1, M.kac2_e2, M.kac2_e3, M.kac_e1, M.kac_e2, M.kac_e3, M.kstar2_e1, M.kstar2_e2, M.kstar2_e3, M.kstar1_e1, M.kstar1_e2, M.kstar_e1, M.kstar_e2, M.kstar_e3, M.ktup_e1, M.ktup_e2, M.ktup_e3, M.klst_e1, M.klst_e2, M.klst_e3, M.kback_e1, M.kback_e2, M.kback_e3, M.kc1_e1, M.kc1_e2, M.kcall_e1, M.kcall_e2, M.kcall_e3, M.kd1_e1, M.kd1_e2, M.kd2_e1, M.kd2_e2, M.kd3_e1, M.kd3_e2, M.kdef_e1, M.kdef_e2, M.kdef_e3, M.kdef_e4, M.kseq_e1, M.kseq_e2, M.kasg_e1, M.kasg_e2, M.kasg_e3, M.kdrop_e1, M.kdrop_e2, M.kdrop_e3, M.kret_e1, M.kret_e2, M.kret_e3, M.kif_e1, M.kif_e2, M.kif_e3, M.kif_e4, M.kaug2_e1, M.kaug2_e2, M.kaug2_e3, M.kaug2_e4, M.kaug_e1, M.kaug_e2, M.kitV1_e1, M.kitV1_e2, M.kitV_e1, M.kitV_e2, M.kitV_e3, M.kitR_e1, M.kitR_e2, M.kitR_e3, M.kfor_e1, M.kfor_e2, M.kfor_e3, M.kT_e1, M.kT_e2, M.kTurn_e1, M.kTurn_e2, M.kTurn_e3, M.kTurn_e4, M.kTurnW_e1, M.kTurnW_e2, M.kTurnW_e3, M.kTurnW_e4, M.klc2_e1, M.klc2_e2, M.klc_e1, M.klc_e2, M.klc_e3, M.kU2_e1, M.kU2_e2, M.kU1_e1, M.kU1_e2, M.kU1_e3, M.kU0_e1, M.kU0_e2, M.kpInt_e1, M.kpInt_e2, M.kpInt_e3, M.kpInt_e4, M.ksl4_e1, M.ksl4_e2, M.ksl3_e1, M.ksl3_e2, M.ksl3_e3, M.ksl2_e1, M.ksl2_e2, M.ksl2_e3, M.ksl1_e1, M.ksl1_e2, M.ksl1_e3, M.kch5_e1, M.kch5_e2, M.kch4_e1, M.kch4_e2, M.kch3b_e1, M.kch3b_e2, M.kch3b_e3, M.kch3_e1, M.kch3_e2, M.kch3_e3, M.kch2_e1, M.kch2_e2, M.kch1_e1, M.kch1_e2, M.kch1_e3, M.kch0_e1, M.kch0_e2, M.kch0_e3, M.koTy2_e1, M.koTy2_e2, M.koTy_e1, M.koTy_e2, M.koTy_e3, M.kmu3_e1, M.kmu3_e2, M.kmu2_e1, M.kmu2_e2, M.kmu1_e1, M.kmu1_e2, M.kmu1_e3, M.kmu_e1, M.kmu_e2, M.ksx4_e1, M.ksx4_e2, M.ksx3_e1, M.ksx3_e2, M.ksx2_e1, M.ksx2_e2, M.ksx2_e3, M.ksx1_e1, M.ksx1_e2, M.ksx_e1, M.ksx_e2, M.ksx_e3, M.kdp3_e1, M.kdp3_e2, M.kdp2_e1, M.kdp2_e2, M.kdp2_e3, M.kdp1_e1, M.kdp1_e2, M.kdp1_e3, M.kds2_e1, M.kds2_e2, M.kds_e1, M.kds_e2, M.kds_e3, M.kls2_e1, M.kls2_e2, M.kls_e1, M.kls_e2, M.kls_e3, M.kls_e4, M.kas2_e1, M.kas2_e2, M.kas2_e3, M.kas2_e4, M.kasT2_e1, M.kasT2_e2, M.kasT_e1, M.kasT_e2, M.kasT_e3, M.kapp2_e1, M.kapp2_e2, M.kapp2_e3, M.kapp_e1, M.kapp_e2, M.kapp_e3, M.kN_e1, M.kN_e2, M.kN_e3, M.kpick2_e1, M.kpick2_e2, M.kpick_e1, M.kpick_e2, M.kpick_e3, M.getAll, M.Hd.get, M.ownIx, M.outOf, M.lend, M.lentIx, M.back, M.lents, M.tgN, M.tgT, M.tgCons, M.tgNil, M.wipeR, M.restR, List.getElem?_cons_zero, List.getElem?_cons_succ, List.set_cons_zero, List.set_cons_succ, List.map_cons, List.map_nil, List.replicate_succ, List.replicate_zero, List.length_cons, List.length_nil, List.nil_append, List.cons_append, List.append_nil, List.filter_cons, List.filter_nil, Nat.reduceAdd, Nat.reduceSub, Nat.reduceLeDiff, Nat.reduceEqDiff, ↓reduceIte, if_true, if_false, Bool.false_eq_true, Option.map_some, Option.map_none, Option.getD_some, Option.getD_none, and_true, true_and, and_self, reduceCtorEq, Option.some.injEq, Bool.not_true, Bool.not_false, Nat.le_refl, M.wO_Cl, M.wE_callM, M.wE_noX, M.wE_mkC, M.wE_mkD, M.wS_setFld, M.wS_never, M.wI_I, M.wI_E, M.wA_StD, M.wE_fstr, M.wF_nil, M.wF_cons, M.wE_dst, M.wE_dc, M.wI_Vs, M.wE_dc2, M.koCl1_e1, M.koCl1_e2, M.koCl_e1, M.koCl_e2, M.koCl_e3, M.kcm2_e1, M.kcm2_e2, M.kcm1_e1, M.kcm1_e2, M.kcm_e1, M.kcm_e2, M.kcm_e3, M.knoX_e1, M.knoX_e2, M.knoX_e3, M.kmk3_e1, M.kmk3_e2, M.kmk2_e1, M.kmk2_e2, M.kmk2_e3, M.kmk1_e1, M.kmk1_e2, M.kmk_e1, M.kmk_e2, M.kmk_e3, M.kmd1_e1, M.kmd1_e2, M.kmd_e1, M.kmd_e2, M.ksf1_e1, M.ksf1_e2, M.ksf_e1, M.ksf_e2, M.ksf_e3, M.kitI_e1, M.kitI_e2, M.kitI_e3, M.kitI_e4, M.kitE_e1, M.kitE_e2, M.kitE_e3, M.kitE_e4, M.kitE_e5, M.kasD2_e1, M.kasD2_e2, M.kasD2_e3, M.kasD_e1, M.kasD_e2, M.kasD_e3, M.kasD_e4, M.kF_e1, M.kF_e2, M.kF_e3, M.kF_e4, M.kdst4_e1, M.kdst4_e2, M.kdst3_e1, M.kdst3_e2, M.kdst3_e3, M.kdst2_e1, M.kdst2_e2, M.kdst2_e3, M.kdst1_e1, M.kdst1_e2, M.kdst1_e3, M.kdst1_e4, M.kdc2_e1, M.kdc2_e2, M.kdc_e1, M.kdc_e2, M.kdc_e3, M.kitVs_e1, M.kitVs_e2, M.kitVs_e3, M.kitVs_e4, M.kdcc_e1, M.kdcc_e2, M.kdcc_e3, M.lk1, M.pairsOf, M.wS_rai, M.krai_e1, M.krai_e2, M.krai_e3, M.krai2_e1, M.krai2_e2, M.wS_try, M.ktry_ex, M.ktry_nx, M.ktry_rt, M.wH_nil, M.wH_cons, M.khn_t, M.khn_f, M.kend_nx0, M.kend_nx, M.kend_rt, M.wE_callB, M.kcallB_e1, M.kcallB_e2, M.kcallB_e3, M.kcb_t, M.kcb_f, M.kcb1_e1, M.kcb1_e2, M.kbb_e1, M.wS_rai0, M.wE_dun, M.kdu_ok, M.kdu_e2, M.kdu2_e1, M.kdu3_e1, M.kdu4_e1, M.wE_blX, M.kbl_f, M.kbl_t, M.wE_lnX, M.kln_e1, M.wO_Ob, M.koO_e1, M.koO_e2, M.koOb_e1, M.hd_f, M.hd_t, Option.bind_some, M.wOs_starA, M.ksta_e1, M.ksta_e2, M.ksta1_e1, M.ksta2_e1, M.seqOf_e1, M.seqOf_e2, M.wE_mkCS, M.kmkS_e1, M.kmkS_e2, M.wE_mkDS, M.kmdS_e1, M.kmdS1_e1] using q
  rcases hv with ⟨ss, rfl, hl, hc⟩ | ⟨xs, rfl, ho⟩ | ⟨h, n⟩
  · exact tupcase _ rfl (by simpa using hl) (fun x hx => by obtain ⟨s, _, rfl⟩ := List.mem_map.mp hx; rfl) (by rw [peq_tnil ss hc]; simp)
  · have : xs ≠ [] := fun z => by have := ho.no; rw [z] at this; cases this
    exact tupcase _ rfl ho.len ho.ty (by rw [ho.ne, decide_eq_false this])
  · simp? only [isi_not h n]
    have : ringOf m v = false := by
      cases v with
      | tup xs => exact absurd rfl (n xs)
      | _ => rfl
    rw [this] at q
    exact q
/-! a walk, the things -/
theorem getN_mem {m : Nd} (hg : Good m) {s : Str} : (getN m s).length ≤ 7 ∧ ∀ y ∈ getN m s, y ∈ m.map (·.1) := by
  unfold getN
  cases h : m.lookup s with
  | none => simp
  | some vs => exact hg.vl _ (lookup_mem h)
theorem walk_wp {m0 : Int} {p : Val} {m : Nd} {K : GR → Prop} (hp : Pen m0 p) (hm : m0 < 900000) (hg : Good m)
    (q : ∀ (w : List Str) (p' : Val), 1 ≤ w.length → w.length ≤ 8 → (∀ s ∈ w, s ∈ m.map (·.1)) → Pen (m0 + 8) p' → K (.ok true (.lst (w.map .str)) (some (true, p')))) : wG g__law_walk [(true, p), (false, enc m)] K := by
  have hpos := hp.pos
  unfold g__law_walk
  rw [wG_run (by rfl) (by simp [ownIx])]
  unfold b__law_walk
  rw [wS_seq]
  simp? [sd_keys, enc]
  refine wC_map (fun x : Str × Val => .str x.1) (fun x => .str x.1) (fun _ => true) (en m) (fun x hx => ⟨_, rfl, rfl, rfl, fun _ => ⟨_, _, rfl, rfl⟩⟩) (by simp [en]; have := hg.len; omega) ?_
  rw [filter_yes]
  obtain ⟨names, hn⟩ : ∃ names : List Str, names = m.map (·.1) := ⟨_, rfl⟩
  have e1 : (en m).map (fun x => Val.str x.1) = names.map .str := by rw [hn, ← en_keys, List.map_map]; rfl
  have hnl : names.length = m.length := by rw [hn]; simp
  have hgl := hg.len
  rw [e1]
  simp? only [List.length_map]
  refine draw_wp hp (by omega) (by omega) (by omega) fun d p1 d0 d1 hp1 => ?_
  have x1 := pix_strs (ss := names) d0 (by omega)
  simp? only [x1, List.length_map, rng_nat names.length (by omega)]
  obtain ⟨I, hI⟩ : ∃ I : List Val → M.Env → Prop, I = fun vs r => ∃ (k : Nat) (w : List Str) (p3 : Val) (b4 b5 b6 : M.Slot), vs = (nums names.length).drop k ∧ k ≤ names.length ∧ w.length = k + 1 ∧ (∀ s ∈ w, s ∈ names) ∧ Pen (m0 + 1 + k) p3 ∧
    r = [some (true, p3), some (false, enc m), some (true, .lst (names.map .str)), some (true, .lst (w.map .str)), b4, b5, b6, none] := ⟨_, rfl⟩
  refine wL_inv I ?_ ?_ _ _ (by rw [hI]; exact ⟨0, [names[d.toNat]'(by omega)], p1, none, none, none, rfl, by omega, rfl, fun s hs => by rw [List.mem_singleton.mp hs]; exact List.getElem_mem _, hp1.mono (by omega), rfl⟩)
  · intro v vs r h
    rw [hI] at h
    obtain ⟨k, w, p3, b4, b5, b6, e, hk, hw, hin, hp3, rfl⟩ := h
    obtain ⟨hk2, rfl, rfl⟩ := drop_step e
    rw [nums_get]
    rw [nums_len] at hk2
    have hpos3 := hp3.pos
    have hwl : 0 < (w.map Val.str).length := by rw [List.length_map]; omega
    have xl := pix_last hwl
    simp only [List.length_map, List.getElem_map] at xl
    obtain ⟨s, hs⟩ : ∃ s, s = w[w.length - 1]'(by omega) := ⟨_, rfl⟩
    rw [← hs] at xl
    have hsk : s ∈ m.map (·.1) := by rw [← hn, hs]; exact hin _ (List.getElem_mem _)
    simp only [M.kT, M.tgN, List.set_cons_succ, List.set_cons_zero, L2__law_walk]
    simp? only [xl, pix_en m s hsk]
    have hgs := getN_mem hg (s := s)
    have cpk : ∀ y ∈ m.map (·.1), CpOk y := fun y hy => (hg.nm y hy).cp
    rw [peq_tnil _ fun y hy => cpk y (hgs.2 y hy)]
    by_cases hz : getN m s = []
    · simp? only [hz, decide_true]
      exact q w p3 (by omega) (by omega) (by rw [← hn]; exact hin) (hp3.mono (by omega))
    · have hzl : 0 < (getN m s).length := List.length_pos_iff.mpr hz
      simp? only [hz, decide_false, List.length_map]
      refine draw_wp hp3 (by omega) (by omega) (by omega) fun d p4 d0 d1 hp4 => ?_
      have x2 := pix_tstrs (ss := getN m s) d0 (by omega)
      obtain ⟨y, hy⟩ : ∃ y, y = (getN m s)[d.toNat]'(by omega) := ⟨_, rfl⟩
      rw [← hy] at x2
      have hyk : y ∈ m.map (·.1) := by rw [hy]; exact hgs.2 _ (List.getElem_mem _)
      have hwc : ∀ s ∈ w, CpOk s := fun s hs => cpk s (by rw [← hn]; exact hin s hs)
      simp? only [x2, pin_lst y w (cpk y hyk) hwc]
      by_cases hyw : y ∈ w
      · obtain ⟨j, hj, _, _, e5⟩ := pindex_strs hyw (cpk y hyk) hwc
        simp? only [hyw, decide_true, e5, Psl, cut_from, ← List.map_drop]
        exact q (w.drop j) p4 (by simp; omega) (by simp; omega) (fun s hs => by rw [← hn]; exact hin s (List.mem_of_mem_drop hs)) (hp4.mono (by omega))
      · simp? only [hyw, decide_false, mapp (ds := w.map .str) (v := .str y) (by simp; omega)]
        rw [hI]
        refine ⟨k + 1, w ++ [y], p4, some (false, .int (k : Nat)), some (false, .tup ((getN m s).map .str)), some (false, .str y), rfl, hk2, by simp [hw], fun s hs => ?_, hp4.mono (by omega), by simp⟩
        rcases List.mem_append.mp hs with z | z
        · exact hin s z
        · rw [List.mem_singleton.mp z, hn]; exact hyk
  · intro r h
    rw [hI] at h
    obtain ⟨k, w, p3, b4, b5, b6, e, hk, hw, hin, hp3, rfl⟩ := h
    simp? only []
    exact q w p3 (by omega) (by omega) (by rw [← hn]; exact hin) (hp3.mono (by omega))
theorem thing_tup (ss : List Str) (hl : ss.length ≤ 100) (h : ∀ s ∈ ss, CpOk s) : Thing (.tup (ss.map .str)) := .inl ⟨ss, rfl, hl, h⟩
theorem thing_of {v : Val} (h : (tyOf v).isSome = true) (n : ∀ xs, v ≠ .tup xs) : Thing v := .inr (.inr ⟨h, n⟩)
theorem thing_odd {xs : List Val} (h : Odd xs) : Thing (.tup xs) := .inr (.inl ⟨_, rfl, h⟩)
/-- what is told of a list of things -/
theorem things_wp {m0 : Int} {p : Val} {m : Nd} {K : GR → Prop} (hp : Pen m0 p) (hm : m0 < 900000) (hg : Good m)
    (q : ∀ (ts : List Val) (p' : Val), ts.length ≤ 100 → (∀ v ∈ ts, Thing v) → Pen (m0 + 30) p' → K (.ok true (.lst ts) (some (true, p')))) : wG g__law_things [(true, p), (false, enc m)] K := by
  have hpos := hp.pos
  unfold g__law_things
  rw [wG_run (by rfl) (by simp [ownIx])]
  unfold b__law_things
  simp? only []
  refine walk_wp hp (by omega) hg fun w p1 w1 w8 hw hp1 => ?_
  obtain ⟨names, hn⟩ : ∃ names : List Str, names = m.map (·.1) := ⟨_, rfl⟩
  have hnl : names.length = m.length := by rw [hn]; simp
  have hgl := hg.len
  have cpk : ∀ y ∈ names, CpOk y := fun y hy => (hg.nm y (by rw [← hn]; exact hy)).cp
  have hwn : ∀ y ∈ w, y ∈ names := by rw [hn]; exact hw
  have cpw : ∀ y ∈ w, CpOk y := fun y hy => cpk y (hwn y hy)
  simp? only [sd_keys, enc]
  refine wC_map (fun x : Str × Val => .str x.1) (fun x => .str x.1) (fun _ => true) (en m) (fun x hx => ⟨_, rfl, rfl, rfl, fun _ => ⟨_, _, rfl, rfl⟩⟩) (by simp [en]; omega) ?_
  rw [filter_yes]
  have e1 : (en m).map (fun x => Val.str x.1) = names.map .str := by rw [hn, ← en_keys, List.map_map]; rfl
  rw [e1]
  simp? only [List.length_map]
  refine draw_wp hp1 (by omega) (by omega) (by omega) fun d p2 d0 d1 hp2 => ?_
  have y0 := pix_strs (ss := names) (i := 0) (by decide) (by simp; omega)
  have z0 := pix_strs (ss := w) (i := 0) (by decide) (by simp; omega)
  have hA : (w.map Val.str).length = w.length := by simp
  have a1 := padd_l ((w.map Val.str).drop d.toNat) ((w.map Val.str).take d.toNat) (by simp; omega)
  have a2 := pmul_l (w.map .str) 2 (by decide) (by simp; omega)
  have d10 : 0 ≤ d + 1 := by omega
  have d11 : (d + 1).toNat = d.toNat + 1 := by omega
  have c1 : cutA (w.map Val.str) none (some 1) = (w.map Val.str).take 1 := cut_to _ 1
  have c2 : cutA (names.map Val.str) none (some 2) = (names.map Val.str).take 2 := cut_to _ 2
  simp? only [Psl, cut_fromI _ d0, cut_toI _ d0, cut_but, a1, a2, show Pmul [.lst (w.map .str), .int 2] = _ from a2, List.length_map]
  refine draw_wp hp2 (by omega) (by omega) (by omega) fun f p3 f0 f1 hp3 => ?_
  have x3 := pix_strs (ss := names) f0 (by omega)
  have a3 := padd_l ((w.map Val.str).take d.toNat) [.str (names[f.toNat]'(by omega))] (by simp; omega)
  have a4 := padd_l ((w.map Val.str).take d.toNat ++ [.str (names[f.toNat]'(by omega))]) ((w.map Val.str).drop (d.toNat + 1)) (by simp; omega)
  have a5 := padd_l (w.map .str) ((w.map Val.str).take 1) (by simp; omega)
  simp? only [x3, a3, padd_I, Psl, cut_fromI _ d10, d11, a4, c1, a5, padd_l, y0, z0]
  refine shuffled_wp hp3 (by simp; omega) (by simp; omega) fun ys p4 hperm hp4 => ?_
  obtain ⟨us, rfl, hus⟩ := perm_strs hperm
  simp? only [Psl, c2, padd_l]
  have tw : ∀ ss : List Str, (∀ y ∈ ss, y ∈ names) → ss.length ≤ 100 → Thing (.tup (ss.map .str)) := fun ss h hl => thing_tup ss hl fun y hy => cpk y (h y hy)
  have n0 : names[(0 : Int).toNat]'(by simp; omega) ∈ names := List.getElem_mem _
  have nf : names[f.toNat]'(by omega) ∈ names := List.getElem_mem _
  have w0 : w[(0 : Int).toNat]'(by simp; omega) ∈ names := hwn _ (List.getElem_mem _)
  refine q _ p4 (by simp) ?_ (hp4.mono (by simp; omega))
  intro v hv
  simp only [List.mem_cons, List.not_mem_nil, or_false] at hv
  have hsub : ∀ (k : Nat), ∀ y ∈ w.drop k, y ∈ names := fun k y hy => hwn y (List.mem_of_mem_drop hy)
  have hsub2 : ∀ (k : Nat), ∀ y ∈ w.take k, y ∈ names := fun k y hy => hwn y (List.mem_of_mem_take hy)
  rcases hv with rfl | rfl | rfl | rfl | rfl | rfl | rfl | rfl | rfl | rfl | rfl | rfl | rfl | rfl | rfl | rfl | rfl | rfl | rfl | rfl | rfl | rfl | rfl | rfl
  · exact tw w hwn (by omega)
  · rw [← List.map_drop, ← List.map_take, ← List.map_append]
    exact tw _ (fun y hy => (List.mem_append.mp hy).elim (hsub _ y) (hsub2 _ y)) (by simp; omega)
  · rw [← List.map_reverse]
    exact tw _ (fun y hy => hwn y (List.mem_reverse.mp hy)) (by simp; omega)
  · rw [← List.map_dropLast]
    exact tw _ (fun y hy => hwn y (List.mem_of_mem_take (by rw [← List.dropLast_eq_take]; exact hy))) (by simp; omega)
  · have : [w.map Val.str, w.map Val.str].flatten = (w ++ w).map .str := by simp
    rw [this]
    exact tw _ (fun y hy => (List.mem_append.mp hy).elim (hwn y) (hwn y)) (by simp; omega)
  · exact thing_of rfl fun _ z => nomatch z
  · have : (w.map Val.str).take d.toNat ++ [.str (names[f.toNat]'(by omega))] ++ (w.map Val.str).drop (d.toNat + 1) = (w.take d.toNat ++ [names[f.toNat]'(by omega)] ++ w.drop (d.toNat + 1)).map .str := by simp
    rw [this]
    refine tw _ (fun y hy => ?_) (by simp; omega)
    rcases List.mem_append.mp hy with z | z
    · rcases List.mem_append.mp z with z | z
      · exact hsub2 _ y z
      · rw [List.mem_singleton.mp z]; exact nf
    · exact hsub _ y z
  · rw [← List.map_take, ← List.map_append]
    exact tw _ (fun y hy => (List.mem_append.mp hy).elim (hwn y) (hsub2 _ y)) (by simp; omega)
  · exact tw [_] (fun y hy => by rw [List.mem_singleton.mp hy]; exact n0) (by simp)
  · exact tw [] (by simp) (by simp)
  · exact thing_of rfl fun _ z => nomatch z
  · exact thing_of rfl fun _ z => nomatch z
  · exact thing_of rfl fun _ z => nomatch z
  · exact thing_of rfl fun _ z => nomatch z
  · exact thing_of rfl fun _ z => nomatch z
  · exact thing_odd ⟨by simp [tyOf], rfl, rfl, by simp⟩
  · exact thing_odd ⟨by simp [tyOf], rfl, rfl, by simp⟩
  · have hc := shp_str (cpk _ w0)
    have h2 : shp (.tuple []) = true := by decide +kernel
    have h3 : shp (.tuple [.str (w[(0 : Int).toNat]'(by simp; omega)), .none]) = true := by
      revert hc
      show SeqAt.shaped _ = true → SeqAt.shaped _ = true
      simp only [SeqAt.shaped, PyData.canLay0, PyData.canLayAll0, PyData.depth, PyData.depthAll, Bool.and_true]
      intro hc
      simp at hc ⊢
      exact hc
    refine thing_odd ⟨by simp [tyOf], rfl, ?_, by simp⟩
    simp only [PeqX, orP, PeqS, Peq, toD, toDs, Option.map_some, h2, h3, and_self, if_true, PyData.eqv, PyData.eqvAll]
  · have h2 : shp (.tuple []) = true := by decide +kernel
    have h3 : shp (.tuple [.tuple [.str "a"]]) = true := by decide +kernel
    refine thing_odd ⟨by simp [tyOf], rfl, ?_, by simp⟩
    simp only [PeqX, orP, PeqS, Peq, toD, toDs, Option.map_some, h2, h3, and_self, if_true, PyData.eqv, PyData.eqvAll]
  · exact thing_odd ⟨by simp [tyOf], rfl, rfl, by simp⟩
  · exact tw us (fun y hy => hus.subset hy) (by rw [hus.length_eq]; omega)
  · rw [← List.map_take]
    exact tw _ (fun y hy => List.mem_of_mem_take hy) (by simp; omega)
  · exact thing_tup ["nosuch"] (by simp) (fun s hs => by rw [List.mem_singleton.mp hs]; unfold CpOk; decide +kernel)
  · exact thing_of rfl fun _ z => nomatch z
/-! the law -/
theorem toDkv_en (m : Nd) : toDkv (sd (en m)) = some (m.map fun p => (PyData.str p.1, PyData.tuple (p.2.map .str))) := by
  induction m with
  | nil => rfl
  | cons p m ih =>
    simp only [en, sd, List.map_cons] at ih ⊢
    simp only [toDkv, keyD, toD, toDs_strs, Option.map_some, ih]
theorem all_mapT {α β : Type} (f : β → Bool) (g : α → β) (xs : List α) (h : ∀ x ∈ xs, f (g x) = true) : (xs.map g).all f = true := by
  rw [List.all_map, List.all_eq_true]; exact h
theorem rszs_strs (ss : List Str) (h : ∀ s ∈ ss, IsName s) : rszs (ss.map .str) ≤ ss.length * 84 ∧ txOks (ss.map .str) = true ∧ PyData.showableAll (ss.map .str) = true ∧ PyData.depthAll (ss.map .str) = 0 ∧ noLsts (ss.map .str) = true := by
  induction ss with
  | nil => simp [rszs, txOks, PyData.showableAll, PyData.depthAll, noLsts]
  | cons s ss ih =>
    obtain ⟨h1, h2, h3, h4, h5⟩ := ih fun x hx => h x (List.mem_cons_of_mem _ hx)
    have hs := h s List.mem_cons_self
    have hl := hs.len
    simp only [List.map_cons, rszs, rsz, txOks, txOk, PyData.showableAll, PyData.showable, PyData.depthAll, PyData.depth, noLsts, noLst, h2, h3, h4, h5, strOk_iff.mpr hs.cp, List.length_cons, Bool.and_self, Nat.max_self, and_true]
    omega
theorem repr_kv (m : Nd) (hn : ∀ p ∈ m, IsName p.1) (hv : ∀ p ∈ m, p.2.length ≤ 7 ∧ ∀ y ∈ p.2, IsName y) :
    rszk (m.map fun p => (PyData.str p.1, PyData.tuple (p.2.map .str))) ≤ m.length * 700 ∧ txOkk (m.map fun p => (PyData.str p.1, PyData.tuple (p.2.map .str))) = true ∧ PyData.showableKv (m.map fun p => (PyData.str p.1, PyData.tuple (p.2.map .str))) = true ∧
      PyData.depthKv (m.map fun p => (PyData.str p.1, PyData.tuple (p.2.map .str))) ≤ 1 := by
  induction m with
  | nil => simp [rszk, txOkk, PyData.showableKv, PyData.depthKv]
  | cons p m ih =>
    obtain ⟨h1, h2, h3, h4⟩ := ih (fun x hx => hn x (List.mem_cons_of_mem _ hx)) (fun x hx => hv x (List.mem_cons_of_mem _ hx))
    have hs := hn p List.mem_cons_self
    have hl := hs.len
    have hv' := hv p List.mem_cons_self
    obtain ⟨g1, g2, g3, g4, g5⟩ := rszs_strs p.2 hv'.2
    simp only [List.map_cons, rszk, rsz, txOkk, txOk, PyData.showableKv, PyData.showable, PyData.depthKv, PyData.depth, g2, g3, g4, h2, h3, strOk_iff.mpr hs.cp, List.length_cons, Bool.and_self, and_true, true_and]
    constructor <;> omega
theorem repr_en {m : Nd} (hg : Good m) : ∃ x : Str, PreprX [enc m] = some (false, .str x) := by
  have hv : ∀ p ∈ m, p.2.length ≤ 7 ∧ ∀ y ∈ p.2, IsName y := fun p hp => ⟨(hg.vl p hp).1, fun y hy => hg.nm y ((hg.vl p hp).2 y hy)⟩
  obtain ⟨h1, h2, h3, h4⟩ := repr_kv m (fun p hp => hg.nm _ (List.mem_map.mpr ⟨p, hp, rfl⟩)) hv
  have hlen := hg.len
  refine ⟨(PyData.dict (m.map fun p => (PyData.str p.1, PyData.tuple (p.2.map .str)))).shown, ?_⟩
  simp only [PreprX, orP, PreprD, toDkv_en]
  have q1 : (PyData.dict (m.map fun p => (PyData.str p.1, PyData.tuple (p.2.map .str)))).shown.length ≤ sizeLine := by
    have := shown_le (.dict (m.map fun p => (PyData.str p.1, PyData.tuple (p.2.map .str)))) (by rw [txOk]; exact h2)
    rw [rsz] at this
    have e : sizeLine = 16777216 := rfl
    omega
  have q2 : ((m.map fun p => (PyData.str p.1, PyData.tuple (p.2.map .str))).all fun p => noLst p.2) = true := all_mapT _ _ _ fun p hp => by
    simp only [noLst]; exact (rszs_strs p.2 (hv p hp).2).2.2.2.2
  rw [if_pos ⟨q2, by rw [PyData.showable]; exact h3, by rw [PyData.depth]; omega, q1⟩]
theorem holds (ns : List Int) (hns : ns.length ≤ 63) : g_law [(false, .scr ns)] = .ok false (.bl true) none := by
  show wG g_law [(false, .scr ns)] fun x => x = .ok false (.bl true) none
  unfold g_law
  rw [wG_run (by rfl) (by simp [ownIx])]
  unfold b_law
  simp? only []
  refine pen_wp hns fun p hp => ?_
  simp? only [rng_nums 5 ⟨by decide, by decide⟩]
  obtain ⟨I, hI⟩ : ∃ I : List Val → M.Env → Prop, I = fun vs r => ∃ (k : Nat) (p : Val) (b2 b3 b4 b5 : M.Slot), vs = (nums (5 : Int).toNat).drop k ∧ k ≤ 5 ∧ Pen (k * 2000) p ∧ r = [some (false, .scr ns), some (true, p), b2, b3, b4, b5] := ⟨_, rfl⟩
  refine wL_inv I ?_ ?_ _ _ (by rw [hI]; exact ⟨0, p, none, none, none, none, rfl, by omega, hp, rfl⟩)
  · intro v vs r h
    rw [hI] at h
    obtain ⟨k, p, b2, b3, b4, b5, e, hk, hp, rfl⟩ := h
    obtain ⟨hk2, rfl, rfl⟩ := drop_step e
    rw [nums_get]
    rw [nums_len] at hk2
    have hk3 : k < 5 := hk2
    simp only [M.kT, M.tgN, List.set_cons_succ, List.set_cons_zero, L2_law]
    simp? only []
    refine draw_wp hp (by omega) (by decide) (by decide) fun d p1 d0 d1 hp1 => ?_
    simp? only [padd_I]
    refine tangle_wp hp1 (by omega) (by omega) (by omega) fun m p2 hg hp2 => ?_
    obtain ⟨x, hx⟩ := repr_en hg
    simp? only [hx]
    refine things_wp hp2 (by omega) hg fun ts p3 hl hts hp3 => ?_
    simp? only []
    obtain ⟨J, hJ⟩ : ∃ J : List Val → M.Env → Prop, J = fun vs r => ∃ (j : Nat) (b5 : M.Slot), vs = ts.drop j ∧ j ≤ ts.length ∧ r = [some (false, .scr ns), some (true, p3), some (false, .int (k : Nat)), some (false, enc m), some (false, .str x), b5] := ⟨_, rfl⟩
    refine wL_inv J ?_ ?_ _ _ (by rw [hJ]; exact ⟨0, b5, rfl, by omega, rfl⟩)
    · intro v vs r h
      rw [hJ] at h
      obtain ⟨j, b5, e, hj, rfl⟩ := h
      obtain ⟨hj2, rfl, rfl⟩ := drop_step e
      have ht := hts _ (List.getElem_mem hj2)
      obtain ⟨y, e1, e2⟩ := shown_bl (ringOf m ts[j])
      have e3 : PreprX [.bl (ringOf m ts[j])] = some (false, .str y) := by
        have hD : PreprD [Val.bl (ringOf m ts[j])] = none := rfl
        simp only [PreprX, orP, hD, e1]
      simp only [M.kT, M.tgN, List.set_cons_succ, List.set_cons_zero, L1_law]
      simp? only []
      refine is_ring_wp ht ?_
      simp? only [e3]
      refine law_is_ring_wp ht ?_
      simp? only [e3, pneT, decide_true]
      rw [hJ]
      exact ⟨j + 1, _, rfl, hj2, rfl⟩
    · intro r h
      rw [hJ] at h
      obtain ⟨j, b5, e, hj, rfl⟩ := h
      simp? only [hx, pneT, decide_true]
      rw [hI]
      exact ⟨k + 1, p3, _, _, _, _, rfl, by omega, hp3.mono (by simp; omega), rfl⟩
  · intro r h
    rw [hI] at h
    obtain ⟨k, p, b2, b3, b4, b5, e, hk, hp, rfl⟩ := h
    have hput : putAll [] [(Val.str "a", Val.tup [Val.str "b"]), (Val.str "b", Val.tup [Val.str "a"])] = some (sd (en [("a", ["b"]), ("b", ["a"])])) := rfl
    have r1 : ringOf [("a", ["b"]), ("b", ["a"])] (.tup [.str "b", .str "a"]) = true := by decide +kernel
    have cp : ∀ s ∈ (["b", "a"] : List Str), CpOk s := fun s hs => by
      rcases List.mem_cons.mp hs with z | z
      · rw [z]; unfold CpOk; decide +kernel
      · rw [List.mem_singleton.mp z]; unfold CpOk; decide +kernel
    simp? only [hput]
    have ht : Thing (.tup [.str "b", .str "a"]) := thing_tup ["b", "a"] (by decide) cp
    refine is_ring_wp (m := [("a", ["b"]), ("b", ["a"])]) ht ?_
    simp? only [r1, Pis, decide_true, List.map_cons, List.map_nil]
    have ht0 : Thing (.tup []) := thing_tup [] (by decide) (by simp)
    have he0 : Val.dct false [] = enc [] := rfl
    rw [he0]
    refine is_ring_wp (m := []) ht0 ?_
    simp? only [Pis, decide_true, ringOf, asStrs, ringB]
    rfl
end K11
namespace K11
open PySem L2 M BB
theorem sc__law_pen : FnScope ["_law_script"] ["_law_script"] (defScope s__law_pen) := ⟨rfl, rfl, rfl, by decide +kernel, rfl, by decide +kernel, by decide +kernel⟩
theorem sc__law_draw : FnScope ["_law_pen_here", "_law_many", "_law_at", "_law_cell", "_law_mixed", "_law_digit", "_law_great"] ["_law_pen_here", "_law_many"] (defScope s__law_draw) := ⟨rfl, rfl, rfl, by decide +kernel, rfl, by decide +kernel, by decide +kernel⟩
theorem sc__law_names : FnScope ["_law_pen_here", "_law_many", "_law_letters", "_law_base", "_law_found", "_law_k", "_law_way", "_law_first", "_law_one", "_law_two"] ["_law_pen_here", "_law_many"] (defScope s__law_names) := ⟨rfl, rfl, rfl, by decide +kernel, rfl, by decide +kernel, by decide +kernel⟩
theorem sc__law_shuffled : FnScope ["_law_pen_here", "_law_some", "_law_left", "_law_k"] ["_law_pen_here", "_law_some"] (defScope s__law_shuffled) := ⟨rfl, rfl, rfl, by decide +kernel, rfl, by decide +kernel, by decide +kernel⟩
theorem sc__law_tangle : FnScope ["_law_pen_here", "_law_many", "_law_names_here", "_law_dense", "_law_found", "_law_k", "_law_some", "_law_one"] ["_law_pen_here", "_law_many"] (defScope s__law_tangle) := ⟨rfl, rfl, rfl, by decide +kernel, rfl, by decide +kernel, by decide +kernel⟩
theorem sc__law_walk : FnScope ["_law_pen_here", "_law_needs", "_law_names_here", "_law_walk_here", "_law_turn", "_law_some", "_law_one", "_law_name"] ["_law_pen_here", "_law_needs"] (defScope s__law_walk) := ⟨rfl, rfl, rfl, by decide +kernel, rfl, by decide +kernel, by decide +kernel⟩
theorem sc__law_things : FnScope ["_law_pen_here", "_law_needs", "_law_walk_here", "_law_names_here", "_law_at", "_law_some", "_law_name"] ["_law_pen_here", "_law_needs"] (defScope s__law_things) := ⟨rfl, rfl, rfl, by decide +kernel, rfl, by decide +kernel, by decide +kernel⟩
theorem sc_is_ring : FnScope ["needs", "thing", "name", "other"] ["needs", "thing"] (defScope s_is_ring) := ⟨rfl, rfl, rfl, by decide +kernel, rfl, by decide +kernel, by decide +kernel⟩
theorem sc__law_is_ring : FnScope ["_law_needs", "_law_thing", "_law_k"] ["_law_needs", "_law_thing"] (defScope s__law_is_ring) := ⟨rfl, rfl, rfl, by decide +kernel, rfl, by decide +kernel, by decide +kernel⟩
theorem sc_law : FnScope ["_law_script", "_law_pen_here", "_law_turn", "_law_needs", "_law_kept", "_law_thing"] ["_law_script"] (defScope s_law) := ⟨rfl, rfl, rfl, by decide +kernel, rfl, by decide +kernel, by decide +kernel⟩
structure Txt (K : PySem.W.Frag) (mg : Str → Option Value) : Prop where
  d__law_pen : ∃ fd, FunQ K "_law_pen" "_law_pen" s__law_pen (He.ga K "_law_pen") fd
  d__law_draw : ∃ fd, FunQ K "_law_draw" "_law_draw" s__law_draw (He.ga K "_law_draw") fd
  d__law_names : ∃ fd, FunQ K "_law_names" "_law_names" s__law_names (He.ga K "_law_names") fd
  d__law_shuffled : ∃ fd, FunQ K "_law_shuffled" "_law_shuffled" s__law_shuffled (He.ga K "_law_shuffled") fd
  d__law_tangle : ∃ fd, FunQ K "_law_tangle" "_law_tangle" s__law_tangle (He.ga K "_law_tangle") fd
  d__law_walk : ∃ fd, FunQ K "_law_walk" "_law_walk" s__law_walk (He.ga K "_law_walk") fd
  d__law_things : ∃ fd, FunQ K "_law_things" "_law_things" s__law_things (He.ga K "_law_things") fd
  d_is_ring : ∃ fd, FunQ K "is_ring" "is_ring" s_is_ring (He.ga K "is_ring") fd
  d__law_is_ring : ∃ fd, FunQ K "_law_is_ring" "_law_is_ring" s__law_is_ring (He.ga K "_law_is_ring") fd
  d_law : ∃ fd, FunQ K "law" "law" s_law (He.ga K "law") fd
  g__law_pen : mg "_law_pen" = some (.ref (He.ga K "_law_pen"))
  g__law_draw : mg "_law_draw" = some (.ref (He.ga K "_law_draw"))
  g__law_names : mg "_law_names" = some (.ref (He.ga K "_law_names"))
  g__law_shuffled : mg "_law_shuffled" = some (.ref (He.ga K "_law_shuffled"))
  g__law_tangle : mg "_law_tangle" = some (.ref (He.ga K "_law_tangle"))
  g__law_walk : mg "_law_walk" = some (.ref (He.ga K "_law_walk"))
  g__law_things : mg "_law_things" = some (.ref (He.ga K "_law_things"))
  g_is_ring : mg "is_ring" = some (.ref (He.ga K "is_ring"))
  g__law_is_ring : mg "_law_is_ring" = some (.ref (He.ga K "_law_is_ring"))
  g_law : mg "law" = some (.ref (He.ga K "law"))
  sysm : (K.lookup sysModules).isSome = true
  b_abs : mg "abs" = none
  b_all : mg "all" = none
  b_int : mg "int" = none
  b_isinstance : mg "isinstance" = none
  b_len : mg "len" = none
  b_list : mg "list" = none
  b_range : mg "range" = none
  b_repr : mg "repr" = none
  b_set : mg "set" = none
  b_str : mg "str" = none
  b_tuple : mg "tuple" = none
  b_zip : mg "zip" = none
section
variable {P : Program} {w : World} {K : PySem.W.Frag} {mg : Str → Option Value} {base : Heap}
theorem ok__law_pen (T : Txt K mg) : DefP P w K mg base ⟨K, cmK K, []⟩ 1 "_law_pen" s__law_pen ["_law_script"] g__law_pen := by
  obtain ⟨fd, F⟩ := T.d__law_pen
  refine def_mk (N := ["_law_script"]) (ios := [0]) (k := 0) T.g__law_pen F sc__law_pen (fun cdv A0 outer s H E hr => ⟨fun A W hw hio tk => ?_⟩) (fun _ _ _ _ _ _ us hl => match us, hl with | [_], _ => rfl)
  have c := cal_of (CXx := L2.CX P w) (Tb := []) (CM := cmK K) (N := ["_law_script"]) (mg := mg) (P := P) (w := w) (K := K) (base := base) (E := E) (cdv := cdv) (H := H) (s := s) (A := A0) (outer := outer) (qual := "_law_pen") (scope := defScope s__law_pen) (k := 0) hr T.sysm
  have hC : ∀ x : Str, A.w.CM x = some (He.ga K x) := fun x => by rw [hw]; rfl
  have hK : A.w.K = K := by rw [hw]
  rw [← hw] at c
  have nd : (["_law_script"] : List Str).Nodup := sc__law_pen.nd
  have nio : ∀ i, i ∉ A.io ∨ i ∈ [0] := fun i => by by_cases h : i ∈ A.io; exact .inr (hio i h); exact .inl h
  exact (pss_one' (ps_ret' (pe_dsp (pps_Cons pe_cs (pe_slc c (po_S (pv 0)) po_pNo (po_pInt pe_ci)) (pps_Cons pe_cs pe_ci (pps_Cons pe_cs pe_ci pps_Nil))))))
theorem ok__law_draw (T : Txt K mg) : DefP P w K mg base ⟨K, cmK K, []⟩ 1 "_law_draw" s__law_draw ["_law_pen_here", "_law_many"] g__law_draw := by
  obtain ⟨fd, F⟩ := T.d__law_draw
  refine def_mk (N := ["_law_pen_here", "_law_many", "_law_at", "_law_cell", "_law_mixed", "_law_digit", "_law_great"]) (ios := [0, 1]) (k := 0) T.g__law_draw F sc__law_draw (fun cdv A0 outer s H E hr => ⟨fun A W hw hio tk => ?_⟩) (fun _ _ _ _ _ _ us hl => match us, hl with | [_, _], _ => rfl)
  have c := cal_of (CXx := L2.CX P w) (Tb := []) (CM := cmK K) (N := ["_law_pen_here", "_law_many", "_law_at", "_law_cell", "_law_mixed", "_law_digit", "_law_great"]) (mg := mg) (P := P) (w := w) (K := K) (base := base) (E := E) (cdv := cdv) (H := H) (s := s) (A := A0) (outer := outer) (qual := "_law_draw") (scope := defScope s__law_draw) (k := 0) hr T.sysm
  have hC : ∀ x : Str, A.w.CM x = some (He.ga K x) := fun x => by rw [hw]; rfl
  have hK : A.w.K = K := by rw [hw]
  rw [← hw] at c
  have nd : (["_law_pen_here", "_law_many", "_law_at", "_law_cell", "_law_mixed", "_law_digit", "_law_great"] : List Str).Nodup := sc__law_draw.nd
  have nio : ∀ i, i ∉ A.io ∨ i ∈ [0, 1] := fun i => by by_cases h : i ∈ A.io; exact .inr (hio i h); exact .inl h
  exact (pss_cons' (ps_if' (pt_cmpV opr_gt (po_V (pe_idx c (po_S (pv 0)) (po_V pe_cs))) (po_V pe_ci)) (pss_cons' (ps_asg' (i := 5) nd rfl (by first | exact .inl rfl | exact .inr rfl) (pe_bin (opr_mod c) (po_V (pe_idx c (po_S (pv 0)) (po_V pe_cs))) (po_S (pv 1))) ((nio 5).resolve_right (by decide)))
    (pss_cons' (ps_setIx c (pv 0) pe_cs (pe_bin (opr_div c) (po_V (pe_idx c (po_S (pv 0)) (po_V pe_cs))) (po_S (pv 1))))
    (pss_one' (ps_ret' (pe_mv (pv 5)))))) pss_nil')
    (pss_cons' (ps_asg' (i := 2) nd rfl (by first | exact .inl rfl | exact .inr rfl) (pe_idx c (po_S (pv 0)) (po_V pe_cs)) ((nio 2).resolve_right (by decide)))
    (pss_cons' (ps_setIx c (pv 0) pe_cs (pe_bin (opr_add c) (po_S (pv 2)) (po_V pe_ci)))
    (pss_cons' (ps_asg' (i := 3) nd rfl (by first | exact .inl rfl | exact .inr rfl) (pe_frz (pe_bin (opr_add c) (po_V (pe_bin (opr_mul c) (po_V pe_ci) (po_S (pv 2)))) (po_V pe_ci))) ((nio 3).resolve_right (by decide)))
    (pss_cons' (ps_if' (pt_cmpV (opr_neX c) (po_V (pe_idx c (po_S (pv 0)) (po_V pe_cs))) (po_V (pe_lst' pa_asNil))) (pss_one' (ps_asg' (i := 3) nd rfl (by first | exact .inl rfl | exact .inr rfl) (pe_idx c (po_V (pe_idx c (po_S (pv 0)) (po_V pe_cs))) (po_V (pe_bin (opr_mod c) (po_S (pv 2)) (po_V (pe_bi (bi_len c) rfl T.b_len bf_len (pa_osCons (po_V (pe_idx c (po_S (pv 0)) (po_V pe_cs))) pa_osNil)))))) ((nio 3).resolve_right (by decide)))) pss_nil')
    (pss_cons' (ps_if' (PW.pt (pw_and' (pt_cmpV opr_lt (po_S (pv 2)) (po_V (pe_bi (bi_len c) rfl T.b_len bf_len (pa_osCons (po_V (pe_idx c (po_S (pv 0)) (po_V pe_cs))) pa_osNil)))) (pw_and1 (pt_cmpV opr_ge (po_V (pe_bi bi_abs rfl T.b_abs bf_abs (pa_osCons (po_S (pv 3)) pa_osNil))) (po_V (pe_bin (opr_pow c) (po_V pe_ci) (po_V pe_ci))))))) (pss_cons' (ps_asg' (i := 6) nd rfl (by first | exact .inl rfl | exact .inr rfl) (pe_frz (pe_bin (opr_add c) (po_V (pe_bin (opr_mul c) (po_V pe_ci) (po_V (pe_bi bi_abs rfl T.b_abs bf_abs (pa_osCons (po_S (pv 3)) pa_osNil))))) (po_V (pe_bt bi_int rfl T.b_int bt_int (pa_osCons (po_V (pe_cmpV opr_lt (po_S (pv 3)) (po_V pe_ci))) pa_osNil))))) ((nio 6).resolve_right (by decide)))
    (pss_cons' (ps_setIx c (pv 0) pe_cs (pe_bin (opr_div c) (po_S (pv 6)) (po_S (pv 1))))
    (pss_one' (ps_ret' (pe_bin (opr_mod c) (po_S (pv 6)) (po_S (pv 1))))))) pss_nil')
    (pss_cons' (ps_asg' (i := 4) nd rfl (by first | exact .inl rfl | exact .inr rfl) (pe_frz (pe_bin (opr_mod c) (po_V (pe_bin (opr_pow c) (po_V (pe_bin (opr_add c) (po_V (pe_bin (opr_add c) (po_V (pe_bin (opr_mod c) (po_S (pv 3)) (po_V pe_ci))) (po_V (pe_bin (opr_mul c) (po_V pe_ci) (po_S (pv 2)))))) (po_V pe_ci))) (po_V pe_ci))) (po_V pe_ci))) ((nio 4).resolve_right (by decide)))
    (pss_cons' (ps_asg' (i := 4) nd rfl (by first | exact .inl rfl | exact .inr rfl) (pe_frz (pe_bin (opr_mod c) (po_V (pe_bin (opr_pow c) (po_V (pe_bin (opr_add c) (po_V (pe_bin (opr_mul c) (po_S (pv 4)) (po_V (pe_bin (opr_add c) (po_S (pv 2)) (po_V pe_ci))))) (po_V (pe_bin (opr_mul c) (po_V (pe_bin (opr_mul c) (po_V pe_ci) (po_S (pv 2)))) (po_S (pv 2)))))) (po_V pe_ci))) (po_V pe_ci))) ((nio 4).resolve_right (by decide)))
    (pss_one' (ps_ret' (pe_bin (opr_mod c) (po_V (pe_bin (opr_div c) (po_S (pv 4)) (po_V pe_ci))) (po_S (pv 1)))))))))))))
theorem ok__law_names (T : Txt K mg) : DefP P w K mg base ⟨K, cmK K, []⟩ 2 "_law_names" s__law_names ["_law_pen_here", "_law_many"] g__law_names := by
  obtain ⟨fd, F⟩ := T.d__law_names
  have e__law_draw := ok__law_draw (P := P) (w := w) (base := base) T
  refine def_mk (N := ["_law_pen_here", "_law_many", "_law_letters", "_law_base", "_law_found", "_law_k", "_law_way", "_law_first", "_law_one", "_law_two"]) (ios := [0, 1]) (k := 1) T.g__law_names F sc__law_names (fun cdv A0 outer s H E hr => ⟨fun A W hw hio tk => ?_⟩) (fun _ _ _ _ _ _ us hl => match us, hl with | [_, _], _ => rfl)
  have c := cal_of (CXx := L2.CX P w) (Tb := []) (CM := cmK K) (N := ["_law_pen_here", "_law_many", "_law_letters", "_law_base", "_law_found", "_law_k", "_law_way", "_law_first", "_law_one", "_law_two"]) (mg := mg) (P := P) (w := w) (K := K) (base := base) (E := E) (cdv := cdv) (H := H) (s := s) (A := A0) (outer := outer) (qual := "_law_names") (scope := defScope s__law_names) (k := 1) hr T.sysm
  have hC : ∀ x : Str, A.w.CM x = some (He.ga K x) := fun x => by rw [hw]; rfl
  have hK : A.w.K = K := by rw [hw]
  rw [← hw] at c
  have d__law_draw := e__law_draw; rw [← hw] at d__law_draw; clear e__law_draw
  have nd : (["_law_pen_here", "_law_many", "_law_letters", "_law_base", "_law_found", "_law_k", "_law_way", "_law_first", "_law_one", "_law_two"] : List Str).Nodup := sc__law_names.nd
  have nio : ∀ i, i ∉ A.io ∨ i ∈ [0, 1] := fun i => by by_cases h : i ∈ A.io; exact .inr (hio i h); exact .inl h
  exact (pss_cons' (ps_asg' (i := 2) nd rfl (by first | exact .inl rfl | exact .inr rfl) pe_cs ((nio 2).resolve_right (by decide)))
    (pss_cons' (ps_asg2 rfl nd (i := 6) (j := 7) rfl rfl (by decide) rfl rfl ((nio 6).resolve_right (by decide)) ((nio 7).resolve_right (by decide)) (pa_asCons (pe_cD d__law_draw (hr.le (by decide)) rfl tk (pa_osCons (po_S (pv 0)) (pa_osCons (po_V pe_ci) pa_osNil))) (pa_asCons (pe_cD d__law_draw (hr.le (by decide)) rfl tk (pa_osCons (po_S (pv 0)) (pa_osCons (po_V pe_ci) pa_osNil))) pa_asNil)))
    (pss_cons' (ps_asg' (i := 3) nd rfl (by first | exact .inl rfl | exact .inr rfl) (pe_idx c (po_V (pe_lst' (pa_asCons pe_cs (pa_asCons pe_cs (pa_asCons pe_cs pa_asNil))))) (po_S (pv 6))) ((nio 3).resolve_right (by decide)))
    (pss_cons' (ps_asg' (i := 4) nd rfl (by first | exact .inl rfl | exact .inr rfl) (pe_lst' pa_asNil) ((nio 4).resolve_right (by decide)))
    (pss_cons' (ps_for' (passes_of rfl) rfl (pi_rng1 rfl T.b_range (pa_asCons (pe_var' (pv 1)) pa_asNil)) (pg_N (i := 5) nd rfl (by first | exact .inl rfl | exact .inr rfl) ((nio 5).resolve_right (by decide))) (pss_cons' (ps_asg2 rfl nd (i := 8) (j := 9) rfl rfl (by decide) rfl rfl ((nio 8).resolve_right (by decide)) ((nio 9).resolve_right (by decide)) (pa_asCons (pe_idx c (po_S (pv 2)) (po_V (pe_bin (opr_mod c) (po_V (pe_bin (opr_add c) (po_S (pv 7)) (po_S (pv 5)))) (po_V pe_ci)))) (pa_asCons (pe_idx c (po_S (pv 2)) (po_V (pe_bin (opr_div c) (po_S (pv 5)) (po_V pe_ci)))) pa_asNil)))
    (pss_one' (ps_drop' (pe_mut PySem.F.plainAttrs_list PySem.F.slot_list_append PySem.F.type_list_append mutp_append (pv 4) (pa_asCons (pe_ite (PW.pt (pw_or' (pt_cmpV opr_gt (po_S (pv 6)) (po_V pe_ci)) (pw_or1 (pt_cmpV opr_gt (po_S (pv 5)) (po_V pe_ci))))) (pe_bin (opr_add c) (po_V (pe_bin (opr_add c) (po_S (pv 3)) (po_S (pv 8)))) (po_S (pv 9))) (pe_var' (pv 8))) pa_asNil))))))
    (pss_one' (ps_ret' (pe_mv (pv 4)))))))))
theorem ok__law_shuffled (T : Txt K mg) : DefP P w K mg base ⟨K, cmK K, []⟩ 2 "_law_shuffled" s__law_shuffled ["_law_pen_here", "_law_some"] g__law_shuffled := by
  obtain ⟨fd, F⟩ := T.d__law_shuffled
  have e__law_draw := ok__law_draw (P := P) (w := w) (base := base) T
  refine def_mk (N := ["_law_pen_here", "_law_some", "_law_left", "_law_k"]) (ios := [0, 1]) (k := 1) T.g__law_shuffled F sc__law_shuffled (fun cdv A0 outer s H E hr => ⟨fun A W hw hio tk => ?_⟩) (fun _ _ _ _ _ _ us hl => match us, hl with | [_, _], _ => rfl)
  have c := cal_of (CXx := L2.CX P w) (Tb := []) (CM := cmK K) (N := ["_law_pen_here", "_law_some", "_law_left", "_law_k"]) (mg := mg) (P := P) (w := w) (K := K) (base := base) (E := E) (cdv := cdv) (H := H) (s := s) (A := A0) (outer := outer) (qual := "_law_shuffled") (scope := defScope s__law_shuffled) (k := 1) hr T.sysm
  have hC : ∀ x : Str, A.w.CM x = some (He.ga K x) := fun x => by rw [hw]; rfl
  have hK : A.w.K = K := by rw [hw]
  rw [← hw] at c
  have d__law_draw := e__law_draw; rw [← hw] at d__law_draw; clear e__law_draw
  have nd : (["_law_pen_here", "_law_some", "_law_left", "_law_k"] : List Str).Nodup := sc__law_shuffled.nd
  have nio : ∀ i, i ∉ A.io ∨ i ∈ [0, 1] := fun i => by by_cases h : i ∈ A.io; exact .inr (hio i h); exact .inl h
  exact (pss_cons' (ps_asg' (i := 2) nd rfl (by first | exact .inl rfl | exact .inr rfl) (pe_bt (bi_list c) rfl T.b_list bt_list (pa_osCons (po_S (pv 1)) pa_osNil)) ((nio 2).resolve_right (by decide)))
    (pss_one' (ps_ret' (pe_lcM rfl nd (pi_rng1 rfl T.b_range (pa_asCons (pe_bi (bi_len c) rfl T.b_len bf_len (pa_osCons (po_S (pv 2)) pa_osNil)) pa_asNil)) (blkOk_by (own := [("_law_k", 3)]) (by rfl)) (fun _ _ _ _ _ => (pg_N (i := 3) nd rfl (by first | exact .inl rfl | exact .inr rfl) ((nio 3).resolve_right (by decide)))) (fun _ _ _ _ _ => pts_no) (fun _ _ _ _ _ => (pe_mut PySem.F.plainAttrs_list PySem.F.slot_list_pop PySem.F.type_list_pop mutp_popAt (pv 2) (pa_asCons (pe_cD d__law_draw (hr.le (by decide)) rfl takes0 (pa_osCons (po_S (pv 0)) (pa_osCons (po_V (pe_frz (pe_bi (bi_len (Cal.blk c)) rfl T.b_len bf_len (pa_osCons (po_S (pv 2)) pa_osNil)))) pa_osNil))) pa_asNil))) (tok_N 3) (by decide) (fun i hi => (by decide : ∀ i ∈ ([0, 1] : List Nat), i ∉ _) i (hio i hi))))))
theorem ok__law_tangle (T : Txt K mg) : DefP P w K mg base ⟨K, cmK K, []⟩ 3 "_law_tangle" s__law_tangle ["_law_pen_here", "_law_many"] g__law_tangle := by
  obtain ⟨fd, F⟩ := T.d__law_tangle
  have e__law_names := ok__law_names (P := P) (w := w) (base := base) T
  have e__law_draw := ok__law_draw (P := P) (w := w) (base := base) T
  have e__law_shuffled := ok__law_shuffled (P := P) (w := w) (base := base) T
  refine def_mk (N := ["_law_pen_here", "_law_many", "_law_names_here", "_law_dense", "_law_found", "_law_k", "_law_some", "_law_one"]) (ios := [0, 1]) (k := 2) T.g__law_tangle F sc__law_tangle (fun cdv A0 outer s H E hr => ⟨fun A W hw hio tk => ?_⟩) (fun _ _ _ _ _ _ us hl => match us, hl with | [_, _], _ => rfl)
  have c := cal_of (CXx := L2.CX P w) (Tb := []) (CM := cmK K) (N := ["_law_pen_here", "_law_many", "_law_names_here", "_law_dense", "_law_found", "_law_k", "_law_some", "_law_one"]) (mg := mg) (P := P) (w := w) (K := K) (base := base) (E := E) (cdv := cdv) (H := H) (s := s) (A := A0) (outer := outer) (qual := "_law_tangle") (scope := defScope s__law_tangle) (k := 2) hr T.sysm
  have hC : ∀ x : Str, A.w.CM x = some (He.ga K x) := fun x => by rw [hw]; rfl
  have hK : A.w.K = K := by rw [hw]
  rw [← hw] at c
  have d__law_names := e__law_names; rw [← hw] at d__law_names; clear e__law_names
  have d__law_draw := e__law_draw; rw [← hw] at d__law_draw; clear e__law_draw
  have d__law_shuffled := e__law_shuffled; rw [← hw] at d__law_shuffled; clear e__law_shuffled
  have nd : (["_law_pen_here", "_law_many", "_law_names_here", "_law_dense", "_law_found", "_law_k", "_law_some", "_law_one"] : List Str).Nodup := sc__law_tangle.nd
  have nio : ∀ i, i ∉ A.io ∨ i ∈ [0, 1] := fun i => by by_cases h : i ∈ A.io; exact .inr (hio i h); exact .inl h
  exact (pss_cons' (ps_asg' (i := 2) nd rfl (by first | exact .inl rfl | exact .inr rfl) (pe_frz (pe_cD d__law_names (hr.le (by decide)) rfl tk (pa_osCons (po_S (pv 0)) (pa_osCons (po_V (pe_var' (pv 1))) pa_osNil)))) ((nio 2).resolve_right (by decide)))
    (pss_cons' (ps_asg' (i := 3) nd rfl (by first | exact .inl rfl | exact .inr rfl) (pe_frz (pe_cD d__law_draw (hr.le (by decide)) rfl tk (pa_osCons (po_S (pv 0)) (pa_osCons (po_V pe_ci) pa_osNil)))) ((nio 3).resolve_right (by decide)))
    (pss_cons' (ps_asg' (i := 4) nd rfl (by first | exact .inl rfl | exact .inr rfl) pe_dNewK ((nio 4).resolve_right (by decide)))
    (pss_cons' (ps_for' (passes_of rfl) rfl (pi_rng1 rfl T.b_range (pa_asCons (pe_var' (pv 1)) pa_asNil)) (pg_N (i := 5) nd rfl (by first | exact .inl rfl | exact .inr rfl) ((nio 5).resolve_right (by decide))) (pss_cons' (ps_asgLc rfl nd (i := 6) rfl rfl ((nio 6).resolve_right (by decide)) (sw_true rfl rfl rfl (by decide +kernel)) (pi_V c.K (pe_var' (pv 2))) (blkOk_by (own := [("_law_one", 7)]) (by rfl)) (fun _ _ _ _ _ => (pg_N (i := 7) nd rfl (by first | exact .inl rfl | exact .inr rfl) ((nio 7).resolve_right (by decide)))) (fun _ _ _ _ _ => (pts_1 (PW.pt (pw_and' (pt_cmpV opr_gt (po_S (pv 3)) (po_V pe_ci)) (pw_and1 (pt_cmpV (opr_eqX (Cal.blk c)) (po_V (pe_cD d__law_draw (hr.le (by decide)) rfl takes0 (pa_osCons (po_S (pv 0)) (pa_osCons (po_V (pe_idx (Cal.blk c) (po_V (pe_lst' (pa_asCons pe_ci (pa_asCons pe_ci (pa_asCons pe_ci (pa_asCons pe_ci (pa_asCons pe_ci pa_asNil))))))) (po_S (pv 3)))) pa_osNil)))) (po_V pe_ci))))))) (fun _ _ _ _ _ => (pe_var' (pv 7))) (tok_N 7) (by decide) (fun i hi => (by decide : ∀ i ∈ ([0, 1] : List Nat), i ∉ _) i (hio i hi)))
    (pss_cons' (ps_if' (pt_cmpV (opr_eqX c) (po_S (pv 3)) (po_V pe_ci)) (pss_one' (ps_asg' (i := 6) nd rfl (by first | exact .inl rfl | exact .inr rfl) (pe_frz (pe_lst' (pa_asCons (pe_idx c (po_S (pv 2)) (po_V (pe_bin (opr_mod c) (po_V (pe_bin (opr_add c) (po_S (pv 5)) (po_V pe_ci))) (po_S (pv 1))))) pa_asNil))) ((nio 6).resolve_right (by decide)))) pss_nil')
    (pss_cons' (ps_if' (pt_cmpV (opr_eqX c) (po_V (pe_cD d__law_draw (hr.le (by decide)) rfl tk (pa_osCons (po_S (pv 0)) (pa_osCons (po_V pe_ci) pa_osNil)))) (po_V pe_ci)) (pss_one' (ps_asg' (i := 6) nd rfl (by first | exact .inl rfl | exact .inr rfl) (pe_frz (pe_lst' (pa_asCons (pe_idx c (po_S (pv 2)) (po_S (pv 5))) pa_asNil))) ((nio 6).resolve_right (by decide)))) pss_nil')
    (pss_one' (ps_setIx c (pv 4) (pe_idx c (po_S (pv 2)) (po_S (pv 5))) (pe_bt (bi_tuple c) rfl T.b_tuple bt_tuple (pa_osCons (po_V (pe_cD d__law_shuffled (hr.le (by decide)) rfl tk (pa_osCons (po_S (pv 0)) (pa_osCons (po_V (pe_var' (pv 6))) pa_osNil)))) pa_osNil))))))))
    (pss_one' (ps_ret' (pe_mv (pv 4))))))))
theorem ok__law_walk (T : Txt K mg) : DefP P w K mg base ⟨K, cmK K, []⟩ 2 "_law_walk" s__law_walk ["_law_pen_here", "_law_needs"] g__law_walk := by
  obtain ⟨fd, F⟩ := T.d__law_walk
  have e__law_draw := ok__law_draw (P := P) (w := w) (base := base) T
  refine def_mk (N := ["_law_pen_here", "_law_needs", "_law_names_here", "_law_walk_here", "_law_turn", "_law_some", "_law_one", "_law_name"]) (ios := [0, 1]) (k := 1) T.g__law_walk F sc__law_walk (fun cdv A0 outer s H E hr => ⟨fun A W hw hio tk => ?_⟩) (fun _ _ _ _ _ _ us hl => match us, hl with | [_, _], _ => rfl)
  have c := cal_of (CXx := L2.CX P w) (Tb := []) (CM := cmK K) (N := ["_law_pen_here", "_law_needs", "_law_names_here", "_law_walk_here", "_law_turn", "_law_some", "_law_one", "_law_name"]) (mg := mg) (P := P) (w := w) (K := K) (base := base) (E := E) (cdv := cdv) (H := H) (s := s) (A := A0) (outer := outer) (qual := "_law_walk") (scope := defScope s__law_walk) (k := 1) hr T.sysm
  have hC : ∀ x : Str, A.w.CM x = some (He.ga K x) := fun x => by rw [hw]; rfl
  have hK : A.w.K = K := by rw [hw]
  rw [← hw] at c
  have d__law_draw := e__law_draw; rw [← hw] at d__law_draw; clear e__law_draw
  have nd : (["_law_pen_here", "_law_needs", "_law_names_here", "_law_walk_here", "_law_turn", "_law_some", "_law_one", "_law_name"] : List Str).Nodup := sc__law_walk.nd
  have nio : ∀ i, i ∉ A.io ∨ i ∈ [0, 1] := fun i => by by_cases h : i ∈ A.io; exact .inr (hio i h); exact .inl h
  exact (pss_cons' (ps_asgLc rfl nd (i := 2) rfl rfl ((nio 2).resolve_right (by decide)) (sw_true rfl rfl rfl (by decide +kernel)) (pi_V c.K (pe_var' (pv 1))) (blkOk_by (own := [("_law_name", 7)]) (by rfl)) (fun _ _ _ _ _ => (pg_N (i := 7) nd rfl (by first | exact .inl rfl | exact .inr rfl) ((nio 7).resolve_right (by decide)))) (fun _ _ _ _ _ => pts_no) (fun _ _ _ _ _ => (pe_var' (pv 7))) (tok_N 7) (by decide) (fun i hi => (by decide : ∀ i ∈ ([0, 1] : List Nat), i ∉ _) i (hio i hi)))
    (pss_cons' (ps_asg' (i := 3) nd rfl (by first | exact .inl rfl | exact .inr rfl) (pe_lst' (pa_asCons (pe_idx c (po_S (pv 2)) (po_V (pe_cD d__law_draw (hr.le (by decide)) rfl tk (pa_osCons (po_S (pv 0)) (pa_osCons (po_V (pe_frz (pe_bi (bi_len c) rfl T.b_len bf_len (pa_osCons (po_S (pv 2)) pa_osNil)))) pa_osNil))))) pa_asNil)) ((nio 3).resolve_right (by decide)))
    (pss_cons' (ps_for' (passes_of rfl) rfl (pi_rng1 rfl T.b_range (pa_asCons (pe_bi (bi_len c) rfl T.b_len bf_len (pa_osCons (po_S (pv 2)) pa_osNil)) pa_asNil)) (pg_N (i := 4) nd rfl (by first | exact .inl rfl | exact .inr rfl) ((nio 4).resolve_right (by decide))) (pss_cons' (ps_asg' (i := 5) nd rfl (by first | exact .inl rfl | exact .inr rfl) (pe_idx c (po_S (pv 1)) (po_V (pe_idx c (po_S (pv 3)) (po_V (pe_neg (po_V pe_ci)))))) ((nio 5).resolve_right (by decide)))
    (pss_cons' (ps_if' (pt_cmpV (opr_eqX c) (po_S (pv 5)) (po_V (pe_tup' pa_asNil))) (pss_one' (ps_ret' (pe_mv (pv 3)))) pss_nil')
    (pss_cons' (ps_asg' (i := 6) nd rfl (by first | exact .inl rfl | exact .inr rfl) (pe_idx c (po_S (pv 5)) (po_V (pe_cD d__law_draw (hr.le (by decide)) rfl tk (pa_osCons (po_S (pv 0)) (pa_osCons (po_V (pe_frz (pe_bi (bi_len c) rfl T.b_len bf_len (pa_osCons (po_S (pv 5)) pa_osNil)))) pa_osNil))))) ((nio 6).resolve_right (by decide)))
    (pss_cons' (ps_if' (pt_cmpV (opr_inX c) (po_S (pv 6)) (po_S (pv 3))) (pss_one' (ps_ret' (pe_slc c (po_S (pv 3)) (po_pInt (pe_mt c (by decide) PySem.F.plainAttrs_list PySem.F.slot_list_index PySem.F.type_list_index (mtp_index c) (po_S (pv 3)) (pa_osCons (po_S (pv 6)) pa_osNil))) po_pNo))) pss_nil')
    (pss_one' (ps_drop' (pe_mut PySem.F.plainAttrs_list PySem.F.slot_list_append PySem.F.type_list_append mutp_append (pv 3) (pa_asCons (pe_var' (pv 6)) pa_asNil)))))))))
    (pss_one' (ps_ret' (pe_mv (pv 3)))))))
theorem ok__law_things (T : Txt K mg) : DefP P w K mg base ⟨K, cmK K, []⟩ 3 "_law_things" s__law_things ["_law_pen_here", "_law_needs"] g__law_things := by
  obtain ⟨fd, F⟩ := T.d__law_things
  have e__law_walk := ok__law_walk (P := P) (w := w) (base := base) T
  have e__law_draw := ok__law_draw (P := P) (w := w) (base := base) T
  have e__law_shuffled := ok__law_shuffled (P := P) (w := w) (base := base) T
  refine def_mk (N := ["_law_pen_here", "_law_needs", "_law_walk_here", "_law_names_here", "_law_at", "_law_some", "_law_name"]) (ios := [0, 1]) (k := 2) T.g__law_things F sc__law_things (fun cdv A0 outer s H E hr => ⟨fun A W hw hio tk => ?_⟩) (fun _ _ _ _ _ _ us hl => match us, hl with | [_, _], _ => rfl)
  have c := cal_of (CXx := L2.CX P w) (Tb := []) (CM := cmK K) (N := ["_law_pen_here", "_law_needs", "_law_walk_here", "_law_names_here", "_law_at", "_law_some", "_law_name"]) (mg := mg) (P := P) (w := w) (K := K) (base := base) (E := E) (cdv := cdv) (H := H) (s := s) (A := A0) (outer := outer) (qual := "_law_things") (scope := defScope s__law_things) (k := 2) hr T.sysm
  have hC : ∀ x : Str, A.w.CM x = some (He.ga K x) := fun x => by rw [hw]; rfl
  have hK : A.w.K = K := by rw [hw]
  rw [← hw] at c
  have d__law_walk := e__law_walk; rw [← hw] at d__law_walk; clear e__law_walk
  have d__law_draw := e__law_draw; rw [← hw] at d__law_draw; clear e__law_draw
  have d__law_shuffled := e__law_shuffled; rw [← hw] at d__law_shuffled; clear e__law_shuffled
  have nd : (["_law_pen_here", "_law_needs", "_law_walk_here", "_law_names_here", "_law_at", "_law_some", "_law_name"] : List Str).Nodup := sc__law_things.nd
  have nio : ∀ i, i ∉ A.io ∨ i ∈ [0, 1] := fun i => by by_cases h : i ∈ A.io; exact .inr (hio i h); exact .inl h
  exact (pss_cons' (ps_asg' (i := 2) nd rfl (by first | exact .inl rfl | exact .inr rfl) (pe_frz (pe_cD d__law_walk (hr.le (by decide)) rfl tk (pa_osCons (po_S (pv 0)) (pa_osCons (po_V (pe_var' (pv 1))) pa_osNil)))) ((nio 2).resolve_right (by decide)))
    (pss_cons' (ps_asgLc rfl nd (i := 3) rfl rfl ((nio 3).resolve_right (by decide)) (sw_true rfl rfl rfl (by decide +kernel)) (pi_V c.K (pe_var' (pv 1))) (blkOk_by (own := [("_law_name", 6)]) (by rfl)) (fun _ _ _ _ _ => (pg_N (i := 6) nd rfl (by first | exact .inl rfl | exact .inr rfl) ((nio 6).resolve_right (by decide)))) (fun _ _ _ _ _ => pts_no) (fun _ _ _ _ _ => (pe_var' (pv 6))) (tok_N 6) (by decide) (fun i hi => (by decide : ∀ i ∈ ([0, 1] : List Nat), i ∉ _) i (hio i hi)))
    (pss_cons' (ps_asg' (i := 4) nd rfl (by first | exact .inl rfl | exact .inr rfl) (pe_frz (pe_cD d__law_draw (hr.le (by decide)) rfl tk (pa_osCons (po_S (pv 0)) (pa_osCons (po_V (pe_frz (pe_bi (bi_len c) rfl T.b_len bf_len (pa_osCons (po_S (pv 2)) pa_osNil)))) pa_osNil)))) ((nio 4).resolve_right (by decide)))
    (pss_cons' (ps_asg' (i := 5) nd rfl (by first | exact .inl rfl | exact .inr rfl) (pe_frz (pe_lst' (pa_asCons (pe_bt (bi_tuple c) rfl T.b_tuple bt_tuple (pa_osCons (po_S (pv 2)) pa_osNil)) (pa_asCons (pe_bt (bi_tuple c) rfl T.b_tuple bt_tuple (pa_osCons (po_V (pe_bin (opr_add c) (po_V (pe_slc c (po_S (pv 2)) (po_pInt (pe_var' (pv 4))) po_pNo)) (po_V (pe_slc c (po_S (pv 2)) po_pNo (po_pInt (pe_var' (pv 4))))))) pa_osNil)) (pa_asCons (pe_bt (bi_tuple c) rfl T.b_tuple bt_tuple (pa_osCons (po_V (pe_rev c (po_S (pv 2)))) pa_osNil)) (pa_asCons (pe_bt (bi_tuple c) rfl T.b_tuple bt_tuple (pa_osCons (po_V (pe_slc c (po_S (pv 2)) po_pNo (po_pInt (pe_neg (po_V pe_ci))))) pa_osNil)) (pa_asCons (pe_bt (bi_tuple c) rfl T.b_tuple bt_tuple (pa_osCons (po_V (pe_bin (opr_mul c) (po_S (pv 2)) (po_V pe_ci))) pa_osNil)) (pa_asCons (pe_bt (bi_list c) rfl T.b_list bt_list (pa_osCons (po_S (pv 2)) pa_osNil)) pa_asNil)))))))) ((nio 5).resolve_right (by decide)))
    (pss_cons' (ps_asg' (i := 5) nd rfl (by first | exact .inl rfl | exact .inr rfl) (pe_frz (pe_bin (opr_add c) (po_S (pv 5)) (po_V (pe_lst' (pa_asCons (pe_bt (bi_tuple c) rfl T.b_tuple bt_tuple (pa_osCons (po_V (pe_bin (opr_add c) (po_V (pe_bin (opr_add c) (po_V (pe_slc c (po_S (pv 2)) po_pNo (po_pInt (pe_var' (pv 4))))) (po_V (pe_lst' (pa_asCons (pe_idx c (po_S (pv 3)) (po_V (pe_cD d__law_draw (hr.le (by decide)) rfl tk (pa_osCons (po_S (pv 0)) (pa_osCons (po_V (pe_frz (pe_bi (bi_len c) rfl T.b_len bf_len (pa_osCons (po_S (pv 3)) pa_osNil)))) pa_osNil))))) pa_asNil))))) (po_V (pe_slc c (po_S (pv 2)) (po_pInt (pe_bin (opr_add c) (po_S (pv 4)) (po_V pe_ci))) po_pNo)))) pa_osNil)) (pa_asCons (pe_bt (bi_tuple c) rfl T.b_tuple bt_tuple (pa_osCons (po_V (pe_bin (opr_add c) (po_S (pv 2)) (po_V (pe_slc c (po_S (pv 2)) po_pNo (po_pInt pe_ci))))) pa_osNil)) pa_asNil)))))) ((nio 5).resolve_right (by decide)))
    (pss_cons' (ps_asg' (i := 5) nd rfl (by first | exact .inl rfl | exact .inr rfl) (pe_frz (pe_bin (opr_add c) (po_S (pv 5)) (po_V (pe_lst' (pa_asCons (pe_tup' (pa_asCons (pe_idx c (po_S (pv 3)) (po_V pe_ci)) pa_asNil)) (pa_asCons (pe_tup' pa_asNil) (pa_asCons (pe_cst pe_non fun _ => rep_non.mpr rfl) (pa_asCons (pe_idx c (po_S (pv 3)) (po_V pe_ci)) (pa_asCons (pe_cst pe_bl fun _ => rep_bl.mpr rfl) (pa_asCons pe_ci (pa_asCons pe_dNewK (pa_asCons (pe_tup' (pa_asCons (pe_cst pe_non fun _ => rep_non.mpr rfl) pa_asNil)) (pa_asCons (pe_tup' (pa_asCons pe_ci (pa_asCons pe_ci pa_asNil))) (pa_asCons (pe_tup' (pa_asCons (pe_idx c (po_S (pv 2)) (po_V pe_ci)) (pa_asCons (pe_cst pe_non fun _ => rep_non.mpr rfl) pa_asNil))) (pa_asCons (pe_tup' (pa_asCons (pe_tup' (pa_asCons pe_cs pa_asNil)) pa_asNil)) (pa_asCons (pe_tup' (pa_asCons (pe_lst' pa_asNil) pa_asNil)) pa_asNil)))))))))))))))) ((nio 5).resolve_right (by decide)))
    (pss_one' (ps_ret' (pe_bin (opr_add c) (po_S (pv 5)) (po_V (pe_lst' (pa_asCons (pe_bt (bi_tuple c) rfl T.b_tuple bt_tuple (pa_osCons (po_V (pe_cD d__law_shuffled (hr.le (by decide)) rfl tk (pa_osCons (po_S (pv 0)) (pa_osCons (po_V (pe_var' (pv 3))) pa_osNil)))) pa_osNil)) (pa_asCons (pe_bt (bi_tuple c) rfl T.b_tuple bt_tuple (pa_osCons (po_V (pe_slc c (po_S (pv 3)) po_pNo (po_pInt pe_ci))) pa_osNil)) (pa_asCons (pe_tup' (pa_asCons pe_cs pa_asNil)) (pa_asCons (pe_var' (pv 1)) pa_asNil)))))))))))))))
theorem ok_is_ring (T : Txt K mg) : DefP P w K mg base ⟨K, cmK K, []⟩ 1 "is_ring" s_is_ring ["needs", "thing"] g_is_ring := by
  obtain ⟨fd, F⟩ := T.d_is_ring
  refine def_mk (N := ["needs", "thing", "name", "other"]) (ios := [0, 1]) (k := 0) T.g_is_ring F sc_is_ring (fun cdv A0 outer s H E hr => ⟨fun A W hw hio tk => ?_⟩) (fun _ _ _ _ _ _ us hl => match us, hl with | [_, _], _ => rfl)
  have c := cal_of (CXx := L2.CX P w) (Tb := []) (CM := cmK K) (N := ["needs", "thing", "name", "other"]) (mg := mg) (P := P) (w := w) (K := K) (base := base) (E := E) (cdv := cdv) (H := H) (s := s) (A := A0) (outer := outer) (qual := "is_ring") (scope := defScope s_is_ring) (k := 0) hr T.sysm
  have hC : ∀ x : Str, A.w.CM x = some (He.ga K x) := fun x => by rw [hw]; rfl
  have hK : A.w.K = K := by rw [hw]
  rw [← hw] at c
  have nd : (["needs", "thing", "name", "other"] : List Str).Nodup := sc_is_ring.nd
  have nio : ∀ i, i ∉ A.io ∨ i ∈ [0, 1] := fun i => by by_cases h : i ∈ A.io; exact .inr (hio i h); exact .inl h
  exact (pss_cons' (ps_if' (PW.pt (pw_or' (pt_not' (pt_tst (pe_bi (bi_isi c) rfl T.b_isinstance bf_isinstance (pa_osCons (po_S (pv 1)) (pa_osCons (po_V (pe_tyN rfl T.b_tuple bt_tuple)) pa_osNil))))) (pw_or1 (pt_cmpV (opr_eqX c) (po_V (pe_bi (bi_len c) rfl T.b_len bf_len (pa_osCons (po_S (pv 1)) pa_osNil))) (po_V pe_ci))))) (pss_one' (ps_ret' (pe_cst pe_bl fun _ => rep_bl.mpr rfl))) pss_nil')
    (pss_cons' (ps_if' (PW.pt (pw_or' (pt_not' (pt_tst (pe_bi (bi_all c) rfl T.b_all bf_all (pa_osCons (po_V (pe_lcM rfl nd (pi_V c.K (pe_var' (pv 1))) (blkOk_by (own := [("name", 2)]) (by rfl)) (fun _ _ _ _ _ => (pg_N (i := 2) nd rfl (by first | exact .inl rfl | exact .inr rfl) ((nio 2).resolve_right (by decide)))) (fun _ _ _ _ _ => pts_no) (fun _ _ _ _ _ => (pe_andV (pe_bi (bi_isi (Cal.blk c)) rfl T.b_isinstance bf_isinstance (pa_osCons (po_S (pv 2)) (pa_osCons (po_V (pe_tyN rfl T.b_str bt_str)) pa_osNil))) (pe_one (pe_cmpV (opr_inX (Cal.blk c)) (po_S (pv 2)) (po_S (pv 0)))))) (tok_N 2) (by decide) (fun i hi => (by decide : ∀ i ∈ ([0, 1] : List Nat), i ∉ _) i (hio i hi)))) pa_osNil)))) (pw_or1 (pt_cmpV opr_lt (po_V (pe_lenSet c rfl T.b_len rfl T.b_set (pe_var' (pv 1)))) (po_V (pe_bi (bi_len c) rfl T.b_len bf_len (pa_osCons (po_S (pv 1)) pa_osNil))))))) (pss_one' (ps_ret' (pe_cst pe_bl fun _ => rep_bl.mpr rfl))) pss_nil')
    (pss_one' (ps_ret' (pe_bi (bi_all c) rfl T.b_all bf_all (pa_osCons (po_V (pe_lcM rfl nd (pi_zip2 c.K rfl T.b_zip (pa_asCons (pe_var' (pv 1)) (pa_asCons (pe_tup' (pa_asStar c (pe_slc c (po_S (pv 1)) (po_pInt pe_ci) po_pNo) (pa_asCons (pe_idx c (po_S (pv 1)) (po_V pe_ci)) pa_asNil))) pa_asNil))) (blkOk_by (own := [("name", 2), ("other", 3)]) (by rfl)) (fun _ _ _ _ _ => (pg_T rfl (Cal.blk c).K (pgs_Cons (pg_N (i := 2) nd rfl (by first | exact .inl rfl | exact .inr rfl) ((nio 2).resolve_right (by decide))) (pgs_Cons (pg_N (i := 3) nd rfl (by first | exact .inl rfl | exact .inr rfl) ((nio 3).resolve_right (by decide))) pgs_Nil)) (tl_cons (tl_cons tl_nil)))) (fun _ _ _ _ _ => pts_no) (fun _ _ _ _ _ => (pe_cmpV (opr_inX (Cal.blk c)) (po_S (pv 3)) (po_V (pe_idx (Cal.blk c) (po_S (pv 0)) (po_S (pv 2)))))) (tok_T (tsok_cons (tok_N 2) (tsok_cons (tok_N 3) tsok_nil))) (by decide) (fun i hi => (by decide : ∀ i ∈ ([0, 1] : List Nat), i ∉ _) i (hio i hi)))) pa_osNil))))))
theorem ok__law_is_ring (T : Txt K mg) : DefP P w K mg base ⟨K, cmK K, []⟩ 1 "_law_is_ring" s__law_is_ring ["_law_needs", "_law_thing"] g__law_is_ring := by
  obtain ⟨fd, F⟩ := T.d__law_is_ring
  refine def_mk (N := ["_law_needs", "_law_thing", "_law_k"]) (ios := [0, 1]) (k := 0) T.g__law_is_ring F sc__law_is_ring (fun cdv A0 outer s H E hr => ⟨fun A W hw hio tk => ?_⟩) (fun _ _ _ _ _ _ us hl => match us, hl with | [_, _], _ => rfl)
  have c := cal_of (CXx := L2.CX P w) (Tb := []) (CM := cmK K) (N := ["_law_needs", "_law_thing", "_law_k"]) (mg := mg) (P := P) (w := w) (K := K) (base := base) (E := E) (cdv := cdv) (H := H) (s := s) (A := A0) (outer := outer) (qual := "_law_is_ring") (scope := defScope s__law_is_ring) (k := 0) hr T.sysm
  have hC : ∀ x : Str, A.w.CM x = some (He.ga K x) := fun x => by rw [hw]; rfl
  have hK : A.w.K = K := by rw [hw]
  rw [← hw] at c
  have nd : (["_law_needs", "_law_thing", "_law_k"] : List Str).Nodup := sc__law_is_ring.nd
  have nio : ∀ i, i ∉ A.io ∨ i ∈ [0, 1] := fun i => by by_cases h : i ∈ A.io; exact .inr (hio i h); exact .inl h
  exact (pss_cons' (ps_if' (PW.pt (pw_or' (pt_not' (pt_tst (pe_bi (bi_isi c) rfl T.b_isinstance bf_isinstance (pa_osCons (po_S (pv 1)) (pa_osCons (po_V (pe_tyN rfl T.b_tuple bt_tuple)) pa_osNil))))) (pw_or1 (pt_cmpV (opr_eqX c) (po_S (pv 1)) (po_V (pe_tup' pa_asNil)))))) (pss_one' (ps_ret' (pe_cst pe_bl fun _ => rep_bl.mpr rfl))) pss_nil')
    (pss_cons' (ps_for' (passes_of rfl) rfl (pi_rng1 rfl T.b_range (pa_asCons (pe_bi (bi_len c) rfl T.b_len bf_len (pa_osCons (po_S (pv 1)) pa_osNil)) pa_asNil)) (pg_N (i := 2) nd rfl (by first | exact .inl rfl | exact .inr rfl) ((nio 2).resolve_right (by decide))) (pss_one' (ps_if' (PW.pt (pw_or' (pt_not' (pt_tst (pe_bi (bi_isi c) rfl T.b_isinstance bf_isinstance (pa_osCons (po_V (pe_idx c (po_S (pv 1)) (po_S (pv 2)))) (pa_osCons (po_V (pe_tyN rfl T.b_str bt_str)) pa_osNil))))) (pw_or' (pt_cmpV (opr_notInX c) (po_V (pe_idx c (po_S (pv 1)) (po_S (pv 2)))) (po_S (pv 0))) (pw_or1 (pt_cmpV (opr_inX c) (po_V (pe_idx c (po_S (pv 1)) (po_S (pv 2)))) (po_V (pe_slc c (po_S (pv 1)) po_pNo (po_pInt (pe_var' (pv 2)))))))))) (pss_one' (ps_ret' (pe_cst pe_bl fun _ => rep_bl.mpr rfl))) pss_nil')))
    (pss_cons' (ps_for' (passes_of rfl) rfl (pi_rng1 rfl T.b_range (pa_asCons (pe_bi (bi_len c) rfl T.b_len bf_len (pa_osCons (po_S (pv 1)) pa_osNil)) pa_asNil)) (pg_N (i := 2) nd rfl (by first | exact .inl rfl | exact .inr rfl) ((nio 2).resolve_right (by decide))) (pss_one' (ps_if' (pt_cmpV (opr_notInX c) (po_V (pe_idx c (po_S (pv 1)) (po_V (pe_bin (opr_mod c) (po_V (pe_bin (opr_add c) (po_S (pv 2)) (po_V pe_ci))) (po_V (pe_bi (bi_len c) rfl T.b_len bf_len (pa_osCons (po_S (pv 1)) pa_osNil))))))) (po_V (pe_idx c (po_S (pv 0)) (po_V (pe_idx c (po_S (pv 1)) (po_S (pv 2))))))) (pss_one' (ps_ret' (pe_cst pe_bl fun _ => rep_bl.mpr rfl))) pss_nil')))
    (pss_one' (ps_ret' (pe_cst pe_bl fun _ => rep_bl.mpr rfl))))))
theorem ok_law (T : Txt K mg) : DefP P w K mg base ⟨K, cmK K, []⟩ 4 "law" s_law ["_law_script"] g_law := by
  obtain ⟨fd, F⟩ := T.d_law
  have e__law_pen := ok__law_pen (P := P) (w := w) (base := base) T
  have e__law_tangle := ok__law_tangle (P := P) (w := w) (base := base) T
  have e__law_draw := ok__law_draw (P := P) (w := w) (base := base) T
  have e__law_things := ok__law_things (P := P) (w := w) (base := base) T
  have e_is_ring := ok_is_ring (P := P) (w := w) (base := base) T
  have e__law_is_ring := ok__law_is_ring (P := P) (w := w) (base := base) T
  refine def_mk (N := ["_law_script", "_law_pen_here", "_law_turn", "_law_needs", "_law_kept", "_law_thing"]) (ios := [0]) (k := 3) T.g_law F sc_law (fun cdv A0 outer s H E hr => ⟨fun A W hw hio tk => ?_⟩) (fun _ _ _ _ _ _ us hl => match us, hl with | [_], _ => rfl)
  have c := cal_of (CXx := L2.CX P w) (Tb := []) (CM := cmK K) (N := ["_law_script", "_law_pen_here", "_law_turn", "_law_needs", "_law_kept", "_law_thing"]) (mg := mg) (P := P) (w := w) (K := K) (base := base) (E := E) (cdv := cdv) (H := H) (s := s) (A := A0) (outer := outer) (qual := "law") (scope := defScope s_law) (k := 3) hr T.sysm
  have hC : ∀ x : Str, A.w.CM x = some (He.ga K x) := fun x => by rw [hw]; rfl
  have hK : A.w.K = K := by rw [hw]
  rw [← hw] at c
  have d__law_pen := e__law_pen; rw [← hw] at d__law_pen; clear e__law_pen
  have d__law_tangle := e__law_tangle; rw [← hw] at d__law_tangle; clear e__law_tangle
  have d__law_draw := e__law_draw; rw [← hw] at d__law_draw; clear e__law_draw
  have d__law_things := e__law_things; rw [← hw] at d__law_things; clear e__law_things
  have d_is_ring := e_is_ring; rw [← hw] at d_is_ring; clear e_is_ring
  have d__law_is_ring := e__law_is_ring; rw [← hw] at d__law_is_ring; clear e__law_is_ring
  have nd : (["_law_script", "_law_pen_here", "_law_turn", "_law_needs", "_law_kept", "_law_thing"] : List Str).Nodup := sc_law.nd
  have nio : ∀ i, i ∉ A.io ∨ i ∈ [0] := fun i => by by_cases h : i ∈ A.io; exact .inr (hio i h); exact .inl h
  exact (pss_cons' (ps_asg' (i := 1) nd rfl (by first | exact .inl rfl | exact .inr rfl) (pe_cD d__law_pen (hr.le (by decide)) rfl tk (pa_osCons (po_V (pe_var' (pv 0))) pa_osNil)) ((nio 1).resolve_right (by decide)))
    (pss_cons' (ps_for' (passes_of rfl) rfl (pi_rng1 rfl T.b_range (pa_asCons pe_ci pa_asNil)) (pg_N (i := 2) nd rfl (by first | exact .inl rfl | exact .inr rfl) ((nio 2).resolve_right (by decide))) (pss_cons' (ps_asg' (i := 3) nd rfl (by first | exact .inl rfl | exact .inr rfl) (pe_frz (pe_cD d__law_tangle (hr.le (by decide)) rfl tk (pa_osCons (po_S (pv 1)) (pa_osCons (po_V (pe_frz (pe_bin (opr_add c) (po_V pe_ci) (po_V (pe_cD d__law_draw (hr.le (by decide)) rfl tk (pa_osCons (po_S (pv 1)) (pa_osCons (po_V pe_ci) pa_osNil))))))) pa_osNil)))) ((nio 3).resolve_right (by decide)))
    (pss_cons' (ps_asg' (i := 4) nd rfl (by first | exact .inl rfl | exact .inr rfl) (pe_frz (pe_bi (bi_reprX c) rfl T.b_repr bf_repr (pa_osCons (po_S (pv 3)) pa_osNil))) ((nio 4).resolve_right (by decide)))
    (pss_cons' (ps_for' (passes_of rfl) rfl (pi_V c.K (pe_cD d__law_things (hr.le (by decide)) rfl tk (pa_osCons (po_S (pv 1)) (pa_osCons (po_V (pe_var' (pv 3))) pa_osNil)))) (pg_N (i := 5) nd rfl (by first | exact .inl rfl | exact .inr rfl) ((nio 5).resolve_right (by decide))) (pss_one' (ps_if' (pt_cmpV (opr_neX c) (po_V (pe_bi (bi_reprX c) rfl T.b_repr bf_repr (pa_osCons (po_V (pe_cD d_is_ring (hr.le (by decide)) rfl tk (pa_osCons (po_V (pe_var' (pv 3))) (pa_osCons (po_V (pe_var' (pv 5))) pa_osNil)))) pa_osNil))) (po_V (pe_bi (bi_reprX c) rfl T.b_repr bf_repr (pa_osCons (po_V (pe_cD d__law_is_ring (hr.le (by decide)) rfl tk (pa_osCons (po_V (pe_var' (pv 3))) (pa_osCons (po_V (pe_var' (pv 5))) pa_osNil)))) pa_osNil)))) (pss_one' (ps_ret' (pe_cst pe_bl fun _ => rep_bl.mpr rfl))) pss_nil')))
    (pss_one' (ps_if' (pt_cmpV (opr_neX c) (po_V (pe_bi (bi_reprX c) rfl T.b_repr bf_repr (pa_osCons (po_S (pv 3)) pa_osNil))) (po_S (pv 4))) (pss_one' (ps_ret' (pe_cst pe_bl fun _ => rep_bl.mpr rfl))) pss_nil'))))))
    (pss_one' (ps_ret' (pe_andV (pe_cmpV opr_is (po_V (pe_cD d_is_ring (hr.le (by decide)) rfl tk (pa_osCons (po_V (pe_frz (pe_dsp (pps_Cons pe_cs (pe_tup' (pa_asCons pe_cs pa_asNil)) (pps_Cons pe_cs (pe_tup' (pa_asCons pe_cs pa_asNil)) pps_Nil))))) (pa_osCons (po_V (pe_tup' (pa_asCons pe_cs (pa_asCons pe_cs pa_asNil)))) pa_osNil)))) (po_V (pe_cst pe_bl fun _ => rep_bl.mpr rfl))) (pe_one (pe_cmpV opr_is (po_V (pe_cD d_is_ring (hr.le (by decide)) rfl tk (pa_osCons (po_V (pe_frz pe_dNewK)) (pa_osCons (po_V (pe_tup' pa_asNil)) pa_osNil)))) (po_V (pe_cst pe_bl fun _ => rep_bl.mpr rfl)))))))))
end
theorem law_fn {K : PySem.W.Frag} {mg : Str → Option Value} (T : Txt K mg) {P : Program} {w : World} {base : Heap} {f : Addr} {fd : FuncData} (hm : mg "law" = some (.ref f)) (F : FunP K "law" s_law f fd) : FnG P w K mg base (L2.CX P w) 12 f fd ["_law_script"] (spF ⟨K, cmK K, []⟩ 1 g_law) := (ok_law T).at hm F (by decide)
theorem txt {K : PySem.W.Frag} {h : Heap} {mg : Str → Option Value} (X : K.In h) (G : h.Ns mainGlobals mg) (c : SaysM fa fn K) : Txt K mg where
  d__law_pen := c.def_ 0 (d := d__law_pen) rfl
  d__law_draw := c.def_ 1 (d := d__law_draw) rfl
  d__law_names := c.def_ 2 (d := d__law_names) rfl
  d__law_shuffled := c.def_ 3 (d := d__law_shuffled) rfl
  d__law_tangle := c.def_ 4 (d := d__law_tangle) rfl
  d__law_walk := c.def_ 5 (d := d__law_walk) rfl
  d__law_things := c.def_ 6 (d := d__law_things) rfl
  d_is_ring := c.def_ 7 (d := d_is_ring) rfl
  d__law_is_ring := c.def_ 8 (d := d__law_is_ring) rfl
  d_law := c.def_ 9 (d := d_law) rfl
  g__law_pen := He.glo_ok X G (c.fact 0 (f := .fa (.glo "_law_pen")) rfl)
  g__law_draw := He.glo_ok X G (c.fact 1 (f := .fa (.glo "_law_draw")) rfl)
  g__law_names := He.glo_ok X G (c.fact 2 (f := .fa (.glo "_law_names")) rfl)
  g__law_shuffled := He.glo_ok X G (c.fact 3 (f := .fa (.glo "_law_shuffled")) rfl)
  g__law_tangle := He.glo_ok X G (c.fact 4 (f := .fa (.glo "_law_tangle")) rfl)
  g__law_walk := He.glo_ok X G (c.fact 5 (f := .fa (.glo "_law_walk")) rfl)
  g__law_things := He.glo_ok X G (c.fact 6 (f := .fa (.glo "_law_things")) rfl)
  g_is_ring := He.glo_ok X G (c.fact 7 (f := .fa (.glo "is_ring")) rfl)
  g__law_is_ring := He.glo_ok X G (c.fact 8 (f := .fa (.glo "_law_is_ring")) rfl)
  g_law := He.glo_ok X G (c.fact 9 (f := .fa (.glo "law")) rfl)
  sysm := (c.fact 10 (f := .sys) rfl)
  b_abs := He.free_ok X G (c.fact 11 (f := .fa (.free "abs")) rfl)
  b_all := He.free_ok X G (c.fact 12 (f := .fa (.free "all")) rfl)
  b_int := He.free_ok X G (c.fact 13 (f := .fa (.free "int")) rfl)
  b_isinstance := He.free_ok X G (c.fact 14 (f := .fa (.free "isinstance")) rfl)
  b_len := He.free_ok X G (c.fact 15 (f := .fa (.free "len")) rfl)
  b_list := He.free_ok X G (c.fact 16 (f := .fa (.free "list")) rfl)
  b_range := He.free_ok X G (c.fact 17 (f := .fa (.free "range")) rfl)
  b_repr := He.free_ok X G (c.fact 18 (f := .fa (.free "repr")) rfl)
  b_set := He.free_ok X G (c.fact 19 (f := .fa (.free "set")) rfl)
  b_str := He.free_ok X G (c.fact 20 (f := .fa (.free "str")) rfl)
  b_tuple := He.free_ok X G (c.fact 21 (f := .fa (.free "tuple")) rfl)
  b_zip := He.free_ok X G (c.fact 22 (f := .fa (.free "zip")) rfl)
end K11
open PySem PySem.W PySem.Calls PyProof.Rows
theorem PySem.Challenge.cw_passwidth_k11_what_is_a_ring_holds : PySem.Challenge.rw_passwidth_k11_what_is_a_ring.Holds := by
  w_on; o_law
  refine HandSHeadRun.head_any (r := OpenLaw.row PySem.Challenge.rw_passwidth_k11_what_is_a_ring) (q := view (OpenLaw.row PySem.Challenge.rw_passwidth_k11_what_is_a_ring).prog [12]) (H := K11.hk) (ob := K11.ob) (M := 3000) (loose := K11.loose) (d := HandSHeadRun.topDef (OpenLaw.row PySem.Challenge.rw_passwidth_k11_what_is_a_ring).prog 12) (kwd := []) K11.ob_eq
    (by kernel_rfl) (fun s => by kernel_rfl) K11.run (by kernel_rfl) (by kernel_rfl) (by kernel_rfl) (by rfl) (by first | assumption | decide +kernel) (by decide +kernel) ⟨rfl, rfl, rfl, rfl, rfl, by decide +kernel⟩ ?hw ?hc
  case hw => w_witness2
  case hc =>
    refine M.walk_end (l := PySem.Challenge.rw_passwidth_k11_what_is_a_ring) (n := 63) (k := 12) (x := "_law_script") rfl (by decide) (by kernel_rfl) M.roomG_top ?F
    intro w mg fa h Y G hmg0
    obtain ⟨K, KX, c⟩ := Y
    have hmg : mg ("law" : PySem.Str) = some (.ref fa) := by
      have e : (HandSHeadRun.topDef (OpenLaw.row PySem.Challenge.rw_passwidth_k11_what_is_a_ring).prog 12).name = ("law" : PySem.Str) := by kernel_rfl
      rw [← e]
      exact hmg0
    have T := K11.txt KX G c
    obtain ⟨fd, F⟩ := T.d_law
    have hm := T.g_law
    have ef := hmg.symm.trans hm
    cases ef
    refine ⟨K, M.cmK K, fd, K11.g_law, KX, fun s v => L2.FunD.bindsA (ps := ["_law_script"]) F (fun _ _ _ _ _ _ us hl => match us, hl with | [_], _ => rfl) s [v] rfl, K11.holds, fun base _ _ => ?_⟩
    exact K11.law_fn T hm F
