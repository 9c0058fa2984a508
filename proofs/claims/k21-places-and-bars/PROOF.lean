import PyProof.Rows.All
import Wide.All
import OpenK.AllK
import Wide.FinOn
import HandS.ForMost
import HandS.Lambda
import KE.KeyNested
import KE.KDictCopyH
import HandS.Exc
import HandS.ExcOwn
import HandS.WordsExc
import HandS.IsInst
import HandS.Deep
import HandS.Style
import HandS.Text
import HandS.TupAny
import HandS.RaiseMore
import HandS.WordsDict
import HandS.TupLen
import HandS.More
import HandS.SetFor
import HandS.Strs
import HandS.Zip
import HandS.Star
import HandS.Ends
import HandS.Comp
import HandS.Defaults
import HandS.HeadHook1
import HandS.HeadHook2
import HandS.Head0
import HandS.Head1
import HandS.Head2
import PyProof.FitsInt
import PyProof.StrLawsRepr
import HandS.Property
import HandS.ClsMeth
import HandS.HeadNt
import HandS.DictComp
import HandS.FStr
import KE.GoesMore
import KE.GoesEnum
import PyProof.DictUpdate
import PyProof.DictDisplay
import KE.KDictOf
import HandS.StrMore
import HandS.HeadHook3
import HandS.ExcInit
import HandS.ExcField
import HandS.ExcIs
import KE.KExcInit
import KE.KEqDict
import KE.KTryMore
import HandS.TryOnly
import HandS.TryMany
import KE.KIsAll
import KE.KIntText
import PyProof.Rows.ReprOcc
import PyProof.InstNe
import KE.DataEq
import KE.KCallOwn
import PyProof.EqKinds
import PyProof.FactsAll.dict_1
import PyProof.FactsAll.subtypes_4
import HandS.TupLe
import KE.KDictPairs
import HandS.EndTab
import HandS.EndOwn
import PyProof.DictRoadsH
import HandS.HeadEnd
import PySem.Challenge.RW_passwidth_k21_places_and_bars
set_option Elab.async false
set_option linter.all false
set_option autoImplicit false
set_option maxRecDepth 100000
set_option maxHeartbeats 4000000
namespace M
open PySem L2

inductive Val where
  | non | bl (b : Bool) | int (i : Int) | str (s : Str)
  | tup (xs : List Val) | lst (xs : List Val) | dct (t : Bool) (kvs : List (Val × Val))
  | obj (c : Str) (fs : List (Str × Val))
  /-- an exception of an own class, its fields -/
  | exc (c : Str) (fs : List (Str × Val))
  | ty (n : String) | cls (c : Str)
  /-- the law's script -/
  | scr (ns : List Int)
  /-- a list of containers that belong to it alone -/
  | ows (ds : List Val)
  /-- an object; true: the field's container belongs to it alone -/
  | oob (c : Str) (fs : List (Str × Bool × Val))

/-- the world: the written part, the own classes -/
structure Wd where
  K : PySem.W.Frag
  CM : Str → Option Addr
  /-- the tables of code objects that lambdas write, with the lambdas' names -/
  T : List (Addr × Str)
  /-- what texts hash to -/
  W : World

/-- at a: an exception of the class at C, its dict -/
def exV (C : Addr) (d : Option Addr) (a : Addr) : HO := .ext fun h => ∃ (oe : Obj) (vs : Array Value), h.get? a = some oe ∧ oe.cls = .ref C ∧ oe.dict = d ∧ oe.data = .fields vs
def kv : Key → Val
  | .inl i => .int i
  | .inr s => .str s

def kb : Key → Prop
  | .inl _ => True
  | .inr s => s.length ≤ sizeLine

mutual
/-- a value as a key of a dict: True is 1 -/
def keyN : Val → Option NestedKey
  | .non => some .none
  | .bl b => some (.num (if b = true then 1 else 0))
  | .int i => some (.num i)
  | .str s => some (.text s)
  | .tup ds => match keysN ds with
    | some ks => some (.tup ks)
    | none => none
  | .lst _ | .dct _ _ | .obj _ _ | .exc _ _ | .ty _ | .cls _ | .scr _ | .ows _ | .oob _ _ => none
def keysN : List Val → Option (List NestedKey)
  | [] => some []
  | d :: ds => match keyN d with
    | some k => match keysN ds with
      | some ks => some (k :: ks)
      | none => none
    | none => none
end
/-- a dict stands at a, its keys of any sort: each key, what stands for it, its value -/
def dxP (w : World) (a : Addr) (kbs : List (NestedKey × V × V)) (h : Heap) : Prop :=
  ∃ (o : Obj) (es : Array DictEntry) (ep : Nat), h.get? a = some o ∧ o.ExactDict ∧ o.data = .dict es ep ∧
    Paired (fun (p : NestedKey × V × V) (e : DictEntry) => e.hash = p.1.hash w ∧ RelV p.2.1 e.key ∧ RelV p.2.2 e.val) kbs es.toList ∧ (kbs.map (·.1)).Nodup ∧ kbs.length ≤ sizeLine ∧ (a == sysModules) = false
def DX (w : World) (a : Addr) (kbs : List (NestedKey × V × V)) : HO := .ext (dxP w a kbs)

mutual
/-- a frozen value: x stands for v in the heap G, which never changes -/
def Rep (A : Wd) (G : Hp) : Val → V → Prop
  | .non, x => x = .non
  | .bl b, x => x = .bl b
  | .int i, x => x = .int i
  | .str s, x => x = .str s ∧ s.length ≤ sizeLine
  | .tup ds, x => ∃ a xs, x = .ref a ∧ SqT A.K G a xs ∧ Reps A G ds xs
  | .lst ds, x => ∃ a xs, x = .ref a ∧ G a = some (.lst xs) ∧ Reps A G ds xs
  | .dct t ds, x => ∃ a, x = .ref a ∧ ((t = false ∧ ∃ kvs o, G a = some (.frz o (.dK kvs)) ∧ RepK A G ds kvs) ∨ (t = true ∧ ∃ kvs, G a = some (DX A.W a kvs) ∧ RepT A G ds kvs))
  | .obj c fs, x => ∃ a C dx xs, x = .ref a ∧ G a = some (.ins C dx xs) ∧ A.CM c = some C ∧ RepF A G fs xs
  | .exc c fs, x => ∃ a C d, x = .ref a ∧ G a = some (exV C d a) ∧ A.CM c = some C ∧ ((d = none ∧ fs = []) ∨ ∃ dd xs, d = some dd ∧ G dd = some (.xd xs) ∧ RepF A G fs xs)
  | .ty n, x => x = .ty n
  | .cls c, x => ∃ C, A.CM c = some C ∧ x = .ref C
  | .scr ns, x => ∃ a, x = .ref a ∧ SqL A.K G a (ns.map V.int)
  | .ows ds, x => ∃ a xs, x = .ref a ∧ G a = some (.lst xs) ∧ Reps A G ds xs
  | .oob c fs, x => ∃ a C dx xs, x = .ref a ∧ G a = some (.ins C dx xs) ∧ A.CM c = some C ∧ RepO A G fs xs
def Reps (A : Wd) (G : Hp) : List Val → List V → Prop
  | [], xs => xs = []
  | d :: ds, xs => ∃ y ys, xs = y :: ys ∧ Rep A G d y ∧ Reps A G ds ys
def RepK (A : Wd) (G : Hp) : List (Val × Val) → List (Key × V) → Prop
  | [], xs => xs = []
  | (k, d) :: ds, xs => ∃ q y ys, xs = (q, y) :: ys ∧ (k = kv q ∧ kb q) ∧ Rep A G d y ∧ RepK A G ds ys
def RepT (A : Wd) (G : Hp) : List (Val × Val) → List (NestedKey × V × V) → Prop
  | [], xs => xs = []
  | (k, d) :: ds, xs => ∃ q z y ys, xs = (q, z, y) :: ys ∧ keyN k = some q ∧ Rep A G k z ∧ Rep A G d y ∧ RepT A G ds ys
def RepF (A : Wd) (G : Hp) : List (Str × Val) → List (Str × V) → Prop
  | [], xs => xs = []
  | (k, d) :: ds, xs => ∃ y ys, xs = (k, y) :: ys ∧ Rep A G d y ∧ RepF A G ds ys
def RepO (A : Wd) (G : Hp) : List (Str × Bool × Val) → List (Str × V) → Prop
  | [], xs => xs = []
  | (k, _, d) :: ds, xs => ∃ y ys, xs = (k, y) :: ys ∧ Rep A G d y ∧ RepO A G ds ys
end

/-- G' knows at least what G knows -/
def Le (G G' : Hp) : Prop := ∀ a o, G a = some o → G' a = some o
theorem Le.refl (G : Hp) : Le G G := fun _ _ h => h
theorem Le.trans {G G1 G2 : Hp} (a : Le G G1) (b : Le G1 G2) : Le G G2 := fun x o h => b x o (a x o h)
theorem Le.back {G G' : Hp} (h : Le G G') {a : Addr} (e : G' a = none) : G a = none := by
  cases q : G a with
  | none => rfl
  | some o => rw [h a o q] at e; cases e
theorem Le.new {G : Hp} {p : Addr} {o : HO} (h : G p = none) : Le G (upd G p o) := fun a u e => by
  rw [upd_ne (ne_of_none e h)]; exact e
theorem Le.upd2 {G H : Hp} {p : Addr} {o : HO} (h : Le G H) : Le (upd G p o) (upd H p o) := fun a u e => by
  by_cases q : a = p
  · subst q; rw [upd_same] at e ⊢; exact e
  · rw [upd_ne q] at e ⊢; exact h a u e
theorem Le.updR {G H : Hp} {p : Addr} {o : HO} (h : Le G H) (n : G p = none) : Le G (upd H p o) := fun a u e => by
  rw [upd_ne (ne_of_none e n)]; exact h a u e
theorem rd_mono {G G' : Hp} (h : Le G G') {a : Addr} {u : HO} (r : Rd G a u) : Rd G' a u := by
  rcases r with r | ⟨o, r⟩
  · exact .inl (h _ _ r)
  · exact .inr ⟨o, h _ _ r⟩
theorem sql_mono {K : PySem.W.Frag} {G G' : Hp} (h : Le G G') {a : Addr} {xs : List V} (r : SqL K G a xs) : SqL K G' a xs := r.elim (fun r => .inl (rd_mono h r)) .inr
theorem sqt_mono {K : PySem.W.Frag} {G G' : Hp} (h : Le G G') {a : Addr} {xs : List V} (r : SqT K G a xs) : SqT K G' a xs := r.elim (fun r => .inl (rd_mono h r)) .inr

section
variable {A : Wd} {G G' H H' : Hp}
mutual
theorem Rep.mono (h : Le G G') : ∀ {v : Val} {x : V}, Rep A G v x → Rep A G' v x
  | .non, _, r => by rw [Rep] at r ⊢; exact r
  | .bl _, _, r => by rw [Rep] at r ⊢; exact r
  | .int _, _, r => by rw [Rep] at r ⊢; exact r
  | .str _, _, r => by rw [Rep] at r ⊢; exact r
  | .tup ds, _, r => by
    rw [Rep] at r ⊢; obtain ⟨a, xs, e, q, r⟩ := r
    exact ⟨a, xs, e, sqt_mono h q, Reps.mono h r⟩
  | .lst ds, _, r => by
    rw [Rep] at r ⊢; obtain ⟨a, xs, e, q, r⟩ := r
    exact ⟨a, xs, e, h _ _ q, Reps.mono h r⟩
  | .dct t ds, _, r => by
    rw [Rep] at r ⊢; obtain ⟨a, e, ⟨ht, kvs, o, q, r⟩ | ⟨ht, kvs, q, r⟩⟩ := r
    · exact ⟨a, e, .inl ⟨ht, kvs, o, h _ _ q, RepK.mono h r⟩⟩
    · exact ⟨a, e, .inr ⟨ht, kvs, h _ _ q, RepT.mono h r⟩⟩
  | .obj c fs, _, r => by
    rw [Rep] at r ⊢; obtain ⟨a, C, dx, xs, e, q, m, r⟩ := r
    exact ⟨a, C, dx, xs, e, h _ _ q, m, RepF.mono h r⟩
  | .exc c fs, _, r => by
    rw [Rep] at r ⊢; obtain ⟨a, C, d, e, q, m, r⟩ := r
    refine ⟨a, C, d, e, h _ _ q, m, ?_⟩
    rcases r with r | ⟨dd, xs, e2, q2, r⟩
    · exact .inl r
    · exact .inr ⟨dd, xs, e2, h _ _ q2, RepF.mono h r⟩
  | .ty _, _, r => by rw [Rep] at r ⊢; exact r
  | .cls _, _, r => by rw [Rep] at r ⊢; exact r
  | .scr _, _, r => by
    rw [Rep] at r ⊢; obtain ⟨a, e, q⟩ := r
    exact ⟨a, e, sql_mono h q⟩
  | .ows ds, _, r => by
    rw [Rep] at r ⊢; obtain ⟨a, xs, e, q, r⟩ := r
    exact ⟨a, xs, e, h _ _ q, Reps.mono h r⟩
  | .oob c fs, _, r => by
    rw [Rep] at r ⊢; obtain ⟨a, C, dx, xs, e, q, m, r⟩ := r
    exact ⟨a, C, dx, xs, e, h _ _ q, m, RepO.mono h r⟩
theorem Reps.mono (h : Le G G') : ∀ {ds : List Val} {xs : List V}, Reps A G ds xs → Reps A G' ds xs
  | [], _, r => by rw [Reps] at r ⊢; exact r
  | d :: ds, _, r => by
    rw [Reps] at r ⊢; obtain ⟨y, ys, e, r1, r2⟩ := r
    exact ⟨y, ys, e, Rep.mono h r1, Reps.mono h r2⟩
theorem RepK.mono (h : Le G G') : ∀ {ds : List (Val × Val)} {xs : List (Key × V)}, RepK A G ds xs → RepK A G' ds xs
  | [], _, r => by rw [RepK] at r ⊢; exact r
  | (k, d) :: ds, _, r => by
    rw [RepK] at r ⊢; obtain ⟨q, y, ys, e, e2, r1, r2⟩ := r
    exact ⟨q, y, ys, e, e2, Rep.mono h r1, RepK.mono h r2⟩
theorem RepT.mono (h : Le G G') : ∀ {ds : List (Val × Val)} {xs : List (NestedKey × V × V)}, RepT A G ds xs → RepT A G' ds xs
  | [], _, r => by rw [RepT] at r ⊢; exact r
  | (k, d) :: ds, _, r => by
    rw [RepT] at r ⊢; obtain ⟨q, z, y, ys, e, e2, r0, r1, r2⟩ := r
    exact ⟨q, z, y, ys, e, e2, Rep.mono h r0, Rep.mono h r1, RepT.mono h r2⟩
theorem RepF.mono (h : Le G G') : ∀ {ds : List (Str × Val)} {xs : List (Str × V)}, RepF A G ds xs → RepF A G' ds xs
  | [], _, r => by rw [RepF] at r ⊢; exact r
  | (k, d) :: ds, _, r => by
    rw [RepF] at r ⊢; obtain ⟨y, ys, e, r1, r2⟩ := r
    exact ⟨y, ys, e, Rep.mono h r1, RepF.mono h r2⟩
theorem RepO.mono (h : Le G G') : ∀ {ds : List (Str × Bool × Val)} {xs : List (Str × V)}, RepO A G ds xs → RepO A G' ds xs
  | [], _, r => by rw [RepO] at r ⊢; exact r
  | (k, _, d) :: ds, _, r => by
    rw [RepO] at r ⊢; obtain ⟨y, ys, e, r1, r2⟩ := r
    exact ⟨y, ys, e, Rep.mono h r1, RepO.mono h r2⟩
end

theorem reps_nil {xs : List V} : Reps A G [] xs ↔ xs = [] := by rw [Reps]
theorem reps_cons {d : Val} {ds : List Val} {xs : List V} : Reps A G (d :: ds) xs ↔ ∃ y ys, xs = y :: ys ∧ Rep A G d y ∧ Reps A G ds ys := by rw [Reps]
theorem reps_one {d : Val} {x : V} (r : Rep A G d x) : Reps A G [d] [x] := reps_cons.mpr ⟨_, _, rfl, r, reps_nil.mpr rfl⟩
theorem reps_length : ∀ {ds : List Val} {xs : List V}, Reps A G ds xs → ds.length = xs.length
  | [], _, r => by rw [reps_nil] at r; subst r; rfl
  | d :: ds, _, r => by
    rw [reps_cons] at r; obtain ⟨y, ys, e, r1, r2⟩ := r
    subst e; simp [reps_length r2]
theorem reps_get : ∀ {ds : List Val} {xs : List V} {i : Nat} {d : Val}, Reps A G ds xs → ds[i]? = some d → ∃ x, xs[i]? = some x ∧ Rep A G d x
  | [], _, _, _, r, e => by simp at e
  | d :: ds, _, 0, _, r, e => by
    rw [reps_cons] at r; obtain ⟨y, ys, e1, r1, r2⟩ := r
    subst e1; simp at e; subst e; exact ⟨y, rfl, r1⟩
  | d :: ds, _, i + 1, _, r, e => by
    rw [reps_cons] at r; obtain ⟨y, ys, e1, r1, r2⟩ := r
    subst e1; simp at e; obtain ⟨x, h1, h2⟩ := reps_get r2 e
    exact ⟨x, by simpa using h1, h2⟩
theorem reps_get' : ∀ {ds : List Val} {xs : List V} {i : Nat} {x : V}, Reps A G ds xs → xs[i]? = some x → ∃ d, ds[i]? = some d ∧ Rep A G d x
  | [], _, _, _, r, e => by rw [reps_nil] at r; subst r; simp at e
  | d :: ds, _, 0, _, r, e => by
    rw [reps_cons] at r; obtain ⟨y, ys, e1, r1, r2⟩ := r
    subst e1; simp at e; subst e; exact ⟨d, rfl, r1⟩
  | d :: ds, _, i + 1, _, r, e => by
    rw [reps_cons] at r; obtain ⟨y, ys, e1, r1, r2⟩ := r
    subst e1; simp at e; obtain ⟨x, h1, h2⟩ := reps_get' r2 e
    exact ⟨x, by simpa using h1, h2⟩
theorem reps_append : ∀ {ds es : List Val} {xs ys : List V}, Reps A G ds xs → Reps A G es ys → Reps A G (ds ++ es) (xs ++ ys)
  | [], _, _, _, r, q => by rw [reps_nil] at r; subst r; simpa using q
  | d :: ds, es, _, ys, r, q => by
    rw [reps_cons] at r; obtain ⟨y, zs, e1, r1, r2⟩ := r
    subst e1; exact reps_cons.mpr ⟨_, _, rfl, r1, reps_append r2 q⟩
theorem reps_take : ∀ {ds : List Val} {xs : List V} (n : Nat), Reps A G ds xs → Reps A G (ds.take n) (xs.take n)
  | _, _, 0, _ => by simpa using reps_nil.mpr rfl
  | [], _, n + 1, r => by rw [reps_nil] at r; subst r; simpa using reps_nil.mpr rfl
  | d :: ds, _, n + 1, r => by
    rw [reps_cons] at r; obtain ⟨y, ys, e1, r1, r2⟩ := r
    subst e1; exact reps_cons.mpr ⟨_, _, rfl, r1, reps_take n r2⟩
theorem reps_drop : ∀ {ds : List Val} {xs : List V} (n : Nat), Reps A G ds xs → Reps A G (ds.drop n) (xs.drop n)
  | _, _, 0, r => by simpa using r
  | [], _, n + 1, r => by rw [reps_nil] at r; subst r; simpa using reps_nil.mpr rfl
  | d :: ds, _, n + 1, r => by
    rw [reps_cons] at r; obtain ⟨y, ys, e1, r1, r2⟩ := r
    subst e1; exact reps_drop n r2
theorem reps_set {d : Val} {x : V} (q : Rep A G d x) : ∀ {ds : List Val} {xs : List V} (i : Nat), Reps A G ds xs → Reps A G (ds.set i d) (xs.set i x)
  | [], _, _, r => by rw [reps_nil] at r; subst r; simpa using reps_nil.mpr rfl
  | e :: ds, _, 0, r => by
    rw [reps_cons] at r; obtain ⟨y, ys, e1, r1, r2⟩ := r
    subst e1; exact reps_cons.mpr ⟨_, _, rfl, q, r2⟩
  | e :: ds, _, i + 1, r => by
    rw [reps_cons] at r; obtain ⟨y, ys, e1, r1, r2⟩ := r
    subst e1; exact reps_cons.mpr ⟨_, _, rfl, r1, reps_set q i r2⟩
theorem reps_erase : ∀ {ds : List Val} {xs : List V} (i : Nat), Reps A G ds xs → Reps A G (ds.eraseIdx i) (xs.eraseIdx i)
  | [], _, _, r => by rw [reps_nil] at r; subst r; simpa using reps_nil.mpr rfl
  | e :: ds, _, 0, r => by
    rw [reps_cons] at r; obtain ⟨y, ys, e1, r1, r2⟩ := r
    subst e1; simpa using r2
  | e :: ds, _, i + 1, r => by
    rw [reps_cons] at r; obtain ⟨y, ys, e1, r1, r2⟩ := r
    subst e1; exact reps_cons.mpr ⟨_, _, rfl, r1, reps_erase i r2⟩
theorem reps_strs : ∀ {ss : List Str} {xs : List V}, Reps A G (ss.map Val.str) xs → xs = ss.map V.str
  | [], _, r => by rw [List.map_nil, reps_nil] at r; subst r; rfl
  | s :: ss, _, r => by
    rw [List.map_cons, reps_cons] at r; obtain ⟨y, ys, e, r1, r2⟩ := r
    rw [Rep] at r1; subst e; rw [r1.1, reps_strs r2]; rfl
theorem reps_ints : ∀ {ns : List Int} {xs : List V}, Reps A G (ns.map Val.int) xs → xs = ns.map V.int
  | [], _, r => by rw [List.map_nil, reps_nil] at r; subst r; rfl
  | s :: ss, _, r => by
    rw [List.map_cons, reps_cons] at r; obtain ⟨y, ys, e, r1, r2⟩ := r
    rw [Rep] at r1; subst e; rw [r1, reps_ints r2]; rfl
theorem reps_of_ints : ∀ {ns : List Int}, Reps A G (ns.map Val.int) (ns.map V.int)
  | [] => reps_nil.mpr rfl
  | n :: ns => reps_cons.mpr ⟨_, _, rfl, by rw [Rep], reps_of_ints⟩
theorem reps_bls : ∀ {ns : List Bool} {xs : List V}, Reps A G (ns.map Val.bl) xs → xs = ns.map V.bl
  | [], _, r => by rw [List.map_nil, reps_nil] at r; subst r; rfl
  | s :: ss, _, r => by
    rw [List.map_cons, reps_cons] at r; obtain ⟨y, ys, e, r1, r2⟩ := r
    rw [Rep] at r1; subst e; rw [r1, reps_bls r2]; rfl
theorem rep_non {x : V} : Rep A G .non x ↔ x = .non := by rw [Rep]
theorem rep_bl {b : Bool} {x : V} : Rep A G (.bl b) x ↔ x = .bl b := by rw [Rep]
theorem rep_int {i : Int} {x : V} : Rep A G (.int i) x ↔ x = .int i := by rw [Rep]
theorem rep_str {s : Str} {x : V} : Rep A G (.str s) x ↔ x = .str s ∧ s.length ≤ sizeLine := by rw [Rep]
theorem rep_ty {s : String} {x : V} : Rep A G (.ty s) x ↔ x = .ty s := by rw [Rep]
theorem rep_tup {ds : List Val} {x : V} : Rep A G (.tup ds) x ↔ ∃ a xs, x = .ref a ∧ SqT A.K G a xs ∧ Reps A G ds xs := by rw [Rep]
theorem rep_lst {ds : List Val} {x : V} : Rep A G (.lst ds) x ↔ ∃ a xs, x = .ref a ∧ G a = some (.lst xs) ∧ Reps A G ds xs := by rw [Rep]
end

/-- what stands there later: the same, or a table for a table -/
def KpO (o : HO) (x : Option HO) : Prop := match o with
  | .tbl _ => ∃ ps, x = some (.tbl ps)
  | o => x = some o
theorem KpO.of {o : HO} {x : Option HO} (h : x = some o) : KpO o x := by
  cases o with
  | tbl ps => exact ⟨ps, h⟩
  | _ => exact h
theorem KpO.has {o : HO} {x : Option HO} (h : KpO o x) : ∃ u, x = some u := by
  cases o with
  | tbl ps => obtain ⟨q, e⟩ := h; exact ⟨_, e⟩
  | _ => exact ⟨_, h⟩
theorem KpO.trans {o : HO} {x y : Option HO} (h : KpO o x) (g : ∀ u, x = some u → KpO u y) : KpO o y := by
  cases o with
  | tbl ps => obtain ⟨q, e⟩ := h; exact g (.tbl q) e
  | _ => exact g _ h
/-- what roots stand for -/
def Con : HO → Prop
  | .lst _ => True
  | .dK _ => True
  | .dT _ => True
  | .ins _ _ _ => True
  | .ext φ => ∃ a, ∀ h : Heap, φ h → ∃ (o : Obj) (es : Array DictEntry) (ep : Nat), h.get? a = some o ∧ o.data = .dict es ep
  | _ => False
theorem con_dx {w : World} {a : Addr} {kbs : List (NestedKey × V × V)} : Con (DX w a kbs) := ⟨a, fun h ⟨o, es, ep, e, _, d, _⟩ => ⟨o, es, ep, e, d⟩⟩
/-- a code object is none of them -/
theorem con_code {c : Addr} {q : Str} : ¬ Con (LamX.CodeO c q) := fun ⟨a, h⟩ => by
  let oc : Obj := { cls := .none, data := .fields #[.none, .str q 0] }
  let hp : Heap := { objs := Array.replicate (c + 1) oc }
  have at_ : ∀ b, hp.get? b = if b < c + 1 then some oc else none := fun b => by
    show (match (Array.replicate (c + 1) oc)[b]? with | some ⟨_, _, .freed, _⟩ => none | o => o) = _
    rw [Array.getElem?_replicate]
    by_cases l : b < c + 1
    · simp only [if_pos l]; rfl
    · simp only [if_neg l]
  obtain ⟨o, es, ep, e, d⟩ := h hp ⟨oc, #[.none, .str q 0], 0, by rw [at_, if_pos (Nat.lt_succ_self c)], rfl, rfl⟩
  rw [at_] at e
  split at e
  · cases e; cases d
  · cases e
/-- the tables that stand there are those that are known -/
structure TkO (T : List (Addr × Str)) (H : Hp) : Prop where
  tabs : LamX.Tabs T H
  only : ∀ a ps, H a = some (.tbl ps) → ∃ q, (a, q) ∈ T
theorem TkO.ext {T : List (Addr × Str)} {H H' : Hp} (t : TkO T H) (e : ∀ b o, H b = some o → H' b = some o) (ot : ∀ a ps, H' a = some (.tbl ps) → H a = some (.tbl ps)) : TkO T H' := ⟨t.tabs.ext e, fun a ps h => t.only a ps (ot a ps h)⟩
theorem tabs_upd {T : List (Addr × Str)} {H : Hp} {a : Addr} {o : HO} (tt : TkO T H) (h : H a = none ∨ ∃ u, H a = some u ∧ Con u) (ho : ∀ ps, o ≠ .tbl ps) : TkO T (upd H a o) := by
  have t := tt.tabs
  refine ⟨fun p hp => ?_, fun b ps e => ?_⟩
  · obtain ⟨ps, h1, h2, h3⟩ := t p hp
    have ne : ∀ b u, H b = some u → ¬ Con u → b ≠ a := fun b u e nm z => by
      subst z
      rcases h with h | ⟨w, h, m⟩
      · rw [h] at e; cases e
      · rw [h] at e; cases e; exact nm m
    refine ⟨ps, by rw [upd_ne (ne _ _ h1 id)]; exact h1, h2, fun pos cv hc => ?_⟩
    obtain ⟨c, e1, e2⟩ := h3 pos cv hc
    exact ⟨c, e1, by rw [upd_ne (ne _ _ e2 con_code)]; exact e2⟩
  · by_cases z : b = a
    · subst z; rw [upd_same] at e; exact absurd (Option.some.inj e) (ho ps)
    · rw [upd_ne z] at e; exact tt.only b ps e
mutual
/-- the addresses that belong to v, which stands at a -/
def fp (H : Hp) : Val → Addr → List Addr
  | .ows ds, a => a :: (match H a with
    | some (.lst xs) => fps H ds xs
    | _ => [])
  | .oob _ fs, a => a :: (match H a with
    | some (.ins _ _ xs) => fpf H fs xs
    | _ => [])
  | .non, a => [a]
  | .bl _, a => [a]
  | .int _, a => [a]
  | .str _, a => [a]
  | .tup _, a => [a]
  | .lst _, a => [a]
  | .dct _ _, a => [a]
  | .obj _ _, a => [a]
  | .exc _ _, a => [a]
  | .ty _, a => [a]
  | .cls _, a => [a]
  | .scr _, a => [a]
def fps (H : Hp) : List Val → List V → List Addr
  | [], _ => []
  | _ :: _, [] => []
  | d :: ds, x :: xs => (match x with
    | .ref b => fp H d b
    | _ => []) ++ fps H ds xs
def fpf (H : Hp) : List (Str × Bool × Val) → List (Str × V) → List Addr
  | [], _ => []
  | _ :: _, [] => []
  | (_, true, d) :: ds, x :: xs => (match x.2 with
    | .ref b => fp H d b
    | _ => []) ++ fpf H ds xs
  | (_, false, _) :: ds, _ :: xs => fpf H ds xs
end
mutual
/-- it stands at a in H; what is in it is frozen, or belongs to it alone -/
def RootD (A : Wd) (G H : Hp) : Val → Addr → Prop
  | .lst ds, a => ∃ xs, H a = some (.lst xs) ∧ Reps A G ds xs
  | .dct t ds, a => (t = false ∧ ∃ kvs, H a = some (.dK kvs) ∧ RepK A G ds kvs) ∨ (t = true ∧ ∃ kvs, H a = some (DX A.W a kvs) ∧ RepT A G ds kvs)
  | .obj c fs, a => ∃ C dx xs, H a = some (.ins C dx xs) ∧ A.CM c = some C ∧ RepF A G fs xs
  | .ows ds, a => ∃ xs, H a = some (.lst xs) ∧ RootDs A G H ds xs
  | .oob c fs, a => ∃ C dx xs, H a = some (.ins C dx xs) ∧ A.CM c = some C ∧ RootDf A G H fs xs
  | .non, _ => False
  | .bl _, _ => False
  | .int _, _ => False
  | .str _, _ => False
  | .tup _, _ => False
  | .exc _ _, _ => False
  | .ty _, _ => False
  | .cls _, _ => False
  | .scr _, _ => False
def RootDs (A : Wd) (G H : Hp) : List Val → List V → Prop
  | [], xs => xs = []
  | d :: ds, xs => ∃ b ys, xs = .ref b :: ys ∧ RootD A G H d b ∧ RootDs A G H ds ys
def RootDf (A : Wd) (G H : Hp) : List (Str × Bool × Val) → List (Str × V) → Prop
  | [], xs => xs = []
  | (k, o, d) :: ds, xs => ∃ y ys, xs = (k, y) :: ys ∧ (match o with
    | true => ∃ b, y = .ref b ∧ RootD A G H d b
    | false => Rep A G d y) ∧ RootDf A G H ds ys
end
def Root (A : Wd) (G H : Hp) (v : Val) (a : Addr) : Prop := match v with
  | .lst ds => ∃ xs, H a = some (.lst xs) ∧ Reps A G ds xs
  | .dct t ds => (t = false ∧ ∃ kvs, H a = some (.dK kvs) ∧ RepK A G ds kvs) ∨ (t = true ∧ ∃ kvs, H a = some (DX A.W a kvs) ∧ RepT A G ds kvs)
  | .obj c fs => ∃ C dx xs, H a = some (.ins C dx xs) ∧ A.CM c = some C ∧ RepF A G fs xs
  | .ows ds => RootD A G H (.ows ds) a ∧ (fp H (.ows ds) a).Nodup
  | .oob c fs => RootD A G H (.oob c fs) a ∧ (fp H (.oob c fs) a).Nodup
  | _ => False
/-- nothing but itself belongs to it -/
def flat : Val → Bool
  | .ows _ => false
  | .oob _ _ => false
  | _ => true
theorem fp_flat {H : Hp} {v : Val} {a : Addr} (h : flat v = true) : fp H v a = [a] := by
  cases v <;> first | (rw [fp]; done) | (simp [flat] at h)
theorem fp_self {H : Hp} {v : Val} {a : Addr} : a ∈ fp H v a := by
  cases v <;> rw [fp] <;> exact List.mem_cons_self ..
theorem root_d {A : Wd} {G H : Hp} {v : Val} {a : Addr} : Root A G H v a ↔ RootD A G H v a ∧ (fp H v a).Nodup := by
  cases v <;> (unfold Root) <;> first | (rw [RootD, fp_flat rfl]; exact ⟨fun h => ⟨h, by simp⟩, fun h => h.1⟩) | exact Iff.rfl
section
variable {A : Wd} {G H : Hp}
mutual
theorem RootD.con : ∀ {v : Val} {a : Addr}, RootD A G H v a → ∀ b ∈ fp H v a, ∃ o, H b = some o ∧ Con o
  | .lst ds, a, r, b, hb => by
    rw [RootD] at r; rw [fp, List.mem_singleton] at hb; subst hb
    obtain ⟨xs, e, _⟩ := r; exact ⟨_, e, True.intro⟩
  | .dct t ds, a, r, b, hb => by
    rw [RootD] at r; rw [fp, List.mem_singleton] at hb; subst hb
    obtain ⟨_, xs, e, _⟩ | ⟨_, xs, e, _⟩ := r
    · exact ⟨_, e, True.intro⟩
    · exact ⟨_, e, con_dx⟩
  | .obj c fs, a, r, b, hb => by
    rw [RootD] at r; rw [fp, List.mem_singleton] at hb; subst hb
    obtain ⟨C, dx, xs, e, _⟩ := r; exact ⟨_, e, True.intro⟩
  | .ows ds, a, r, b, hb => by
    rw [RootD] at r; rw [fp] at hb
    obtain ⟨xs, e, r⟩ := r
    rw [e] at hb
    rcases List.mem_cons.mp hb with z | z
    · subst z; exact ⟨_, e, True.intro⟩
    · exact RootDs.con r b z
  | .oob c fs, a, r, b, hb => by
    rw [RootD] at r; rw [fp] at hb
    obtain ⟨C, dx, xs, e, _, r⟩ := r
    rw [e] at hb
    rcases List.mem_cons.mp hb with z | z
    · subst z; exact ⟨_, e, True.intro⟩
    · exact RootDf.con r b z
  | .non, _, r, _, _ => by rw [RootD] at r; exact r.elim
  | .bl _, _, r, _, _ => by rw [RootD] at r; exact r.elim
  | .int _, _, r, _, _ => by rw [RootD] at r; exact r.elim
  | .str _, _, r, _, _ => by rw [RootD] at r; exact r.elim
  | .tup _, _, r, _, _ => by rw [RootD] at r; exact r.elim
  | .exc _ _, _, r, _, _ => by rw [RootD] at r; exact r.elim
  | .ty _, _, r, _, _ => by rw [RootD] at r; exact r.elim
  | .cls _, _, r, _, _ => by rw [RootD] at r; exact r.elim
  | .scr _, _, r, _, _ => by rw [RootD] at r; exact r.elim
theorem RootDs.con : ∀ {ds : List Val} {xs : List V}, RootDs A G H ds xs → ∀ b ∈ fps H ds xs, ∃ o, H b = some o ∧ Con o
  | [], xs, r, b, hb => by rw [fps] at hb; cases hb
  | d :: ds, xs, r, b, hb => by
    rw [RootDs] at r
    obtain ⟨c, ys, e, r1, r2⟩ := r
    subst e
    rw [fps] at hb
    rcases List.mem_append.mp hb with z | z
    · exact RootD.con r1 b z
    · exact RootDs.con r2 b z
theorem RootDf.con : ∀ {ds : List (Str × Bool × Val)} {xs : List (Str × V)}, RootDf A G H ds xs → ∀ b ∈ fpf H ds xs, ∃ o, H b = some o ∧ Con o
  | [], xs, r, b, hb => by rw [fpf] at hb; cases hb
  | (k, o, d) :: ds, xs, r, b, hb => by
    rw [RootDf] at r
    obtain ⟨y, ys, e, r1, r2⟩ := r
    subst e
    cases o with
    | true =>
      obtain ⟨c, e, r1⟩ := r1
      subst e
      rw [fpf] at hb
      rcases List.mem_append.mp hb with z | z
      · exact RootD.con r1 b z
      · exact RootDf.con r2 b z
    | false => rw [fpf] at hb; exact RootDf.con r2 b hb
end
end
/- what belongs to it stays: so does it -/
section
variable {A : Wd} {G H G' H' : Hp}
mutual
theorem RootD.keep (h : Le G G') : ∀ {v : Val} {a : Addr}, RootD A G H v a → (∀ b ∈ fp H v a, ∀ o, H b = some o → KpO o (H' b)) → RootD A G' H' v a ∧ fp H' v a = fp H v a
  | .lst ds, a, r, k => by
    rw [RootD] at r ⊢
    obtain ⟨xs, e, r⟩ := r
    exact ⟨⟨xs, k a fp_self _ e, r.mono h⟩, by rw [fp, fp]⟩
  | .dct t ds, a, r, k => by
    rw [RootD] at r ⊢
    refine ⟨?_, by rw [fp, fp]⟩
    obtain ⟨ht, xs, e, r⟩ | ⟨ht, xs, e, r⟩ := r
    · exact .inl ⟨ht, xs, k a fp_self _ e, r.mono h⟩
    · exact .inr ⟨ht, xs, k a fp_self _ e, r.mono h⟩
  | .obj c fs, a, r, k => by
    rw [RootD] at r ⊢
    obtain ⟨C, dx, xs, e, m, r⟩ := r
    exact ⟨⟨C, dx, xs, k a fp_self _ e, m, r.mono h⟩, by rw [fp, fp]⟩
  | .ows ds, a, r, k => by
    rw [RootD] at r ⊢
    obtain ⟨xs, e, r⟩ := r
    have e' : H' a = some (.lst xs) := k a fp_self _ e
    obtain ⟨q1, q2⟩ := RootDs.keep h r fun b hb => k b (by rw [fp, e]; exact List.mem_cons_of_mem _ hb)
    exact ⟨⟨xs, e', q1⟩, by rw [fp, fp, e, e']; simp only [q2]⟩
  | .oob c fs, a, r, k => by
    rw [RootD] at r ⊢
    obtain ⟨C, dx, xs, e, m, r⟩ := r
    have e' : H' a = some (.ins C dx xs) := k a fp_self _ e
    obtain ⟨q1, q2⟩ := RootDf.keep h r fun b hb => k b (by rw [fp, e]; exact List.mem_cons_of_mem _ hb)
    exact ⟨⟨C, dx, xs, e', m, q1⟩, by rw [fp, fp, e, e']; simp only [q2]⟩
  | .non, _, r, _ => by rw [RootD] at r; exact r.elim
  | .bl _, _, r, _ => by rw [RootD] at r; exact r.elim
  | .int _, _, r, _ => by rw [RootD] at r; exact r.elim
  | .str _, _, r, _ => by rw [RootD] at r; exact r.elim
  | .tup _, _, r, _ => by rw [RootD] at r; exact r.elim
  | .exc _ _, _, r, _ => by rw [RootD] at r; exact r.elim
  | .ty _, _, r, _ => by rw [RootD] at r; exact r.elim
  | .cls _, _, r, _ => by rw [RootD] at r; exact r.elim
  | .scr _, _, r, _ => by rw [RootD] at r; exact r.elim
theorem RootDs.keep (h : Le G G') : ∀ {ds : List Val} {xs : List V}, RootDs A G H ds xs → (∀ b ∈ fps H ds xs, ∀ o, H b = some o → KpO o (H' b)) → RootDs A G' H' ds xs ∧ fps H' ds xs = fps H ds xs
  | [], xs, r, k => by rw [RootDs] at r ⊢; exact ⟨r, by rw [fps, fps]⟩
  | d :: ds, xs, r, k => by
    rw [RootDs] at r ⊢
    obtain ⟨c, ys, e, r1, r2⟩ := r
    subst e
    rw [fps] at k
    obtain ⟨a1, a2⟩ := RootD.keep h r1 fun b hb => k b (List.mem_append_left _ hb)
    obtain ⟨b1, b2⟩ := RootDs.keep h r2 fun b hb => k b (List.mem_append_right _ hb)
    exact ⟨⟨c, ys, rfl, a1, b1⟩, by rw [fps, fps]; simp only [a2, b2]⟩
theorem RootDf.keep (h : Le G G') : ∀ {ds : List (Str × Bool × Val)} {xs : List (Str × V)}, RootDf A G H ds xs → (∀ b ∈ fpf H ds xs, ∀ o, H b = some o → KpO o (H' b)) → RootDf A G' H' ds xs ∧ fpf H' ds xs = fpf H ds xs
  | [], xs, r, k => by rw [RootDf] at r ⊢; exact ⟨r, by rw [fpf, fpf]⟩
  | (n, o, d) :: ds, xs, r, k => by
    rw [RootDf] at r ⊢
    obtain ⟨y, ys, e, r1, r2⟩ := r
    subst e
    cases o with
    | true =>
      obtain ⟨c, e, r1⟩ := r1
      subst e
      rw [fpf] at k
      obtain ⟨a1, a2⟩ := RootD.keep h r1 fun b hb => k b (List.mem_append_left _ hb)
      obtain ⟨b1, b2⟩ := RootDf.keep h r2 fun b hb => k b (List.mem_append_right _ hb)
      exact ⟨⟨_, ys, rfl, ⟨c, rfl, a1⟩, b1⟩, by rw [fpf, fpf]; simp only [a2, b2]⟩
    | false =>
      rw [fpf] at k
      obtain ⟨b1, b2⟩ := RootDf.keep h r2 k
      exact ⟨⟨_, ys, rfl, Rep.mono h r1, b1⟩, by rw [fpf, fpf, b2]⟩
end
end
theorem Root.con' {A : Wd} {G H : Hp} {v : Val} {a : Addr} (r : Root A G H v a) : ∀ b ∈ fp H v a, ∃ o, H b = some o ∧ Con o := (root_d.mp r).1.con
theorem Con.mut {o : HO} (c : Con o) : Mut (some o) := by
  cases o <;> first | exact True.intro | exact c.elim
theorem Root.con {A : Wd} {G H : Hp} {v : Val} {a : Addr} (r : Root A G H v a) : ∃ o, H a = some o ∧ Con o := r.con' a fp_self
theorem Root.has {A : Wd} {G H : Hp} {v : Val} {a : Addr} (r : Root A G H v a) : ∃ o, H a = some o ∧ Mut (some o) := let ⟨o, e, c⟩ := r.con; ⟨o, e, c.mut⟩
theorem Root.ne {A : Wd} {G H : Hp} {v : Val} {a : Addr} (r : Root A G H v a) {u : HO} (h : H a = some u) : ∀ ps, u ≠ .tbl ps := fun ps z => by
  obtain ⟨o, e, c⟩ := r.con
  rw [h] at e; cases e
  subst z; exact c
theorem Root.monoK' {A : Wd} {G H G' H' : Hp} {v : Val} {a : Addr} (r : Root A G H v a) (h : Le G G') (e : ∀ b ∈ fp H v a, ∀ o, H b = some o → KpO o (H' b)) : Root A G' H' v a ∧ fp H' v a = fp H v a := by
  obtain ⟨r1, r2⟩ := root_d.mp r
  obtain ⟨q1, q2⟩ := r1.keep h e
  exact ⟨root_d.mpr ⟨q1, by rw [q2]; exact r2⟩, q2⟩
theorem Root.mono' {A : Wd} {G H G' H' : Hp} {v : Val} {a : Addr} (r : Root A G H v a) (h : Le G G') (e : ∀ b ∈ fp H v a, ∀ o, H b = some o → H' b = some o) : Root A G' H' v a ∧ fp H' v a = fp H v a := r.monoK' h fun b hb o ho => KpO.of (e b hb o ho)
theorem Root.mono {A : Wd} {G H G' H' : Hp} {v : Val} {a : Addr} (r : Root A G H v a) (h : Le G G') (e : ∀ b ∈ fp H v a, ∀ o, H b = some o → H' b = some o) : Root A G' H' v a := (r.mono' h e).1
theorem Root.monoK {A : Wd} {G H G' H' : Hp} {v : Val} {a : Addr} (r : Root A G H v a) (h : Le G G') (e : ∀ b ∈ fp H v a, ∀ o, H b = some o → KpO o (H' b)) : Root A G' H' v a := (r.monoK' h e).1

/-- slots: none unknown; some (own, v) -/
abbrev Slot := Option (Bool × Val)
abbrev Env := List Slot

/-- what is fixed through a def's run: the entry's frozen heap, the entry's heap, the containers that were lent to it, the parameters that stay -/
structure Act where
  w : Wd
  G0 : Hp
  H0 : Hp
  L : Addr → Prop
  io : List Nat
  x0 : Nat → Option V

/-- what slots own -/
def Rt (H : Hp) (r : Env) (σ : L2.St) (a : Addr) : Prop := ∃ (i : Nat) (v : Val) (b : Addr), r[i]? = some (some (true, v)) ∧ σ[i]? = some (some (.ref b)) ∧ a ∈ fp H v b
/-- .. itself -/
theorem Rt.at {H : Hp} {r : Env} {σ : L2.St} {a : Addr} {i : Nat} {v : Val} (h : r[i]? = some (some (true, v))) (e : σ[i]? = some (some (.ref a))) : Rt H r σ a := ⟨i, v, a, h, e, fp_self⟩

/-- no table among what is frozen -/
def NoT (G : Hp) : Prop := ∀ a ps, G a ≠ some (.tbl ps)
theorem NoT.upd {G : Hp} {a : Addr} {o : HO} (n : NoT G) (h : ∀ ps, o ≠ .tbl ps) : NoT (upd G a o) := fun b ps e => by
  by_cases z : b = a
  · subst z; rw [upd_same] at e; exact h ps (Option.some.inj e)
  · rw [upd_ne z] at e; exact n b ps e
structure Ok (A : Act) (G H : Hp) (σ : L2.St) (r : Env) : Prop where
  ex0 : Le A.G0 G
  gr0 : ∀ a, G a ≠ none → A.G0 a ≠ none ∨ A.H0 a = none ∨ A.L a
  fr0 : ∀ a o, A.H0 a = some o → ¬ A.L a → KpO o (H a)
  tk : TkO A.w.T H
  nt : NoT G
  sub : Le G H
  len : σ.length = r.length
  fz : ∀ (i : Nat) (v : Val), r[i]? = some (some (false, v)) → ∃ x, σ[i]? = some (some x) ∧ Rep A.w G v x
  ow : ∀ (i : Nat) (v : Val), r[i]? = some (some (true, v)) → ∃ a, σ[i]? = some (some (.ref a)) ∧ Root A.w G H v a ∧ ∀ b ∈ fp H v a, G b = none ∧ (A.L b ∨ A.H0 b = none)
  sep : ∀ (i j : Nat) (v w : Val) (a b c : Addr), r[i]? = some (some (true, v)) → r[j]? = some (some (true, w)) → σ[i]? = some (some (.ref a)) → σ[j]? = some (some (.ref b)) → c ∈ fp H v a → c ∈ fp H w b → i = j
  fx : ∀ i ∈ A.io, σ[i]? = some (A.x0 i)

/-- what an expression does to the state -/
structure Step (σ : L2.St) (r : Env) (G H : Hp) (r' : Env) (G' H' : Hp) : Prop where
  ex : Le G G'
  keep : ∀ a o, H a = some o → ¬ Rt H r σ a → KpO o (H' a)
  grow : ∀ a, G a = none → G' a ≠ none → H a = none ∨ Rt H r σ a
  rts : ∀ a, Rt H' r' σ a → Rt H r σ a ∨ H a = none
theorem Step.refl {σ : L2.St} {r : Env} {G H : Hp} : Step σ r G H r G H := ⟨Le.refl _, fun _ _ h _ => KpO.of h, fun _ h h' => absurd h h', fun _ h => .inl h⟩
theorem Step.trans {σ : L2.St} {r r1 r2 : Env} {G H G1 H1 G2 H2 : Hp} (a : Step σ r G H r1 G1 H1) (b : Step σ r1 G1 H1 r2 G2 H2) : Step σ r G H r2 G2 H2 := by
  have back : ∀ x, H1 x = none → ¬ Rt H r σ x → H x = none := fun x z n => by
    cases e : H x with
    | none => rfl
    | some o => obtain ⟨u, e'⟩ := (a.keep x o e n).has; rw [e'] at z; cases z
  refine ⟨a.ex.trans b.ex, fun x o h n => ?_, fun x h h' => ?_, fun x h => ?_⟩
  · refine (a.keep x o h n).trans fun u e => b.keep x u e fun z => ?_
    rcases a.rts x z with y | y
    · exact n y
    · rw [h] at y; cases y
  · by_cases q : G1 x = none
    · by_cases n : Rt H r σ x
      · exact .inr n
      · rcases b.grow x q h' with z | z
        · exact .inl (back x z n)
        · exact (a.rts x z).symm
    · exact a.grow x h q
  · rcases b.rts x h with z | z
    · exact a.rts x z
    · by_cases n : Rt H r σ x
      · exact .inl n
      · exact .inr (back x z n)

section
variable {A : Act} {G H G' H' : Hp} {σ : L2.St} {r r' : Env}
theorem Ok.rt {a : Addr} (k : Ok A G H σ r) (h : Rt H r σ a) : (∃ o, H a = some o) ∧ G a = none ∧ (A.L a ∨ A.H0 a = none) := by
  obtain ⟨i, v, b, h1, h2, h3⟩ := h
  obtain ⟨c, e, ro, n⟩ := k.ow i v h1
  rw [h2] at e; cases e
  obtain ⟨o, e, _⟩ := ro.con' a h3
  exact ⟨⟨o, e⟩, n a h3⟩
theorem Ok.notRt {a : Addr} (k : Ok A G H σ r) (h : H a = none) : ¬ Rt H r σ a := fun z => by
  obtain ⟨⟨o, e⟩, _⟩ := k.rt z
  rw [e] at h; cases h
/-- a slot's container in a heap that keeps what belongs to it -/
theorem Ok.owK (k : Ok A G H σ r) (g : Le G G') {i : Nat} {v : Val} (h : r[i]? = some (some (true, v))) (kp : ∀ b o, Rt H r σ b → H b = some o → KpO o (H' b)) :
    ∃ a, σ[i]? = some (some (.ref a)) ∧ Root A.w G' H' v a ∧ fp H' v a = fp H v a ∧ ∀ b ∈ fp H v a, G b = none ∧ (A.L b ∨ A.H0 b = none) ∧ Rt H r σ b ∧ ∃ o, H b = some o ∧ Con o := by
  obtain ⟨a, e, ro, n⟩ := k.ow i v h
  have q := ro.monoK' g fun b hb o ho => kp b o ⟨i, v, a, h, e, hb⟩ ho
  exact ⟨a, e, q.1, q.2, fun b hb => ⟨(n b hb).1, (n b hb).2, ⟨i, v, a, h, e, hb⟩, ro.con' b hb⟩⟩
/-- the slots' containers stay: Rt, too -/
theorem Ok.rtK (k : Ok A G H σ r) (kp : ∀ b o, Rt H r σ b → H b = some o → KpO o (H' b)) (a : Addr) : Rt H' r σ a ↔ Rt H r σ a := by
  constructor
  · rintro ⟨i, v, b, h1, h2, h3⟩
    obtain ⟨c, e, _, q, _⟩ := k.owK (Le.refl _) h1 kp
    rw [h2] at e; cases e
    rw [q] at h3
    exact ⟨i, v, b, h1, h2, h3⟩
  · rintro ⟨i, v, b, h1, h2, h3⟩
    obtain ⟨c, e, _, q, _⟩ := k.owK (Le.refl _) h1 kp
    rw [h2] at e; cases e
    rw [← q] at h3
    exact ⟨i, v, b, h1, h2, h3⟩
theorem Ok.sepK (k : Ok A G H σ r) (kp : ∀ b o, Rt H r σ b → H b = some o → KpO o (H' b)) : ∀ (i j : Nat) (v w : Val) (a b c : Addr), r[i]? = some (some (true, v)) → r[j]? = some (some (true, w)) → σ[i]? = some (some (.ref a)) → σ[j]? = some (some (.ref b)) → c ∈ fp H' v a → c ∈ fp H' w b → i = j := by
  intro i j v w a b c h1 h2 h3 h4 h5 h6
  obtain ⟨a', e1, _, q1, _⟩ := k.owK (Le.refl _) h1 kp
  obtain ⟨b', e2, _, q2, _⟩ := k.owK (Le.refl _) h2 kp
  rw [h3] at e1; cases e1
  rw [h4] at e2; cases e2
  rw [q1] at h5; rw [q2] at h6
  exact k.sep i j v w a b c h1 h2 h3 h4 h5 h6
theorem Ok.fresh {a : Addr} (k : Ok A G H σ r) (h : H a = none) : A.L a ∨ A.H0 a = none := by
  by_cases l : A.L a
  · exact .inl l
  · refine .inr ?_
    cases e : A.H0 a with
    | none => rfl
    | some o => obtain ⟨u, e'⟩ := (k.fr0 a o e l).has; rw [e'] at h; cases h
/-- an expression's state may grow: new objects alone -/
structure Grow (G H G' H' : Hp) : Prop where
  g : Le G G'
  h : Le H H'
  s : Le G' H'
  n : ∀ a, G a = none → G' a ≠ none → H a = none
  t : NoT G → NoT G'
  ot : ∀ a ps, H' a = some (.tbl ps) → H a = some (.tbl ps)
theorem Grow.refl (s : Le G H) : Grow G H G H := ⟨Le.refl _, Le.refl _, s, fun _ h h' => absurd h h', id, fun _ _ h => h⟩
theorem Grow.trans {G1 H1 G2 H2 : Hp} (a : Grow G H G1 H1) (b : Grow G1 H1 G2 H2) : Grow G H G2 H2 :=
  ⟨a.g.trans b.g, a.h.trans b.h, b.s, fun x h h' => by
    by_cases q : G1 x = none
    · exact a.h.back (b.n x q h')
    · exact a.n x h q, fun z => b.t (a.t z), fun x ps h => a.ot x ps (b.ot x ps h)⟩
theorem Ok.growK (g : Grow G H G' H') : ∀ b o, Rt H r σ b → H b = some o → KpO o (H' b) := fun b o _ h => KpO.of (g.h b o h)
theorem Grow.step (k : Ok A G H σ r) (g : Grow G H G' H') : Step σ r G H r G' H' := ⟨g.g, fun a o h _ => KpO.of (g.h a o h), fun a h h' => .inl (g.n a h h'), fun a h => .inl ((k.rtK (Ok.growK g) a).mp h)⟩
/-- a fresh address stays so -/
theorem Grow.non0 (g : Grow G H G' H') {a : Addr} (h : G a = none) {o : HO} (e : H a = some o) : G' a = none := by
  cases z : G' a with
  | none => rfl
  | some u =>
    have := g.n a h (by rw [z]; simp)
    rw [e] at this; cases this
theorem Ok.grow (k : Ok A G H σ r) (g : Grow G H G' H') : Ok A G' H' σ r where
  ex0 := k.ex0.trans g.g
  gr0 := fun a h => by
    by_cases q : G a = none
    · rcases k.fresh (g.n a q h) with z | z
      · exact .inr (.inr z)
      · exact .inr (.inl z)
    · exact k.gr0 a q
  fr0 := fun a o h n => (k.fr0 a o h n).trans fun u e => KpO.of (g.h _ _ e)
  tk := k.tk.ext g.h g.ot
  nt := g.t k.nt
  sub := g.s
  len := k.len
  fz := fun i v h => let ⟨x, e, q⟩ := k.fz i v h; ⟨x, e, q.mono g.g⟩
  ow := fun i v h => by
    obtain ⟨a, e, q, f, n⟩ := k.owK (H' := H') g.g h (Ok.growK g)
    refine ⟨a, e, q, fun b hb => ?_⟩
    rw [f] at hb
    obtain ⟨n1, n2, _, o, n3, _⟩ := n b hb
    exact ⟨g.non0 n1 n3, n2⟩
  sep := k.sepK (Ok.growK g)
  fx := k.fx
/-- a new object, frozen at once -/
theorem Grow.laidG {p : Addr} {o : HO} (s : Le G H) (n : H p = none) (ho : ∀ ps, o ≠ .tbl ps := by intro _ z; cases z) : Grow G H (upd G p o) (upd H p o) :=
  ⟨Le.new (s.back n), Le.new n, s.upd2, fun a h h' => by
    by_cases q : a = p
    · subst q; exact n
    · rw [upd_ne q] at h'; exact absurd h h', fun z => z.upd ho, fun a ps h => by
    by_cases q : a = p
    · subst q; rw [upd_same] at h; exact absurd (Option.some.inj h) (ho ps)
    · rw [upd_ne q] at h; exact h⟩
/-- a new object, owned -/
theorem Grow.laidH {p : Addr} {o : HO} (s : Le G H) (n : H p = none) (ho : ∀ ps, o ≠ .tbl ps := by intro _ z; cases z) : Grow G H G (upd H p o) :=
  ⟨Le.refl _, Le.new n, s.updR (s.back n), fun a h h' => absurd h h', id, fun a ps h => by
    by_cases q : a = p
    · subst q; rw [upd_same] at h; exact absurd (Option.some.inj h) (ho ps)
    · rw [upd_ne q] at h; exact h⟩
end

/-- the value of an expression: own, it is a container that nobody else holds -/
def TRep (A : Act) (G H : Hp) (σ : L2.St) (r : Env) (o : Bool) (v : Val) (x : V) : Prop := match o with
  | true => ∃ a, x = .ref a ∧ Root A.w G H v a ∧ ∀ b ∈ fp H v a, G b = none ∧ ¬ Rt H r σ b ∧ (A.L b ∨ A.H0 b = none)
  | false => Rep A.w G v x
/-- a value that can be read -/
def RRep (A : Wd) (G H : Hp) (v : Val) (x : V) : Prop := Rep A G v x ∨ ∃ a, x = .ref a ∧ Root A G H v a
/-- a new value -/
def NRep (A : Wd) (G H G' H' : Hp) (o : Bool) (v : Val) (x : V) : Prop := match o with
  | true => ∃ a, x = .ref a ∧ Root A G' H' v a ∧ ∀ b ∈ fp H' v a, G' b = none ∧ H b = none
  | false => Rep A G' v x

section
variable {A : Act} {G H G' H' : Hp} {σ : L2.St} {r r' : Env} {o : Bool} {v : Val} {x : V}
theorem TRep.step (t : TRep A G H σ r o v x) (st : Step σ r G H r' G' H') : TRep A G' H' σ r' o v x := by
  cases o with
  | true =>
    obtain ⟨a, e, ro, n⟩ := t
    obtain ⟨q1, q2⟩ := ro.monoK' st.ex fun b hb o h => st.keep b o h (n b hb).2.1
    refine ⟨a, e, q1, fun b hb => ?_⟩
    rw [q2] at hb
    obtain ⟨u, hu, _⟩ := ro.con' b hb
    obtain ⟨n1, n2, n3⟩ := n b hb
    refine ⟨?_, fun z => ?_, n3⟩
    · cases q : G' b with
      | none => rfl
      | some w =>
        rcases st.grow b n1 (by rw [q]; simp) with z | z
        · rw [hu] at z; cases z
        · exact absurd z n2
    · rcases st.rts b z with y | y
      · exact n2 y
      · rw [hu] at y; cases y
  | false => exact Rep.mono st.ex t
theorem TRep.rrep (t : TRep A G H σ r o v x) : RRep A.w G H v x := by
  cases o with
  | true => obtain ⟨a, e, ro, _⟩ := t; exact .inr ⟨a, e, ro⟩
  | false => exact .inl t
theorem NRep.trep (k : Ok A G H σ r) (kp : ∀ b o, Rt H r σ b → H b = some o → KpO o (H' b)) (t : NRep A.w G H G' H' o v x) : TRep A G' H' σ r o v x := by
  cases o with
  | true =>
    obtain ⟨a, e, ro, n⟩ := t
    refine ⟨a, e, ro, fun b hb => ⟨(n b hb).1, fun z => ?_, k.fresh (n b hb).2⟩⟩
    exact k.notRt (n b hb).2 ((k.rtK kp b).mp z)
  | false => exact t
end
end M
namespace M
open PySem L2
/-- e bears no star -/
abbrev NoStar (X : Cx) (e : Expr) (es : List Expr) : Prop := starEach (e :: es) X.env = (false, eval e X.env) :: starEach es X.env
/-- nor do these -/
abbrev NoStars (X : Cx) (es : List Expr) (at_ : Pos) : Prop := (backTo at_ (starEach es X.env)).any (·.1) = false
/-- o.name asks o as it stands -/
abbrev AsItIs (X : Cx) (o : Expr) (name : Str) : Prop := attributeBase o name X.env (eval o X.env) = eval o X.env
/-- few values, none with a star or a name -/
abbrev FewPlain (X : Cx) (es : List Expr) (at_ : Pos) : Prop :=
  (((backTo at_ (starEach es X.env)).all (!·.1) && (backToKw at_ (keywordEach [] X.env)).all (·.1.isSome)) && decide (es.length + 0 + 0 < 30)) = true
/-- o.m(..) is read as a method's call -/
abbrev MCall (X : Cx) (o : Expr) (m : Str) (es : List Expr) (dot at_ : Pos) (pl : Sem Bool) : Prop :=
  eval (.Call (.Attribute o m dot) es [] at_) X.env = eval o X.env >>= fun v => standAt dot.atName >>= fun _ => holding [v] (getMethod v m pl) >>= fun q => callWith at_ q.1 q.2 (backTo at_ (starEach es X.env)) (backToKw at_ (keywordEach [] X.env))
/-- x(k = v, ..) likewise -/
abbrev KCall (X : Cx) (x : Str) (kws : List Keyword) (p at_ : Pos) : Prop :=
  eval (.Call (.Name x p) [] kws at_) X.env = eval (.Name x p) X.env >>= fun f => callWith at_ f [] (backTo at_ (starEach [] X.env)) (backToKw at_ (keywordEach kws X.env))
/-- no star among the values, each keyword has a name -/
abbrev KPlain (X : Cx) (es : List Expr) (kws : List Keyword) (at_ : Pos) : Prop := ((backTo at_ (starEach es X.env)).any (·.1) || (backToKw at_ (keywordEach kws X.env)).any (·.1.isNone)) = false

inductive ER where
  | ok (o : Bool) (v : Val) (r : Env) | ex (e : Val) (r : Env) | bad
inductive Hd where
  | tmp (o : Bool) (w : Val) | sl (i : Nat)
inductive OR where
  | ok (h : Hd) (r : Env) | ex (e : Val) (r : Env) | bad
inductive OsR where
  | ok (hs : List Hd) (r : Env) | ex (e : Val) (r : Env) | bad
inductive BR where
  | ok (b : Bool) (r : Env) | ex (e : Val) (r : Env) | bad
inductive SR where
  | nx (r : Env) | rt (o : Bool) (v : Val) (r : Env) | bk (r : Env) | ct (r : Env) | ex (e : Val) (r : Env) | bad
abbrev EF := Env → ER
abbrev OF := Env → OR
abbrev OsF := Env → OsR
abbrev BF := Env → BR
abbrev SF := Env → SR

def Hd.get (r : Env) : Hd → Option Val
  | .tmp _ w => some w
  | .sl i => match r[i]? with
    | some (some (_, v)) => some v
    | _ => none
def getAll (r : Env) : List Hd → Option (List Val)
  | [] => some []
  | h :: hs => match h.get r with
    | some v => match getAll r hs with
      | some vs => some (v :: vs)
      | none => none
    | none => none

/-- the dict of an exception -/
def XdOk (w : Wd) (G H : Hp) (d : Option Addr) (fs : List (Str × Val)) : Prop := (d = none ∧ fs = []) ∨ ∃ dd xs, d = some dd ∧ G dd = some (.xd xs) ∧ RepF w G fs xs
/-- an exception on its way: W takes it -/
def ExP (A : Act) (W : WX) (G0 : Hp) (σ : L2.St) (e : Val) (r : Env) : Prop := match e with
  | .exc c fs => ∀ G H C d, Ok A G H σ r → Le G0 G → A.w.CM c = some C → XdOk A.w G H d fs → W (.ref C) d σ H
  | _ => False

theorem ExP.mono {A : Act} {W : WX} {G0 G1 : Hp} {σ : L2.St} {e : Val} {r : Env} (le : Le G0 G1) (h : ExP A W G0 σ e r) : ExP A W G1 σ e r := by
  cases e with
  | exc c fs => exact fun G H C d k l => h G H C d k (le.trans l)
  | _ => exact h
def HRep (A : Act) (G H : Hp) (σ : L2.St) (r : Env) (h : Hd) (x : V) : Prop := match h with
  | .tmp o v => TRep A G H σ r o v x
  | .sl i => σ[i]? = some (some x)
def HReps (A : Act) (G H : Hp) (σ : L2.St) (r : Env) : List Hd → List V → Prop
  | [], xs => xs = []
  | h :: hs, xs => ∃ y ys, xs = y :: ys ∧ HRep A G H σ r h y ∧ HReps A G H σ r hs ys
def RReps (A : Wd) (G H : Hp) : List Val → List V → Prop
  | [], xs => xs = []
  | v :: vs, xs => ∃ y ys, xs = y :: ys ∧ RRep A G H v y ∧ RReps A G H vs ys

section
variable {A : Act} {G H G' H' : Hp} {σ : L2.St} {r r' : Env}
theorem HRep.step {h : Hd} {x : V} (t : HRep A G H σ r h x) (st : Step σ r G H r' G' H') : HRep A G' H' σ r' h x := by
  cases h with
  | tmp o v => exact TRep.step t st
  | sl i => exact t
theorem HReps.step : ∀ {hs : List Hd} {xs : List V}, HReps A G H σ r hs xs → Step σ r G H r' G' H' → HReps A G' H' σ r' hs xs
  | [], _, h, _ => h
  | _ :: _, _, ⟨y, ys, e, a, b⟩, st => ⟨y, ys, e, a.step st, b.step st⟩
theorem Ok.slot {i : Nat} {o : Bool} {v : Val} (k : Ok A G H σ r) (h : r[i]? = some (some (o, v))) : ∃ x, σ[i]? = some (some x) ∧ RRep A.w G H v x := by
  cases o with
  | true => obtain ⟨a, e, ro, _⟩ := k.ow i v h; exact ⟨_, e, .inr ⟨a, rfl, ro⟩⟩
  | false => obtain ⟨x, e, q⟩ := k.fz i v h; exact ⟨x, e, .inl q⟩
theorem HRep.get {h : Hd} {x : V} {v : Val} (k : Ok A G H σ r) (t : HRep A G H σ r h x) (e : h.get r = some v) : RRep A.w G H v x := by
  cases h with
  | tmp o w => simp only [Hd.get, Option.some.injEq] at e; subst e; exact TRep.rrep t
  | sl i =>
    simp only [Hd.get] at e
    split at e
    · rename_i o w q
      cases e
      obtain ⟨y, e1, e2⟩ := k.slot q
      have t' : σ[i]? = some (some x) := t
      rw [t'] at e1; cases e1; exact e2
    · cases e
theorem HReps.get (k : Ok A G H σ r) : ∀ {hs : List Hd} {xs : List V} {vs : List Val}, HReps A G H σ r hs xs → getAll r hs = some vs → RReps A.w G H vs xs
  | [], _, vs, h, e => by
    simp only [getAll, Option.some.injEq] at e; subst e; exact h
  | h :: hs, _, vs, ⟨y, ys, e1, a, b⟩, e => by
    simp only [getAll] at e
    split at e
    · rename_i v q
      split at e
      · rename_i ws q2
        cases e
        exact ⟨y, ys, e1, a.get k q, HReps.get k b q2⟩
      · cases e
    · cases e
end

/-- behind an expression: its value; what it owns is new (or was a slot's) -/
structure Res (A : Act) (σ : L2.St) (r : Env) (G H : Hp) (r' : Env) (G' H' : Hp) (o : Bool) (v : Val) (x : V) : Prop where
  ok : Ok A G' H' σ r'
  st : Step σ r G H r' G' H'
  tr : TRep A G' H' σ r' o v x
  fr : o = true → ∀ a, x = .ref a → ∀ b ∈ fp H' v a, H b = none ∨ Rt H r σ b
theorem Step.fresh {σ : L2.St} {r r' : Env} {G H G' H' : Hp} (st : Step σ r G H r' G' H') {a : Addr} (h : H' a = none) : H a = none ∨ Rt H r σ a := by
  by_cases n : Rt H r σ a
  · exact .inr n
  · refine .inl ?_
    cases e : H a with
    | none => rfl
    | some o => obtain ⟨u, e'⟩ := (st.keep a o e n).has; rw [e'] at h; cases h
def tE (A : Act) (W : WX) (f : EF) : TE := fun σ H Q => ∃ r G, Ok A G H σ r ∧ match f r with
  | .ok o v r' => ∀ x G' H', Res A σ r G H r' G' H' o v x → Q x H'
  | .ex e r' => ExP A W G σ e r'
  | .bad => False
def tO (A : Act) (W : WX) (f : OF) : TE := fun σ H Q => ∃ r G, Ok A G H σ r ∧ match f r with
  | .ok h r' => ∀ x G' H', Ok A G' H' σ r' → Step σ r G H r' G' H' → HRep A G' H' σ r' h x → Q x H'
  | .ex e r' => ExP A W G σ e r'
  | .bad => False
def tOs (A : Act) (W : WX) (f : OsF) : TA := fun σ H Q => ∃ r G, Ok A G H σ r ∧ match f r with
  | .ok hs r' => ∀ xs G' H', Ok A G' H' σ r' → Step σ r G H r' G' H' → HReps A G' H' σ r' hs xs → Q xs H'
  | .ex e r' => ExP A W G σ e r'
  | .bad => False
def tBo (A : Act) (W : WX) (f : BF) : TT := fun σ H Q => ∃ r G, Ok A G H σ r ∧ match f r with
  | .ok b r' => ∀ G' H', Ok A G' H' σ r' → Step σ r G H r' G' H' → Q b H'
  | .ex e r' => ExP A W G σ e r'
  | .bad => False
/-- behind a statement: the slots may be others -/
def Fin (A : Act) (W : WX) (G : Hp) (D : Ends) : SR → Prop
  | .nx r' => ∀ σ' G' H', Ok A G' H' σ' r' → Le G G' → D.nx σ' H'
  | .rt o v r' => ∀ x σ' G' H', Ok A G' H' σ' r' → Le G G' → TRep A G' H' σ' r' o v x → D.rt x H'
  | .bk r' => ∀ σ' G' H', Ok A G' H' σ' r' → Le G G' → D.bk σ' H'
  | .ct r' => ∀ σ' G' H', Ok A G' H' σ' r' → Le G G' → D.ct σ' H'
  | .ex e r' => ∀ σ', ExP A W G σ' e r'
  | .bad => False
def tSt (A : Act) (W : WX) (f : SF) : TS := fun D σ H => ∃ r G, Ok A G H σ r ∧ Fin A W G D (f r)
theorem Fin.mono {A : Act} {W : WX} {G G1 : Hp} {D : Ends} {s : SR} (le : Le G G1) (h : Fin A W G D s) : Fin A W G1 D s := by
  cases s with
  | nx r => exact fun σ' G' H' k l => h σ' G' H' k (le.trans l)
  | rt o v r => exact fun x σ' G' H' k l => h x σ' G' H' k (le.trans l)
  | bk r => exact fun σ' G' H' k l => h σ' G' H' k (le.trans l)
  | ct r => exact fun σ' G' H' k l => h σ' G' H' k (le.trans l)
  | ex e r => exact fun σ' => (h σ').mono le
  | bad => exact h

theorem PE.imp {X : Cx} {e : Expr} {t t' : TE} (h : PE X e t) (hi : ∀ σ H Q, t' σ H Q → t σ H Q) : PE X e t' := ⟨fun pins s σ H Q I q => h.run pins s σ H Q I (hi _ _ _ q)⟩
theorem PA.imp {X : Cx} {e : List Expr} {t t' : TA} (h : PA X e t) (hi : ∀ σ H Q, t' σ H Q → t σ H Q) : PA X e t' := ⟨fun pos pins s σ H Q I q => h.run pos pins s σ H Q I (hi _ _ _ q)⟩
theorem PT.imp {X : Cx} {e : Expr} {t t' : TT} (h : PT X e t) (hi : ∀ σ H Q, t' σ H Q → t σ H Q) : PT X e t' := ⟨fun pins s σ H Q I q => h.run pins s σ H Q I (hi _ _ _ q)⟩
theorem PS.imp {X : Cx} {e : Stmt} {t t' : TS} (h : PS X e t) (hi : ∀ D σ H, t' D σ H → t D σ H) : PS X e t' := ⟨fun pins s σ H D I q => h.run pins s σ H D I (hi _ _ _ q)⟩
theorem PSs.imp {X : Cx} {e : List Stmt} {t t' : TS} (h : PSs X e t) (hi : ∀ D σ H, t' D σ H → t D σ H) : PSs X e t' := ⟨fun pins s σ H D I q => h.run pins s σ H D I (hi _ _ _ q)⟩

/-- containers that stand in H may be locked for good -/
inductive GQ (Q : VK) : V → Hp → Prop
  | now {x : V} {H : Hp} : Q x H → GQ Q x H
  | lock {x : V} {H : Hp} {a : Addr} {u : HO} : H a = some u → Mut (some u) → (∀ od, GQ Q x (upd H a (.frz od u))) → GQ Q x H
theorem PE.ghost {X : Cx} {e : Expr} {t : TE} (h : PE X e t) : PE X e (fun σ H Q => t σ H (GQ Q)) := by
  refine ⟨fun pins s σ H Q I q => ?_⟩
  refine thn (h.run pins s σ H _ I q) fun u s1 ⟨x, H1, I1, r1, q1⟩ => ?_
  induction q1 with
  | now q => exact ⟨_, _, I1, r1, q⟩
  | lock e m _ ih =>
    obtain ⟨od, I2⟩ := I1.lock e m
    exact ih od I2

theorem upd_self {H : Hp} {a : Addr} {o : HO} (h : H a = some o) : upd H a o = H := by
  funext b
  by_cases e : b = a
  · subst e; rw [upd_same, h]
  · rw [upd_ne e]

/-- what stands at F is frozen, all else as it was -/
structure Fz (F : List Addr) (G H G' H' : Hp) : Prop where
  ex : Le G G'
  out : ∀ b, b ∉ F → G' b = G b ∧ H' b = H b
  inn : ∀ b ∈ F, ∃ o, G' b = some o ∧ H' b = some o ∧ ∀ ps, o ≠ .tbl ps
theorem Fz.one {G H : Hp} {a : Addr} {o : HO} (n : G a = none) (ho : ∀ ps, o ≠ .tbl ps) : Fz [a] G H (upd G a o) (upd H a o) :=
  ⟨Le.new n, fun b hb => by
    have ne : b ≠ a := fun z => hb (by simp [z])
    exact ⟨upd_ne ne, upd_ne ne⟩, fun b hb => by
    rw [List.mem_singleton] at hb; subst hb
    exact ⟨o, upd_same, upd_same, ho⟩⟩
theorem Fz.trans {F1 F2 : List Addr} {G H G1 H1 G2 H2 : Hp} (a : Fz F1 G H G1 H1) (b : Fz F2 G1 H1 G2 H2) : Fz (F1 ++ F2) G H G2 H2 :=
  ⟨a.ex.trans b.ex, fun c hc => by
    rw [List.mem_append, not_or] at hc
    rw [(b.out c hc.2).1, (b.out c hc.2).2]; exact a.out c hc.1, fun c hc => by
    by_cases q : c ∈ F2
    · exact b.inn c q
    · obtain ⟨o, e1, e2, e3⟩ := a.inn c ((List.mem_append.mp hc).resolve_right q)
      exact ⟨o, b.ex _ _ e1, by rw [(b.out c q).2]; exact e2, e3⟩⟩
theorem Fz.sub {F : List Addr} {G H G' H' : Hp} (f : Fz F G H G' H') (s : Le G H) : Le G' H' := fun b o e => by
  by_cases q : b ∈ F
  · obtain ⟨u, e1, e2, _⟩ := f.inn b q
    rw [e] at e1; cases e1; exact e2
  · rw [(f.out b q).1] at e
    rw [(f.out b q).2]; exact s b o e
theorem Fz.noT {F : List Addr} {G H G' H' : Hp} (f : Fz F G H G' H') (n : NoT G) : NoT G' := fun b ps e => by
  by_cases q : b ∈ F
  · obtain ⟨u, e1, _, e3⟩ := f.inn b q
    rw [e] at e1; cases e1; exact e3 ps rfl
  · rw [(f.out b q).1] at e; exact n b ps e
theorem Fz.tabs {F : List Addr} {G H G' H' : Hp} {T : List (Addr × Str)} (f : Fz F G H G' H') (tt : TkO T H) (h : ∀ a ∈ F, H a = none ∨ ∃ u, H a = some u ∧ Con u) : TkO T H' := by
  have t := tt.tabs
  have nf : ∀ b u, H b = some u → ¬ Con u → b ∉ F := fun b u e nm z => by
    rcases h b z with h | ⟨w, h, m⟩
    · rw [h] at e; cases e
    · rw [h] at e; cases e; exact nm m
  refine ⟨fun p hp => ?_, fun b ps e => ?_⟩
  · obtain ⟨ps, h1, h2, h3⟩ := t p hp
    refine ⟨ps, by rw [(f.out _ (nf _ _ h1 id)).2]; exact h1, h2, fun pos cv hc => ?_⟩
    obtain ⟨c, e1, e2⟩ := h3 pos cv hc
    exact ⟨c, e1, by rw [(f.out _ (nf _ _ e2 con_code)).2]; exact e2⟩
  · by_cases z : b ∈ F
    · obtain ⟨o, _, e2, e3⟩ := f.inn b z
      rw [e] at e2; cases e2; exact absurd rfl (e3 ps)
    · rw [(f.out b z).2] at e; exact tt.only b ps e
section
variable {w : Wd} {Q : VK} {x : V}
mutual
theorem freezeD : ∀ {v : Val} {a : Addr} {G H : Hp}, RootD w G H v a → (fp H v a).Nodup → (∀ b ∈ fp H v a, G b = none) → (∀ G' H', Fz (fp H v a) G H G' H' → Rep w G' v (.ref a) → GQ Q x H') → GQ Q x H
  | .lst ds, a, G, H, r, nd, n, q => by
    rw [RootD] at r
    obtain ⟨xs, e, r⟩ := r
    have na := n a fp_self
    have f : Fz [a] G H (upd G a (.lst xs)) (upd H a (.lst xs)) := Fz.one na fun _ z => nomatch z
    rw [upd_self e] at f
    rw [fp] at q
    exact q _ _ f (rep_lst.mpr ⟨a, xs, rfl, upd_same, r.mono (Le.new na)⟩)
  | .dct t ds, a, G, H, r, nd, n, q => by
    rw [RootD] at r
    have na := n a fp_self
    rw [fp] at q
    obtain ⟨ht, kvs, e, r⟩ | ⟨ht, kvs, e, r⟩ := r
    · exact .lock e True.intro fun od => q _ _ (Fz.one na fun _ z => nomatch z) (by rw [Rep]; exact ⟨a, rfl, .inl ⟨ht, kvs, od, upd_same, r.mono (Le.new na)⟩⟩)
    · have f : Fz [a] G H (upd G a (DX w.W a kvs)) (upd H a (DX w.W a kvs)) := Fz.one na fun _ z => nomatch z
      rw [upd_self e] at f
      exact q _ _ f (by rw [Rep]; exact ⟨a, rfl, .inr ⟨ht, kvs, upd_same, r.mono (Le.new na)⟩⟩)
  | .obj c fs, a, G, H, r, nd, n, q => by
    rw [RootD] at r
    obtain ⟨C, dx, xs, e, m, r⟩ := r
    have na := n a fp_self
    have f : Fz [a] G H (upd G a (.ins C dx xs)) (upd H a (.ins C dx xs)) := Fz.one na fun _ z => nomatch z
    rw [upd_self e] at f
    rw [fp] at q
    exact q _ _ f (by rw [Rep]; exact ⟨a, C, dx, xs, rfl, upd_same, m, r.mono (Le.new na)⟩)
  | .ows ds, a, G, H, r, nd, n, q => by
    rw [RootD] at r
    obtain ⟨xs, e, r⟩ := r
    have na := n a fp_self
    simp only [fp, e] at q nd n
    rw [List.nodup_cons] at nd
    refine freezeDs r nd.2 (fun b hb => n b (List.mem_cons_of_mem _ hb)) fun G1 H1 f1 r1 => ?_
    have e1 : H1 a = some (.lst xs) := by rw [(f1.out a nd.1).2]; exact e
    have n1 : G1 a = none := by rw [(f1.out a nd.1).1]; exact na
    have f : Fz [a] G1 H1 (upd G1 a (.lst xs)) (upd H1 a (.lst xs)) := Fz.one n1 fun _ z => nomatch z
    rw [upd_self e1] at f
    have f2 := f1.trans f
    exact q _ _ ⟨f2.ex, fun b hb => f2.out b fun z => hb (by rcases List.mem_append.mp z with z | z; exact List.mem_cons_of_mem _ z; rw [List.mem_singleton] at z; rw [z]; exact List.mem_cons_self ..), fun b hb => f2.inn b (by
      rcases List.mem_cons.mp hb with z | z
      · rw [z]; simp
      · exact List.mem_append_left _ z)⟩ (by rw [Rep]; exact ⟨a, xs, rfl, upd_same, r1.mono (Le.new n1)⟩)
  | .oob c fs, a, G, H, r, nd, n, q => by
    rw [RootD] at r
    obtain ⟨C, dx, xs, e, m, r⟩ := r
    have na := n a fp_self
    simp only [fp, e] at q nd n
    rw [List.nodup_cons] at nd
    refine freezeDf r nd.2 (fun b hb => n b (List.mem_cons_of_mem _ hb)) fun G1 H1 f1 r1 => ?_
    have e1 : H1 a = some (.ins C dx xs) := by rw [(f1.out a nd.1).2]; exact e
    have n1 : G1 a = none := by rw [(f1.out a nd.1).1]; exact na
    have f : Fz [a] G1 H1 (upd G1 a (.ins C dx xs)) (upd H1 a (.ins C dx xs)) := Fz.one n1 fun _ z => nomatch z
    rw [upd_self e1] at f
    have f2 := f1.trans f
    exact q _ _ ⟨f2.ex, fun b hb => f2.out b fun z => hb (by rcases List.mem_append.mp z with z | z; exact List.mem_cons_of_mem _ z; rw [List.mem_singleton] at z; rw [z]; exact List.mem_cons_self ..), fun b hb => f2.inn b (by
      rcases List.mem_cons.mp hb with z | z
      · rw [z]; simp
      · exact List.mem_append_left _ z)⟩ (by rw [Rep]; exact ⟨a, C, dx, xs, rfl, upd_same, m, r1.mono (Le.new n1)⟩)
  | .non, _, _, _, r, _, _, _ => by rw [RootD] at r; exact r.elim
  | .bl _, _, _, _, r, _, _, _ => by rw [RootD] at r; exact r.elim
  | .int _, _, _, _, r, _, _, _ => by rw [RootD] at r; exact r.elim
  | .str _, _, _, _, r, _, _, _ => by rw [RootD] at r; exact r.elim
  | .tup _, _, _, _, r, _, _, _ => by rw [RootD] at r; exact r.elim
  | .exc _ _, _, _, _, r, _, _, _ => by rw [RootD] at r; exact r.elim
  | .ty _, _, _, _, r, _, _, _ => by rw [RootD] at r; exact r.elim
  | .cls _, _, _, _, r, _, _, _ => by rw [RootD] at r; exact r.elim
  | .scr _, _, _, _, r, _, _, _ => by rw [RootD] at r; exact r.elim
theorem freezeDs : ∀ {ds : List Val} {xs : List V} {G H : Hp}, RootDs w G H ds xs → (fps H ds xs).Nodup → (∀ b ∈ fps H ds xs, G b = none) → (∀ G' H', Fz (fps H ds xs) G H G' H' → Reps w G' ds xs → GQ Q x H') → GQ Q x H
  | [], xs, G, H, r, nd, n, q => by
    rw [RootDs] at r
    exact q G H ⟨Le.refl _, fun _ _ => ⟨rfl, rfl⟩, fun b hb => by rw [fps] at hb; cases hb⟩ (reps_nil.mpr r)
  | d :: ds, xs, G, H, r, nd, n, q => by
    rw [RootDs] at r
    obtain ⟨c, ys, e, r1, r2⟩ := r
    subst e
    simp only [fps] at nd n q
    rw [List.nodup_append] at nd
    obtain ⟨d1, d2, d3⟩ := nd
    refine freezeD r1 d1 (fun b hb => n b (List.mem_append_left _ hb)) fun G1 H1 f1 p1 => ?_
    have nf : ∀ b ∈ fps H ds ys, b ∉ fp H d c := fun b hb z => d3 b z b hb rfl
    obtain ⟨k1, k2⟩ := r2.keep (H' := H1) f1.ex fun b hb o ho => KpO.of (by rw [(f1.out b (nf b hb)).2]; exact ho)
    refine freezeDs k1 (by rw [k2]; exact d2) (fun b hb => ?_) fun G2 H2 f2 p2 => ?_
    · rw [k2] at hb
      rw [(f1.out b (nf b hb)).1]; exact n b (List.mem_append_right _ hb)
    · rw [k2] at f2
      exact q G2 H2 (f1.trans f2) (reps_cons.mpr ⟨_, _, rfl, p1.mono f2.ex, p2⟩)
theorem freezeDf : ∀ {ds : List (Str × Bool × Val)} {xs : List (Str × V)} {G H : Hp}, RootDf w G H ds xs → (fpf H ds xs).Nodup → (∀ b ∈ fpf H ds xs, G b = none) → (∀ G' H', Fz (fpf H ds xs) G H G' H' → RepO w G' ds xs → GQ Q x H') → GQ Q x H
  | [], xs, G, H, r, nd, n, q => by
    rw [RootDf] at r
    exact q G H ⟨Le.refl _, fun _ _ => ⟨rfl, rfl⟩, fun b hb => by rw [fpf] at hb; cases hb⟩ (by rw [RepO]; exact r)
  | (k, o, d) :: ds, xs, G, H, r, nd, n, q => by
    rw [RootDf] at r
    obtain ⟨y, ys, e, r1, r2⟩ := r
    subst e
    cases o with
    | true =>
      obtain ⟨c, e, r1⟩ := r1
      subst e
      simp only [fpf] at nd n q
      rw [List.nodup_append] at nd
      obtain ⟨d1, d2, d3⟩ := nd
      refine freezeD r1 d1 (fun b hb => n b (List.mem_append_left _ hb)) fun G1 H1 f1 p1 => ?_
      have nf : ∀ b ∈ fpf H ds ys, b ∉ fp H d c := fun b hb z => d3 b z b hb rfl
      obtain ⟨k1, k2⟩ := r2.keep (H' := H1) f1.ex fun b hb o ho => KpO.of (by rw [(f1.out b (nf b hb)).2]; exact ho)
      refine freezeDf k1 (by rw [k2]; exact d2) (fun b hb => ?_) fun G2 H2 f2 p2 => ?_
      · rw [k2] at hb
        rw [(f1.out b (nf b hb)).1]; exact n b (List.mem_append_right _ hb)
      · rw [k2] at f2
        exact q G2 H2 (f1.trans f2) (by rw [RepO]; exact ⟨_, _, rfl, p1.mono f2.ex, p2⟩)
    | false =>
      simp only [fpf] at nd n q
      refine freezeDf r2 nd n fun G2 H2 f2 p2 => ?_
      exact q G2 H2 f2 (by rw [RepO]; exact ⟨_, _, rfl, r1.mono f2.ex, p2⟩)
end
/-- a container is frozen: as it stands, or locked -/
theorem freeze_root {v : Val} {a : Addr} {G H : Hp} (ro : Root w G H v a) (n : ∀ b ∈ fp H v a, G b = none) (q : ∀ G' H', Fz (fp H v a) G H G' H' → Rep w G' v (.ref a) → GQ Q x H') : GQ Q x H :=
  freezeD (root_d.mp ro).1 (root_d.mp ro).2 n q
end
section
variable {A : Act} {G H G' H' : Hp} {σ : L2.St} {r : Env} {v : Val} {a : Addr} {x : V} {F : List Addr}
/-- the slots' containers do not stand at F -/
theorem Fz.kp (k : Ok A G H σ r) (f : Fz F G H G' H') (nr : ∀ b ∈ F, ¬ Rt H r σ b) : ∀ b o, Rt H r σ b → H b = some o → KpO o (H' b) := fun b o h e => KpO.of (by rw [(f.out b fun z => nr b z h).2]; exact e)
/-- the state behind it: F is no slot's -/
theorem Ok.freezeF (k : Ok A G H σ r) (f : Fz F G H G' H') (hc : ∀ b ∈ F, H b = none ∨ ∃ u, H b = some u ∧ Con u) (nr : ∀ b ∈ F, ¬ Rt H r σ b) (l : ∀ b ∈ F, A.L b ∨ A.H0 b = none) : Ok A G' H' σ r where
  ex0 := k.ex0.trans f.ex
  gr0 := fun b h => by
    by_cases e : b ∈ F
    · rcases l b e with l | l
      · exact .inr (.inr l)
      · exact .inr (.inl l)
    · rw [(f.out b e).1] at h; exact k.gr0 b h
  fr0 := fun b u h nl => by
    by_cases e : b ∈ F
    · rcases l b e with l | l
      · exact absurd l nl
      · rw [l] at h; cases h
    · rw [(f.out b e).2]; exact k.fr0 b u h nl
  tk := f.tabs k.tk hc
  nt := f.noT k.nt
  sub := f.sub k.sub
  len := k.len
  fz := fun i v h => let ⟨x, e, q⟩ := k.fz i v h; ⟨x, e, q.mono f.ex⟩
  ow := fun i v h => by
    obtain ⟨b, e, q, q2, n⟩ := k.owK (H' := H') f.ex h (f.kp k nr)
    refine ⟨b, e, q, fun c hc => ?_⟩
    rw [q2] at hc
    obtain ⟨n1, n2, n3, _⟩ := n c hc
    exact ⟨by rw [(f.out c fun z => nr c z n3).1]; exact n1, n2⟩
  sep := k.sepK (f.kp k nr)
  fx := k.fx
theorem Ok.freezeT {o : HO} (k : Ok A G H σ r) (n : G a = none) (hc : H a = none ∨ ∃ u, H a = some u ∧ Con u) (ho : ∀ ps, o ≠ .tbl ps) (nr : ¬ Rt H r σ a) (l : A.L a ∨ A.H0 a = none) : Ok A (upd G a o) (upd H a o) σ r :=
  k.freezeF (Fz.one n ho) (fun b hb => by rw [List.mem_singleton] at hb; subst hb; exact hc) (fun b hb => by rw [List.mem_singleton] at hb; subst hb; exact nr) (fun b hb => by rw [List.mem_singleton] at hb; subst hb; exact l)
/-- the step of it -/
theorem Fz.step (k : Ok A G H σ r) (f : Fz F G H G' H') (nr : ∀ b ∈ F, ¬ Rt H r σ b) (new : ∀ b ∈ F, H b = none) : Step σ r G H r G' H' :=
  ⟨f.ex, fun b o h _ => KpO.of (by rw [(f.out b fun z => by rw [new b z] at h; cases h).2]; exact h), fun b h h' => .inl (by
    by_cases e : b ∈ F
    · exact new b e
    · rw [(f.out b e).1] at h'; exact absurd h h'), fun b h => .inl ((k.rtK (f.kp k nr) b).mp h)⟩
end

/-- e, its value frozen -/
def frz (f : EF) : EF := fun r => match f r with
  | .ok _ v r' => .ok false v r'
  | .ex e r' => .ex e r'
  | .bad => .bad
theorem pe_frz {X : Cx} {A : Act} {W : WX} {e : Expr} {f : EF} (h : PE X e (tE A W f)) : PE X e (tE A W (frz f)) := by
  refine PE.imp (PE.ghost h) fun σ H Q ⟨r, G, k, m⟩ => ⟨r, G, k, ?_⟩
  unfold frz at m
  cases hf : f r with
  | bad => rw [hf] at m; exact m.elim
  | ex e r' => rw [hf] at m; exact m
  | ok o v r' =>
    rw [hf] at m
    intro x G1 H1 R
    cases o with
    | false => exact .now (m x G1 H1 R)
    | true =>
      obtain ⟨a, e, ro, n⟩ := R.tr
      subst e
      have fr := R.fr rfl a rfl
      refine freeze_root ro (fun b hb => (n b hb).1) fun G2 H2 f rp => .now (m _ G2 H2 ?_)
      refine ⟨R.ok.freezeF f (fun b hb => .inr (ro.con' b hb)) (fun b hb => (n b hb).2.1) (fun b hb => (n b hb).2.2), ⟨R.st.ex.trans f.ex, fun b u h nb => ?_, fun b h h' => ?_, fun b h => ?_⟩, rp, fun z => nomatch z⟩
      · have ne : b ∉ fp H1 v a := fun z => by
          rcases fr b z with z | z
          · rw [z] at h; cases h
          · exact nb z
        rw [(f.out b ne).2]; exact R.st.keep b u h nb
      · by_cases z : b ∈ fp H1 v a
        · exact fr b z
        · rw [(f.out b z).1] at h'; exact R.st.grow b h h'
      · exact R.st.rts b ((R.ok.rtK (f.kp R.ok fun c hc => (n c hc).2.1) b).mp h)

def cst (v : Val) : EF := fun r => .ok false v r
/-- a name as a value: what it owns is frozen -/
def var (i : Nat) : EF := fun r => match r[i]? with
  | some (some (false, v)) => .ok false v r
  | some (some (true, v)) => .ok false v (r.set i (some (false, v)))
  | _ => .bad
/-- a name that isn't needed any more: its value goes -/
def mv (i : Nat) : EF := fun r => match r[i]? with
  | some (some (o, v)) => .ok o v (r.set i none)
  | _ => .bad
theorem set_some {r : Env} {i j : Nat} {s s' : Slot} {t : Bool × Val} (h : (r.set i s)[j]? = some s') (e : s' = some t) : (j = i ∧ s = s') ∨ (j ≠ i ∧ r[j]? = some s') := by
  by_cases q : i = j
  · subst q
    left
    by_cases l : i < r.length
    · rw [List.getElem?_set_self l] at h; cases h; exact ⟨rfl, rfl⟩
    · rw [List.getElem?_eq_none (by simpa using l)] at h; cases h
  · rw [List.getElem?_set_ne q] at h
    exact .inr ⟨fun z => q z.symm, h⟩
section
variable {A : Act} {W : WX} {G H G' H' : Hp} {σ : L2.St} {r : Env} {i : Nat} {v : Val} {a : Addr}
/-- what slot i holds is no other slot's -/
theorem Ok.apart (k : Ok A G H σ r) (h : r[i]? = some (some (true, v))) (hσ : σ[i]? = some (some (.ref a))) {s : Slot} (hn : ∀ w, s ≠ some (true, w)) {j : Nat} {w : Val} (h1 : (r.set i s)[j]? = some (some (true, w))) :
    r[j]? = some (some (true, w)) ∧ ∀ b, σ[j]? = some (some (.ref b)) → ∀ c ∈ fp H w b, c ∉ fp H v a := by
  rcases set_some h1 rfl with ⟨e1, e2⟩ | ⟨e1, e2⟩
  · exact absurd e2 (hn _)
  · exact ⟨e2, fun b hb c hc z => e1 (k.sep j i w v b a c e2 h hb hσ hc z)⟩
/-- slot i is no longer held: frozen with G' (what belongs to it), or gone -/
theorem Ok.drop (k : Ok A G H σ r) (h : r[i]? = some (some (true, v))) (hσ : σ[i]? = some (some (.ref a))) (f : Fz (fp H v a) G H G' H') (s : Slot) (hs : ∀ w, s = some (false, w) → Rep A.w G' w (.ref a)) (hn : ∀ w, s ≠ some (true, w)) : Ok A G' H' σ (r.set i s) := by
  obtain ⟨a', e, ro, n⟩ := k.ow i v h
  rw [hσ] at e; cases e
  have keep : ∀ {j : Nat} {w : Val}, (r.set i s)[j]? = some (some (true, w)) → ∃ b, σ[j]? = some (some (.ref b)) ∧ Root A.w G' H' w b ∧ fp H' w b = fp H w b ∧ ∀ c ∈ fp H w b, c ∉ fp H v a ∧ G c = none ∧ (A.L c ∨ A.H0 c = none) := fun {j w} h1 => by
    obtain ⟨e2, ap⟩ := k.apart h hσ hn h1
    obtain ⟨b, e, q, nb⟩ := k.ow j w e2
    have q' := q.mono' (H' := H') f.ex fun c hc o ho => by rw [(f.out c (ap b e c hc)).2]; exact ho
    exact ⟨b, e, q'.1, q'.2, fun c hc => ⟨ap b e c hc, nb c hc⟩⟩
  refine ⟨k.ex0.trans f.ex, fun b h => ?_, fun b u h nl => ?_, f.tabs k.tk fun b hb => .inr (ro.con' b hb), f.noT k.nt, f.sub k.sub, by rw [List.length_set]; exact k.len, fun j w h1 => ?_, fun j w h1 => ?_, fun p q v' w' b b2 c h1 h2 h3 h4 h5 h6 => ?_, k.fx⟩
  · by_cases e : b ∈ fp H v a
    · rcases (n b e).2 with l | l
      · exact .inr (.inr l)
      · exact .inr (.inl l)
    · rw [(f.out b e).1] at h; exact k.gr0 b h
  · by_cases e : b ∈ fp H v a
    · rcases (n b e).2 with l | l
      · exact absurd l nl
      · rw [l] at h; cases h
    · rw [(f.out b e).2]; exact k.fr0 b u h nl
  · rcases set_some h1 rfl with ⟨e1, e2⟩ | ⟨e1, e2⟩
    · subst e1; exact ⟨_, hσ, hs _ e2⟩
    · obtain ⟨x, e, q⟩ := k.fz j w e2; exact ⟨x, e, q.mono f.ex⟩
  · obtain ⟨b, e, q, q2, nb⟩ := keep h1
    refine ⟨b, e, q, fun c hc => ?_⟩
    rw [q2] at hc
    obtain ⟨n1, n2, n3⟩ := nb c hc
    exact ⟨by rw [(f.out c n1).1]; exact n2, n3⟩
  · obtain ⟨d, e, _, q2, _⟩ := keep h1
    rw [h3] at e; cases e
    rw [q2] at h5
    obtain ⟨d, e, _, q2, _⟩ := keep h2
    rw [h4] at e; cases e
    rw [q2] at h6
    exact k.sep p q v' w' b b2 c (k.apart h hσ hn h1).1 (k.apart h hσ hn h2).1 h3 h4 h5 h6
theorem step_drop (k : Ok A G H σ r) (h : r[i]? = some (some (true, v))) (hσ : σ[i]? = some (some (.ref a))) (f : Fz (fp H v a) G H G' H') (s : Slot) (hn : ∀ w, s ≠ some (true, w)) : Step σ r G H (r.set i s) G' H' :=
  ⟨f.ex, fun b u hb nb => KpO.of (by rw [(f.out b fun z => nb ⟨i, v, a, h, hσ, z⟩).2]; exact hb), fun b hb hb' => by
    by_cases e : b ∈ fp H v a
    · exact .inr ⟨i, v, a, h, hσ, e⟩
    · rw [(f.out b e).1] at hb'; exact absurd hb hb', fun b ⟨j, w, c, h1, h2, h3⟩ => .inl (by
    obtain ⟨e2, ap⟩ := k.apart h hσ hn h1
    obtain ⟨d, e, q, _⟩ := k.ow j w e2
    rw [h2] at e; cases e
    have q' := q.mono' (H' := H') f.ex fun c' hc o ho => by rw [(f.out c' (ap _ h2 c' hc)).2]; exact ho
    rw [q'.2] at h3
    exact ⟨j, w, c, e2, h2, h3⟩)⟩
end
theorem pe_cst {X : Cx} {A : Act} {W : WX} {e : Expr} {x : V} {v : Val} (h : PE X e (tC x)) (hv : ∀ G, Rep A.w G v x) : PE X e (tE A W (cst v)) :=
  PE.imp h fun σ H Q ⟨r, G, k, m⟩ => m x G H ⟨k, Step.refl, hv G, fun z => nomatch z⟩
theorem pe_var' {X : Cx} {A : Act} {W : WX} {e : Expr} {i : Nat} (h : PE X e (tVar i)) : PE X e (tE A W (var i)) := by
  refine PE.imp (PE.ghost h) fun σ H Q ⟨r, G, k, m⟩ => ?_
  rcases q : r[i]? with _ | _ | ⟨_ | _, v⟩
  · simp only [var, q] at m
  · simp only [var, q] at m
  · simp only [var, q] at m
    obtain ⟨x, e1, e2⟩ := k.fz i v q
    exact ⟨x, e1, .now (m x G H ⟨k, Step.refl, e2, fun z => nomatch z⟩)⟩
  · simp only [var, q] at m
    obtain ⟨a, e1, ro, n⟩ := k.ow i v q
    refine ⟨.ref a, e1, freeze_root ro (fun b hb => (n b hb).1) fun G2 H2 f rp => .now ?_⟩
    exact m _ _ _ ⟨k.drop q e1 f _ (fun w e => by cases e; exact rp) (fun w e => by cases e), step_drop k q e1 f _ (fun w e => by cases e), rp, fun z => nomatch z⟩
theorem Ok.forget {A : Act} {G H : Hp} {σ : L2.St} {r : Env} (k : Ok A G H σ r) (i : Nat) : Ok A G H σ (r.set i none) := by
  have back : ∀ {j : Nat} {t : Bool × Val}, (r.set i none)[j]? = some (some t) → r[j]? = some (some t) ∧ j ≠ i := fun {j t} h => by
    rcases set_some h rfl with ⟨e1, e2⟩ | ⟨e1, e2⟩
    · cases e2
    · exact ⟨e2, e1⟩
  exact ⟨k.ex0, k.gr0, k.fr0, k.tk, k.nt, k.sub, by rw [List.length_set]; exact k.len, fun j v h => k.fz j v (back h).1, fun j v h => k.ow j v (back h).1, fun p q v w a b c h1 h2 => k.sep p q v w a b c (back h1).1 (back h2).1, k.fx⟩
theorem pe_mv {X : Cx} {A : Act} {W : WX} {e : Expr} {i : Nat} (h : PE X e (tVar i)) : PE X e (tE A W (mv i)) := by
  refine PE.imp h fun σ H Q ⟨r, G, k, m⟩ => ?_
  have rt : ∀ b, Rt H (r.set i none) σ b → Rt H r σ b ∨ H b = none := fun b ⟨j, w, c, h1, h2, h3⟩ => by
    rcases set_some h1 rfl with ⟨e1, e2⟩ | ⟨e1, e2⟩
    · cases e2
    · exact .inl ⟨j, w, c, e2, h2, h3⟩
  have st : Step σ r G H (r.set i none) G H := ⟨Le.refl _, fun _ _ h _ => KpO.of h, fun _ h h' => absurd h h', rt⟩
  rcases q : r[i]? with _ | _ | ⟨_ | _, v⟩
  · simp only [mv, q] at m
  · simp only [mv, q] at m
  · simp only [mv, q] at m
    obtain ⟨x, e1, e2⟩ := k.fz i v q
    exact ⟨x, e1, m x G H ⟨k.forget i, st, e2, fun z => nomatch z⟩⟩
  · simp only [mv, q] at m
    obtain ⟨a, e1, ro, n⟩ := k.ow i v q
    refine ⟨.ref a, e1, m _ G H ⟨k.forget i, st, ⟨a, rfl, ro, fun b hb => ⟨(n b hb).1, ?_, (n b hb).2⟩⟩, fun _ b e c hc => by cases e; exact .inr ⟨i, v, a, q, e1, hc⟩⟩⟩
    rintro ⟨j, w, c, h1, h2, h3⟩
    rcases set_some h1 rfl with ⟨e1', e2⟩ | ⟨e1', e2⟩
    · cases e2
    · exact e1' (k.sep j i w v c a b e2 q h2 e1 h3 hb)

def oV (f : EF) : OF := fun r => match f r with
  | .ok o v r' => .ok (.tmp o v) r'
  | .ex e r' => .ex e r'
  | .bad => .bad
def oS (i : Nat) : OF := fun r => match r[i]? with
  | some (some _) => .ok (.sl i) r
  | _ => .bad
def osNil : OsF := fun r => .ok [] r
def osCons (f : OF) (g : OsF) : OsF := fun r => match f r with
  | .ok h r1 => match g r1 with
    | .ok hs r2 => .ok (h :: hs) r2
    | .ex e r2 => .ex e r2
    | .bad => .bad
  | .ex e r1 => .ex e r1
  | .bad => .bad
section
variable {X : Cx} {A : Act} {W : WX} {e : Expr} {es : List Expr} {f : EF} {fo : OF} {g : OsF} {i : Nat}
theorem po_V (h : PE X e (tE A W f)) : PE X e (tO A W (oV f)) := PE.imp h fun σ H Q ⟨r, G, k, m⟩ => ⟨r, G, k, by
  unfold oV at m
  cases hf : f r with
  | bad => rw [hf] at m; exact m.elim
  | ex e r' => rw [hf] at m; exact m
  | ok o v r' => rw [hf] at m; exact fun x G1 H1 R => m x G1 H1 R.ok R.st R.tr⟩
theorem po_S (h : PE X e (tVar i)) : PE X e (tO A W (oS i)) := PE.imp h fun σ H Q ⟨r, G, k, m⟩ => by
  rcases q : r[i]? with _ | _ | ⟨o, v⟩
  · simp only [oS, q] at m
  · simp only [oS, q] at m
  · simp only [oS, q] at m
    obtain ⟨x, e1, e2⟩ := k.slot q
    exact ⟨x, e1, m x G H k Step.refl e1⟩
theorem pa_osNil : PA X [] (tOs A W osNil) := PA.imp pa_nil fun σ H Q ⟨r, G, k, m⟩ => m [] G H k Step.refl rfl
/-- the first operand, then the others -/
theorem os_cons {σ : L2.St} {H : Hp} {Q : List V → Hp → Prop} (h : tOs A W (osCons fo g) σ H Q) : tO A W fo σ H fun x H1 => tOs A W g σ H1 fun xs H2 => Q (x :: xs) H2 := by
  obtain ⟨r, G, k, m⟩ := h
  refine ⟨r, G, k, ?_⟩
  unfold osCons at m
  cases hf : fo r with
  | bad => rw [hf] at m; exact m.elim
  | ex e r' => rw [hf] at m; exact m
  | ok h r1 =>
    simp only [hf] at m
    intro x G1 H1 k1 st1 t1
    refine ⟨r1, G1, k1, ?_⟩
    cases hg : g r1 with
    | bad => simp only [hg] at m
    | ex e r2 => simp only [hg] at m ⊢; exact m.mono st1.ex
    | ok hs r2 =>
      simp only [hg] at m ⊢
      intro xs G2 H2 k2 st2 t2
      exact m (x :: xs) G2 H2 k2 (st1.trans st2) ⟨x, xs, rfl, t1.step st2, t2⟩
theorem pa_osCons (he : PE X e (tO A W fo)) (hr : PA X es (tOs A W g)) (hs : NoStar X e es := by rfl) : PA X (e :: es) (tOs A W (osCons fo g)) :=
  PA.imp (pa_cons he hr hs) fun _ _ _ h => os_cons h
end

def prim (P : List Val → Option (Bool × Val)) (f : OsF) : EF := fun r => match f r with
  | .ok hs r1 => match getAll r1 hs with
    | some vs => match P vs with
      | some (o, z) => .ok o z r1
      | none => .bad
    | none => .bad
  | .ex e r1 => .ex e r1
  | .bad => .bad
/-- what HandS asks of values, held by P -/
def ROk (w : Wd) (R : List V → Hp → VK → Prop) (P : List Val → Option (Bool × Val)) : Prop :=
  ∀ G H vs xs o z, Le G H → RReps w G H vs xs → P vs = some (o, z) → ∀ Q : VK, (∀ u G' H', Grow G H G' H' → NRep w G H G' H' o z u → Q u H') → R xs H Q
/-- HandS's reading that P says -/
def rOf (w : Wd) (P : List Val → Option (Bool × Val)) : List V → Hp → VK → Prop := fun xs H Q => ∃ G vs o z, Le G H ∧ RReps w G H vs xs ∧ P vs = some (o, z) ∧ ∀ u G' H', Grow G H G' H' → NRep w G H G' H' o z u → Q u H'
theorem rok_rOf (w : Wd) (P : List Val → Option (Bool × Val)) : ROk w (rOf w P) P := fun G H vs xs o z le rr hp Q q => ⟨G, vs, o, z, le, rr, hp, q⟩
def r2Of (w : Wd) (P : List Val → Option (Bool × Val)) : R2 := fun x y H Q => rOf w P [x, y] H Q
section
variable {X : Cx} {A : Act} {W : WX} {e : Expr} {es : List Expr} {g : OsF} {P : List Val → Option (Bool × Val)} {R : List V → Hp → VK → Prop}
theorem prim_os {σ : L2.St} {H : Hp} {Q : VK} (hR : ROk A.w R P) (h : tE A W (prim P g) σ H Q) : tOs A W g σ H fun xs H1 => R xs H1 Q := by
  obtain ⟨r, G, k, m⟩ := h
  refine ⟨r, G, k, ?_⟩
  unfold prim at m
  cases hf : g r with
  | bad => rw [hf] at m; exact m.elim
  | ex e r' => rw [hf] at m; exact m
  | ok hs r1 =>
    simp only [hf] at m
    intro xs G1 H1 k1 st1 t1
    cases hg : getAll r1 hs with
    | none => simp only [hg] at m
    | some vs =>
      simp only [hg] at m
      cases hp : P vs with
      | none => simp only [hp] at m
      | some oz =>
        obtain ⟨o, z⟩ := oz
        simp only [hp] at m
        refine hR G1 H1 vs xs o z k1.sub (t1.get k1 hg) hp Q fun u G2 H2 gr nr => ?_
        refine m u G2 H2 ⟨k1.grow gr, st1.trans (gr.step k1), nr.trep k1 (Ok.growK gr), fun eo a ea c hc => ?_⟩
        subst eo
        obtain ⟨b, e1, _, n⟩ := nr
        rw [ea] at e1; cases e1
        exact st1.fresh (n c hc).2
/-- two operands -/
theorem prim_os2 {fa fb : OF} {σ : L2.St} {H : Hp} {Q : VK} (h : tE A W (prim P (osCons fa (osCons fb osNil))) σ H Q) : tOp (r2Of A.w P) (tO A W fa) (tO A W fb) σ H Q := by
  have h2 := os_cons (prim_os (rok_rOf A.w P) h)
  obtain ⟨r, G, k, m⟩ := h2
  refine ⟨r, G, k, ?_⟩
  cases hf : fa r with
  | bad => rw [hf] at m; exact m.elim
  | ex e r' => rw [hf] at m; exact m
  | ok h r1 =>
    simp only [hf] at m ⊢
    intro x G1 H1 k1 st1 t1
    have h3 := os_cons (m x G1 H1 k1 st1 t1)
    obtain ⟨r', G', k', m'⟩ := h3
    refine ⟨r', G', k', ?_⟩
    cases hb : fb r' with
    | bad => rw [hb] at m'; exact m'.elim
    | ex e r' => rw [hb] at m'; exact m'
    | ok h r1 =>
      simp only [hb] at m' ⊢
      intro y G2 H2 k2 st2 t2
      obtain ⟨r4, G4, k4, m4⟩ := m' y G2 H2 k2 st2 t2
      exact m4 [] G4 H2 k4 Step.refl rfl
theorem prim_os1 {fa : OF} {σ : L2.St} {H : Hp} {Q : VK} (h : tE A W (prim P (osCons fa osNil)) σ H Q) : tO A W fa σ H fun x H1 => rOf A.w P [x] H1 Q := by
  have h2 := os_cons (prim_os (rok_rOf A.w P) h)
  obtain ⟨r, G, k, m⟩ := h2
  refine ⟨r, G, k, ?_⟩
  cases hf : fa r with
  | bad => rw [hf] at m; exact m.elim
  | ex e r' => rw [hf] at m; exact m
  | ok h r1 =>
    simp only [hf] at m ⊢
    intro x G1 H1 k1 st1 t1
    obtain ⟨r4, G4, k4, m4⟩ := m x G1 H1 k1 st1 t1
    exact m4 [] G4 H1 k4 Step.refl rfl
end
end M
namespace M
open PySem L2

def tst (f : EF) : BF := fun r => match f r with
  | .ok _ v r' => match v with
    | .bl b => .ok b r'
    | _ => .bad
  | .ex e r' => .ex e r'
  | .bad => .bad
def andB (f g : BF) : BF := fun r => match f r with
  | .ok true r' => g r'
  | x => x
def orB (f g : BF) : BF := fun r => match f r with
  | .ok false r' => g r'
  | x => x
def notB (f : BF) : BF := fun r => match f r with
  | .ok b r' => .ok (!b) r'
  | x => x
theorem trep_f {A : Act} {G H : Hp} {σ : L2.St} {r : Env} {v : Val} {x : V} (h : Rep A.w G v x) : TRep A G H σ r false v x := h
theorem flat_all {H : Hp} {v : Val} {a : Addr} {P : Addr → Prop} (hf : flat v = true) (h : P a) : ∀ b ∈ fp H v a, P b := fun b hb => by
  rw [fp_flat hf, List.mem_singleton] at hb; subst hb; exact h
theorem trep_t {A : Act} {G H : Hp} {σ : L2.St} {r : Env} {v : Val} {a : Addr} (h : Root A.w G H v a) (n : G a = none) (nr : ¬ Rt H r σ a) (l : A.L a ∨ A.H0 a = none) (hf : flat v = true := by rfl) : TRep A G H σ r true v (.ref a) := ⟨a, rfl, h, flat_all hf ⟨n, nr, l⟩⟩
theorem fr_one {H H' : Hp} {σ : L2.St} {r : Env} {o : Bool} {v : Val} {p : Addr} (h : H p = none ∨ Rt H r σ p) (hf : flat v = true := by rfl) : o = true → ∀ a, V.ref p = .ref a → ∀ b ∈ fp H' v a, H b = none ∨ Rt H r σ b := fun _ a e => by
  cases e; exact flat_all hf h
theorem root_lst {w : Wd} {G H : Hp} {a : Addr} {ds : List Val} {xs : List V} (h : H a = some (.lst xs)) (q : Reps w G ds xs) : Root w G H (.lst ds) a := ⟨xs, h, q⟩
theorem nrep_f {w : Wd} {G H G' H' : Hp} {v : Val} {x : V} (h : Rep w G' v x) : NRep w G H G' H' false v x := h
theorem no_own {P : Prop} : false = true → P := fun z => nomatch z
theorem bl_of {A : Act} {σ : L2.St} {H : Hp} {G : Hp} {r : Env} {o : Bool} {b : Bool} {u : V} (t : TRep A G H σ r o (.bl b) u) : u = .bl b := by
  cases o with
  | true => obtain ⟨a, _, ro, _⟩ := t; exact ro.elim
  | false => exact rep_bl.mp (show Rep A.w G (.bl b) u from t)
section
variable {X : Cx} {A : Act} {W : WX} {e : Expr} {f : EF} {fa fb : OF} {P : List Val → Option (Bool × Val)} {r2 : R2} {b c : BF} {σ : L2.St} {H : Hp} {Q : Bool → Hp → Prop}
theorem tst_of (h : tBo A W (tst f) σ H Q) : tE A W f σ H fun x H1 => ∃ k, x = .bl k ∧ Q k H1 := by
  obtain ⟨r, G, k, m⟩ := h
  refine ⟨r, G, k, ?_⟩
  unfold tst at m
  cases hf : f r with
  | bad => rw [hf] at m; exact m.elim
  | ex e r' => rw [hf] at m; exact m
  | ok o v r' =>
    simp only [hf] at m
    intro x G1 H1 R
    cases v with
    | bl b =>
      exact ⟨b, bl_of R.tr, m G1 H1 R.ok R.st⟩
    | _ => exact False.elim m
theorem pt_tst (h : PE X e (tE A W f)) (he : ∀ whole, isTrue e X.env whole = (do let v ← whole; standAt e.pos; holding [v] (truthy v)) := by intro _; rfl) : PT X e (tBo A W (tst f)) :=
  PT.imp (pt_val h he) fun _ _ _ q => tst_of q
theorem pt_cmp' {x y : Expr} {op : CmpOp} {pos : Pos} (ho : OpR X (compareOp op) (r2Of A.w P)) (ha : PE X x (tO A W fa)) (hb : PE X y (tO A W fb)) (hm : behindInMarks op y = false) :
    PT X (.Compare x [op] [y] pos) (tBo A W (tst (prim P (osCons fa (osCons fb osNil))))) :=
  PT.imp (pt_cmpR ho ha hb hm) fun _ _ _ q => prim_os2 (tst_of q)
theorem and_of {Q} (h : tBo A W (andB b c) σ H Q) : tAnd (tBo A W b) (tBo A W c) σ H Q := by
  obtain ⟨r, G, k, m⟩ := h
  refine ⟨r, G, k, ?_⟩
  unfold andB at m
  rcases hf : b r with ⟨_ | _, r1⟩ | _ | _
  · simp only [hf] at m ⊢
    intro G1 H1 k1 st1
    simp only [Bool.false_eq_true, if_false]
    exact m G1 H1 k1 st1
  · simp only [hf] at m ⊢
    intro G1 H1 k1 st1
    simp only [if_true]
    refine ⟨r1, G1, k1, ?_⟩
    cases hg : c r1 with
    | bad => simp only [hg] at m
    | ex e r' => simp only [hg] at m ⊢; exact m.mono st1.ex
    | ok d r' => simp only [hg] at m ⊢; exact fun G2 H2 k2 st2 => m G2 H2 k2 (st1.trans st2)
  · simp only [hf] at m ⊢; exact m
  · simp only [hf] at m
theorem or_of {Q} (h : tBo A W (orB b c) σ H Q) : tOr (tBo A W b) (tBo A W c) σ H Q := by
  obtain ⟨r, G, k, m⟩ := h
  refine ⟨r, G, k, ?_⟩
  unfold orB at m
  rcases hf : b r with ⟨_ | _, r1⟩ | _ | _
  · simp only [hf] at m ⊢
    intro G1 H1 k1 st1
    simp only [Bool.false_eq_true, if_false]
    refine ⟨r1, G1, k1, ?_⟩
    cases hg : c r1 with
    | bad => simp only [hg] at m
    | ex e r' => simp only [hg] at m ⊢; exact m.mono st1.ex
    | ok d r' => simp only [hg] at m ⊢; exact fun G2 H2 k2 st2 => m G2 H2 k2 (st1.trans st2)
  · simp only [hf] at m ⊢
    intro G1 H1 k1 st1
    simp only [if_true]
    exact m G1 H1 k1 st1
  · simp only [hf] at m ⊢; exact m
  · simp only [hf] at m
theorem not_of' {Q} (h : tBo A W (notB b) σ H Q) : tNot (tBo A W b) σ H Q := by
  obtain ⟨r, G, k, m⟩ := h
  refine ⟨r, G, k, ?_⟩
  unfold notB at m
  cases hf : b r with
  | ok d r1 => simp only [hf] at m ⊢; exact m
  | ex e r1 => simp only [hf] at m ⊢; exact m
  | bad => simp only [hf] at m
theorem pw_and' {x y : Expr} {rest : List Expr} {pos : Pos} (ha : PT X x (tBo A W b)) (hb : PW X (.BoolOp .And (y :: rest) pos) (tBo A W c)) : PW X (.BoolOp .And (x :: y :: rest) pos) (tBo A W (andB b c)) :=
  ⟨fun wh pins s σ H Q I h => (pw_and ha hb).run wh pins s σ H Q I (and_of h)⟩
theorem pw_or' {x y : Expr} {rest : List Expr} {pos : Pos} (ha : PT X x (tBo A W b)) (hb : PW X (.BoolOp .Or (y :: rest) pos) (tBo A W c)) : PW X (.BoolOp .Or (x :: y :: rest) pos) (tBo A W (orB b c)) :=
  ⟨fun wh pins s σ H Q I h => (pw_or ha hb).run wh pins s σ H Q I (or_of h)⟩
theorem pt_not' {x : Expr} {pos : Pos} (ha : PT X x (tBo A W b)) : PT X (.UnaryOp .Not x pos) (tBo A W (notB b)) := PT.imp (pt_not ha) fun _ _ _ q => not_of' q
end

def andV (f g : EF) : EF := fun r => match f r with
  | .ok _ v r' => match v with
    | .bl true => g r'
    | .bl false => .ok false (.bl false) r'
    | _ => .bad
  | x => x
def orV (f g : EF) : EF := fun r => match f r with
  | .ok _ v r' => match v with
    | .bl true => .ok false (.bl true) r'
    | .bl false => g r'
    | _ => .bad
  | x => x
def notV (f : EF) : EF := fun r => match f r with
  | .ok _ v r' => match v with
    | .bl b => .ok false (.bl (!b)) r'
    | _ => .bad
  | x => x
def ite (c : BF) (f g : EF) : EF := fun r => match c r with
  | .ok true r' => f r'
  | .ok false r' => g r'
  | .ex e r' => .ex e r'
  | .bad => .bad
section
variable {X : Cx} {A : Act} {W : WX} {e : Expr} {f g : EF} {c : BF} {σ : L2.St} {H : Hp} {Q : VK} {x y : Expr} {rest : List Expr} {pos : Pos}
/-- an expression in a row behind a state that has gone on -/
theorem tE_step {r r1 : Env} {G G1 H1 : Hp} (k1 : Ok A G1 H1 σ r1) (st1 : Step σ r G H r1 G1 H1)
    (m : match g r1 with
      | .ok o v r' => ∀ x G' H', Res A σ r G H r' G' H' o v x → Q x H'
      | .ex e r' => ExP A W G σ e r'
      | .bad => False) : tE A W g σ H1 Q := by
  refine ⟨r1, G1, k1, ?_⟩
  cases hg : g r1 with
  | bad => simp only [hg] at m
  | ex e r' => simp only [hg] at m ⊢; exact m.mono st1.ex
  | ok o v r' =>
    simp only [hg] at m ⊢
    intro x G2 H2 R
    refine m x G2 H2 ⟨R.ok, st1.trans R.st, R.tr, fun eo a ea b hb => ?_⟩
    rcases R.fr eo a ea b hb with z | z
    · exact st1.fresh z
    · exact (st1.rts b z).symm
theorem pe_andV (ha : PE X x (tE A W f)) (hb : PE X (.BoolOp .And (y :: rest) pos) (tE A W g)) : PE X (.BoolOp .And (x :: y :: rest) pos) (tE A W (andV f g)) := by
  refine PE.imp (pe_and ha hb) fun σ H Q ⟨r, G, k, m⟩ => ⟨r, G, k, ?_⟩
  unfold andV at m
  cases hf : f r with
  | bad => simp only [hf] at m
  | ex e r' => simp only [hf] at m ⊢; exact m
  | ok o v r' =>
    simp only [hf] at m ⊢
    intro u G1 H1 R
    cases v with
    | bl b =>
      refine ⟨b, bl_of R.tr, ?_⟩
      cases b with
      | true => simp only [if_true]; exact tE_step R.ok R.st m
      | false => simp only [Bool.false_eq_true, if_false]; exact m _ _ _ ⟨R.ok, R.st, trep_f (rep_bl.mpr rfl), no_own⟩
    | _ => exact False.elim m
theorem pe_ite {t : Expr} (hc : PT X t (tBo A W c)) (ha : PE X x (tE A W f)) (hb : PE X y (tE A W g)) : PE X (.IfExp t x y pos) (tE A W (ite c f g)) := by
  refine PE.imp (pe_ifExp hc ha hb) fun σ H Q ⟨r, G, k, m⟩ => ⟨r, G, k, ?_⟩
  unfold ite at m
  rcases hf : c r with ⟨_ | _, r1⟩ | _ | _
  · simp only [hf] at m ⊢
    intro G1 H1 k1 st1
    simp only [Bool.false_eq_true, if_false]
    exact tE_step k1 st1 m
  · simp only [hf] at m ⊢
    intro G1 H1 k1 st1
    simp only [if_true]
    exact tE_step k1 st1 m
  · simp only [hf] at m ⊢; exact m
  · simp only [hf] at m
end

inductive AR where
  | ok (vs : List Val) (r : Env) | ex (e : Val) (r : Env) | bad
abbrev AF := Env → AR
def asNil : AF := fun r => .ok [] r
def asCons (f : EF) (g : AF) : AF := fun r => match frz f r with
  | .ok _ v r1 => match g r1 with
    | .ok vs r2 => .ok (v :: vs) r2
    | .ex e r2 => .ex e r2
    | .bad => .bad
  | .ex e r1 => .ex e r1
  | .bad => .bad
def tAs (A : Act) (W : WX) (f : AF) : TA := fun σ H Q => ∃ r G, Ok A G H σ r ∧ match f r with
  | .ok vs r' => ∀ xs G' H', Ok A G' H' σ r' → Step σ r G H r' G' H' → Reps A.w G' vs xs → Q xs H'
  | .ex e r' => ExP A W G σ e r'
  | .bad => False
def tup (g : AF) : EF := fun r => match g r with
  | .ok vs r1 => if vs.length ≤ 100000 then .ok false (.tup vs) r1 else .bad
  | .ex e r1 => .ex e r1
  | .bad => .bad
def lst (g : AF) : EF := fun r => match g r with
  | .ok vs r1 => if vs.length ≤ 100000 then .ok true (.lst vs) r1 else .bad
  | .ex e r1 => .ex e r1
  | .bad => .bad
theorem line_of {n : Nat} (h : n ≤ 100000) : n ≤ sizeLine := Nat.le_trans h (by decide)
theorem frz_false {f : EF} {r r' : Env} {o : Bool} {v : Val} (h : frz f r = .ok o v r') : o = false := by
  unfold frz at h
  split at h <;> first | (cases h; rfl) | cases h
section
variable {X : Cx} {A : Act} {W : WX} {e : Expr} {es : List Expr} {f : EF} {g : AF} {pos : Pos}
theorem pa_asNil : PA X [] (tAs A W asNil) := PA.imp pa_nil fun σ H Q ⟨r, G, k, m⟩ => m [] G H k Step.refl (reps_nil.mpr rfl)
theorem pa_asCons (he : PE X e (tE A W f)) (hr : PA X es (tAs A W g)) (hs : NoStar X e es := by rfl) : PA X (e :: es) (tAs A W (asCons f g)) := by
  refine PA.imp (pa_cons (pe_frz he) hr hs) fun σ H Q ⟨r, G, k, m⟩ => ⟨r, G, k, ?_⟩
  unfold asCons at m
  cases hf : frz f r with
  | bad => simp only [hf] at m
  | ex e r' => simp only [hf] at m ⊢; exact m
  | ok o v r1 =>
    have eo := frz_false hf
    subst eo
    simp only [hf] at m ⊢
    intro x G1 H1 R1
    refine ⟨r1, G1, R1.ok, ?_⟩
    cases hg : g r1 with
    | bad => simp only [hg] at m
    | ex e r2 => simp only [hg] at m ⊢; exact m.mono R1.st.ex
    | ok vs r2 =>
      simp only [hg] at m ⊢
      intro xs G2 H2 k2 st2 rs
      exact m (x :: xs) G2 H2 k2 (R1.st.trans st2) (reps_cons.mpr ⟨x, xs, rfl, Rep.mono st2.ex R1.tr, rs⟩)
theorem pe_tup' {k1} (h : PA X es (tAs A W g)) : PE X (.Tuple es k1 pos) (tE A W (tup g)) := by
  refine PE.imp (pe_tup h) fun σ H Q ⟨r, G, k, m⟩ => ⟨r, G, k, ?_⟩
  unfold tup at m
  cases hf : g r with
  | bad => simp only [hf] at m
  | ex e r' => simp only [hf] at m ⊢; exact m
  | ok vs r1 =>
    simp only [hf] at m ⊢
    intro xs G1 H1 k1 st1 rs
    by_cases hl : vs.length ≤ 100000
    · simp only [if_pos hl] at m
      refine ⟨by rw [← reps_length rs]; exact line_of hl, fun p hp => ?_⟩
      have gr := Grow.laidG (o := .tup xs) k1.sub hp
      exact m _ _ _ ⟨k1.grow gr, st1.trans (gr.step k1), trep_f (rep_tup.mpr ⟨p, xs, rfl, SqT.of upd_same, rs.mono gr.g⟩), no_own⟩
    · simp only [if_neg hl] at m
theorem pe_lst' (h : PA X es (tAs A W g)) : PE X (.List es pos) (tE A W (lst g)) := by
  refine PE.imp (pe_lst h) fun σ H Q ⟨r, G, k, m⟩ => ⟨r, G, k, ?_⟩
  unfold lst at m
  cases hf : g r with
  | bad => simp only [hf] at m
  | ex e r' => simp only [hf] at m ⊢; exact m
  | ok vs r1 =>
    simp only [hf] at m ⊢
    intro xs G1 H1 k1 st1 rs
    by_cases hl : vs.length ≤ 100000
    · simp only [if_pos hl] at m
      refine ⟨by rw [← reps_length rs]; exact line_of hl, fun p hp => ?_⟩
      have gr := Grow.laidH (o := .lst xs) k1.sub hp
      exact m _ _ _ ⟨k1.grow gr, st1.trans (gr.step k1), trep_t (root_lst upd_same rs) (k1.sub.back hp) (fun z => k1.notRt hp ((k1.rtK (Ok.growK gr) _).mp z)) (k1.fresh hp), fr_one (st1.fresh hp)⟩
    · simp only [if_neg hl] at m
end

inductive GR where
  | ok (o : Bool) (v : Val) (out : Option (Bool × Val)) | ex (e : Val) (out : Option (Bool × Val)) | bad
abbrev GF := List (Bool × Val) → GR
/-- the arguments at a call: frozen values, one slot's container at most -/
def ARel (w : Wd) (G H : Hp) : List (Bool × Val) → List V → Prop
  | [], xs => xs = []
  | (false, v) :: as, xs => ∃ y ys, xs = y :: ys ∧ Rep w G v y ∧ ARel w G H as ys
  | (true, v) :: as, xs => ∃ a ys, xs = .ref a :: ys ∧ Root w G H v a ∧ (∀ b ∈ fp H v a, G b = none) ∧ ARel w G H as ys
def Lent (H : Hp) (as : List (Bool × Val)) (xs : List V) (a : Addr) : Prop := ∃ (i : Nat) (v : Val) (b : Addr), as[i]? = some (true, v) ∧ xs[i]? = some (.ref b) ∧ a ∈ fp H v b
def lents (as : List (Bool × Val)) : Nat := (as.filter (·.1)).length
def OutRel (w : Wd) (G H : Hp) (P : Addr → Prop) (a : Addr) : Option (Bool × Val) → Prop
  | some (true, v) => Root w G H v a ∧ ∀ b ∈ fp H v a, G b = none ∧ P b
  | some (false, v) => Rep w G v (.ref a)
  | none => False
/-- behind a call -/
structure Post (w : Wd) (G H : Hp) (as : List (Bool × Val)) (xs : List V) (out : Option (Bool × Val)) (G' H' : Hp) : Prop where
  g : Le G G'
  s : Le G' H'
  gr : ∀ a, G a = none → G' a ≠ none → H a = none ∨ Lent H as xs a
  kp : ∀ a o, H a = some o → ¬ Lent H as xs a → KpO o (H' a)
  tk : TkO w.T H'
  nt : NoT G'
  out : ∀ (i : Nat) (v : Val) (a : Addr), as[i]? = some (true, v) → xs[i]? = some (.ref a) → OutRel w G' H' (fun b => H b = none ∨ Lent H as xs b) a out
/-- a def's promise: called with as it is worth g as -/
def LeT (w : Wd) (G H : Hp) : Prop := Le G H ∧ TkO w.T H ∧ NoT G
theorem Ok.subT {A : Act} {G H : Hp} {σ : L2.St} {r : Env} (k : Ok A G H σ r) : LeT A.w G H := ⟨k.sub, k.tk, k.nt⟩
/-- what a def returns is not what it was lent -/
def Dis (H : Hp) (as : List (Bool × Val)) (xs : List V) (out : Option (Bool × Val)) (o : Bool) (z : Val) (u : V) : Prop :=
  o = true → ∀ c, u = .ref c → ∀ b ∈ fp H z c, ∀ (q : Nat) (v v' : Val) (a : Addr), as[q]? = some (true, v) → xs[q]? = some (.ref a) → out = some (true, v') → b ∉ fp H v' a
/-- what a def returns -/
def CRep (w : Wd) (G H : Hp) (as : List (Bool × Val)) (xs : List V) (G' H' : Hp) (o : Bool) (v : Val) (x : V) : Prop := match o with
  | true => ∃ a, x = .ref a ∧ Root w G' H' v a ∧ ∀ b ∈ fp H' v a, G' b = none ∧ (H b = none ∨ Lent H as xs b)
  | false => Rep w G' v x
theorem Dis.f {H : Hp} {as : List (Bool × Val)} {xs : List V} {out : Option (Bool × Val)} {z : Val} {u : V} : Dis H as xs out false z u := fun h => nomatch h
def spF (w : Wd) (n : Nat) (g : GF) : Sp := fun vs H Q E => ∃ G as, vs.length = n ∧ LeT w G H ∧ ARel w G H as vs ∧ lents as ≤ 1 ∧ match g as with
  | .ok o z out => ∀ u G' H', Post w G H as vs out G' H' → CRep w G H as vs G' H' o z u → Dis H' as vs out o z u → Q u H'
  | .ex e out => match e with
    | .exc c fs => ∀ G' H' C d, Post w G H as vs out G' H' → w.CM c = some C → XdOk w G' H' d fs → E (.ref C) d H'
    | _ => False
  | .bad => False
/-- the arguments as the slots are: temporaries are frozen -/
def lend (r : Env) : List Hd → Option (List (Bool × Val))
  | [] => some []
  | .tmp false v :: hs => match lend r hs with
    | some as => some ((false, v) :: as)
    | none => none
  | .tmp true _ :: _ => none
  | .sl i :: hs => match r[i]? with
    | some (some t) => match lend r hs with
      | some as => some (t :: as)
      | none => none
    | _ => none
/-- the slot that is lent -/
def lentIx (r : Env) : List Hd → Option Nat
  | [] => none
  | .sl i :: hs => match r[i]? with
    | some (some (true, _)) => some i
    | _ => lentIx r hs
  | _ :: hs => lentIx r hs
/-- the slots behind a call -/
def back (r : Env) (ix : Option Nat) (out : Option (Bool × Val)) : Env := match ix with
  | some i => r.set i out
  | none => r
def callG (n : Nat) (g : GF) (f : OsF) : EF := fun r => match f r with
  | .ok hs r1 => match lend r1 hs with
    | some as => if lents as ≤ 1 ∧ as.length = n then match g as with
      | .ok o z out => .ok o z (back r1 (lentIx r1 hs) out)
      | .ex e out => .ex e (back r1 (lentIx r1 hs) out)
      | .bad => .bad
      else .bad
    | none => .bad
  | .ex e r1 => .ex e r1
  | .bad => .bad

theorem lents_zero : ∀ {as : List (Bool × Val)}, lents as = 0 → ∀ {p : Nat} {v : Val}, as[p]? ≠ some (true, v)
  | [], _, p, v => by simp
  | (b, w) :: as, h, p, v => by
    cases b with
    | true => simp [lents] at h
    | false =>
      have h' : lents as = 0 := by simpa [lents] using h
      cases p with
      | zero => simp
      | succ p => simpa using lents_zero h' (p := p) (v := v)
section
variable {A : Act} {W : WX} {G H G' H' : Hp} {σ : L2.St} {r : Env}
theorem lend_rel (k : Ok A G H σ r) : ∀ {hs : List Hd} {xs : List V} {as : List (Bool × Val)}, lend r hs = some as → HReps A G H σ r hs xs → ARel A.w G H as xs
  | [], _, as, e, h => by simp only [lend, Option.some.injEq] at e; subst e; exact h
  | .tmp false v :: hs, _, as, e, ⟨y, ys, e1, a, b⟩ => by
    simp only [lend] at e
    split at e
    · rename_i as' q
      cases e
      exact ⟨y, ys, e1, a, lend_rel k q b⟩
    · cases e
  | .tmp true v :: hs, _, as, e, _ => by simp only [lend] at e; cases e
  | .sl i :: hs, _, as, e, ⟨y, ys, e1, a, b⟩ => by
    simp only [lend] at e
    split at e
    · rename_i t q
      split at e
      · rename_i as' q2
        cases e
        obtain ⟨o, v⟩ := t
        have a' : σ[i]? = some (some y) := a
        cases o with
        | false =>
          obtain ⟨x, e2, rp⟩ := k.fz i v q
          rw [a'] at e2; cases e2
          exact ⟨y, ys, e1, rp, lend_rel k q2 b⟩
        | true =>
          obtain ⟨c, e2, ro, n⟩ := k.ow i v q
          rw [a'] at e2; cases e2
          exact ⟨c, ys, e1, ro, fun b hb => (n b hb).1, lend_rel k q2 b⟩
      · cases e
    · cases e
theorem lend_none : ∀ {hs : List Hd} {as : List (Bool × Val)}, lend r hs = some as → lents as = 0 → lentIx r hs = none
  | [], _, _, _ => rfl
  | .tmp false v :: hs, as, e, h => by
    simp only [lend] at e
    split at e
    · rename_i as' q
      cases e
      exact lend_none (hs := hs) q (by simpa [lents] using h)
    · cases e
  | .tmp true v :: hs, as, e, _ => by simp only [lend] at e; cases e
  | .sl i :: hs, as, e, h => by
    simp only [lend] at e
    split at e
    · rename_i t q
      split at e
      · rename_i as' q2
        cases e
        obtain ⟨o, v⟩ := t
        cases o with
        | false => simp only [lentIx, q]; exact lend_none q2 (by simpa [lents] using h)
        | true => simp [lents] at h
      · cases e
    · cases e
theorem lend_at : ∀ {hs : List Hd} {as : List (Bool × Val)} {xs : List V} {p : Nat} {v : Val} {x : V}, lend r hs = some as → lents as ≤ 1 → HReps A G H σ r hs xs → as[p]? = some (true, v) → xs[p]? = some x →
    ∃ i, lentIx r hs = some i ∧ r[i]? = some (some (true, v)) ∧ σ[i]? = some (some x)
  | [], as, _, p, v, x, e, _, _, h, _ => by simp only [lend, Option.some.injEq] at e; subst e; simp at h
  | .tmp false w :: hs, as, _, p, v, x, e, hl, ⟨y, ys, e1, a, b⟩, h, hx => by
    simp only [lend] at e
    split at e
    · rename_i as' q
      cases e; subst e1
      cases p with
      | zero => simp at h
      | succ p =>
        obtain ⟨i, h1, h2, h3⟩ := lend_at q (by simpa [lents] using hl) b (p := p) (by simpa using h) (by simpa using hx)
        exact ⟨i, h1, h2, h3⟩
    · cases e
  | .tmp true v :: hs, as, _, _, _, _, e, _, _, _, _ => by simp only [lend] at e; cases e
  | .sl i :: hs, as, _, p, v, x, e, hl, ⟨y, ys, e1, a, b⟩, h, hx => by
    simp only [lend] at e
    split at e
    · rename_i t q
      split at e
      · rename_i as' q2
        cases e; subst e1
        obtain ⟨o, w⟩ := t
        cases o with
        | false =>
          cases p with
          | zero => simp at h
          | succ p =>
            obtain ⟨i', h1, h2, h3⟩ := lend_at q2 (by simpa [lents] using hl) b (p := p) (by simpa using h) (by simpa using hx)
            exact ⟨i', by simp only [lentIx, q]; exact h1, h2, h3⟩
        | true =>
          have z : lents as' = 0 := by
            have e : lents ((true, w) :: as') = lents as' + 1 := by simp [lents]
            omega
          cases p with
          | zero =>
            simp at h hx; subst h; subst hx
            exact ⟨i, by simp only [lentIx, q], q, a⟩
          | succ p => exact absurd (by simpa using h) (lents_zero z (p := p) (v := v))
      · cases e
    · cases e
/-- a heap behind a call that was lent nothing -/
theorem Ok.post0 (k : Ok A G H σ r) (g : Le G G') (s : Le G' H') (gr : ∀ a, G a = none → G' a ≠ none → H a = none) (kp : ∀ a o, H a = some o → KpO o (H' a)) (tk : TkO A.w.T H') (nt : NoT G') : Ok A G' H' σ r where
  ex0 := k.ex0.trans g
  gr0 := fun a h => by
    by_cases q : G a = none
    · rcases k.fresh (gr a q h) with z | z
      · exact .inr (.inr z)
      · exact .inr (.inl z)
    · exact k.gr0 a q
  fr0 := fun a o h n => (k.fr0 a o h n).trans fun u e => kp _ _ e
  tk := tk
  nt := nt
  sub := s
  len := k.len
  fz := fun i v h => let ⟨x, e, q⟩ := k.fz i v h; ⟨x, e, q.mono g⟩
  ow := fun i v h => by
    obtain ⟨a, e, q, q2, n⟩ := k.owK (H' := H') g h fun b o _ => kp b o
    refine ⟨a, e, q, fun b hb => ?_⟩
    rw [q2] at hb
    obtain ⟨n1, n2, _, o', e', _⟩ := n b hb
    refine ⟨?_, n2⟩
    cases z : G' b with
    | none => rfl
    | some o =>
      have := gr b n1 (by rw [z]; simp)
      rw [e'] at this; cases this
  sep := k.sepK fun b o _ => kp b o
  fx := k.fx
theorem OutRel.ows {w : Wd} {G H : Hp} {P : Addr → Prop} {a : Addr} {v : Val} (h : OutRel w G H P a (some (true, v))) : Root w G H v a ∧ ∀ b ∈ fp H v a, G b = none ∧ P b := h
/-- another slot's container behind a call that was lent slot i's -/
theorem Ok.other1 {i : Nat} {v : Val} {a : Addr} {out : Slot} (k : Ok A G H σ r) (hi : r[i]? = some (some (true, v))) (hσ : σ[i]? = some (some (.ref a))) (g : Le G G') (kp : ∀ b o, H b = some o → b ∉ fp H v a → KpO o (H' b))
    (out' : OutRel A.w G' H' (fun b => H b = none ∨ b ∈ fp H v a) a out) {j : Nat} {w : Val} (h1 : (r.set i out)[j]? = some (some (true, w))) :
    (j = i ∧ out = some (true, w)) ∨ (j ≠ i ∧ r[j]? = some (some (true, w)) ∧ ∃ b, σ[j]? = some (some (.ref b)) ∧ Root A.w G' H' w b ∧ fp H' w b = fp H w b ∧ ∀ c ∈ fp H w b, c ∉ fp H v a ∧ G c = none ∧ (A.L c ∨ A.H0 c = none) ∧ ∃ o, H c = some o ∧ Con o) := by
  rcases set_some h1 rfl with ⟨e1, e2⟩ | ⟨e1, e2⟩
  · exact .inl ⟨e1, e2⟩
  · obtain ⟨b, e, q, nb⟩ := k.ow j w e2
    have ap : ∀ c ∈ fp H w b, c ∉ fp H v a := fun c hc z => e1 (k.sep j i w v b a c e2 hi e hσ hc z)
    have q' := q.monoK' (H' := H') g fun c hc o ho => kp c o ho (ap c hc)
    exact .inr ⟨e1, e2, b, e, q'.1, q'.2, fun c hc => ⟨ap c hc, (nb c hc).1, (nb c hc).2, q.con' c hc⟩⟩
/-- .. that was lent slot i's container -/
theorem Ok.post1 {i : Nat} {v : Val} {a : Addr} {out : Slot} (k : Ok A G H σ r) (hi : r[i]? = some (some (true, v))) (hσ : σ[i]? = some (some (.ref a))) (g : Le G G') (s : Le G' H') (gr : ∀ b, G b = none → G' b ≠ none → H b = none ∨ b ∈ fp H v a)
    (kp : ∀ b o, H b = some o → b ∉ fp H v a → KpO o (H' b)) (tk : TkO A.w.T H') (nt : NoT G') (out' : OutRel A.w G' H' (fun b => H b = none ∨ b ∈ fp H v a) a out) : Ok A G' H' σ (r.set i out) := by
  obtain ⟨a', e, ro, n⟩ := k.ow i v hi
  rw [hσ] at e; cases e
  have il : i < r.length := (List.getElem?_eq_some_iff.mp hi).1
  refine ⟨k.ex0.trans g, fun b h => ?_, fun b o h nl => ?_, tk, nt, s, by rw [List.length_set]; exact k.len, fun j w h1 => ?_, fun j w h1 => ?_, fun p q v' w' b b2 c h1 h2 h3 h4 h5 h6 => ?_, k.fx⟩
  · by_cases q : G b = none
    · rcases gr b q h with z | z
      · rcases k.fresh z with z | z
        · exact .inr (.inr z)
        · exact .inr (.inl z)
      · rcases (n b z).2 with l | l
        · exact .inr (.inr l)
        · exact .inr (.inl l)
    · exact k.gr0 b q
  · refine (k.fr0 b o h nl).trans fun u e => kp b u e fun z => ?_
    rcases (n b z).2 with l | l
    · exact nl l
    · rw [l] at h; cases h
  · rcases set_some h1 rfl with ⟨e1, e2⟩ | ⟨e1, e2⟩
    · subst e1; subst e2; exact ⟨_, hσ, out'⟩
    · obtain ⟨x, e, q⟩ := k.fz j w e2; exact ⟨x, e, q.mono g⟩
  · rcases k.other1 hi hσ g kp out' h1 with ⟨e1, e2⟩ | ⟨_, _, b, e, q, q2, nb⟩
    · subst e1; subst e2
      refine ⟨a, hσ, out'.1, fun b hb => ⟨(out'.2 b hb).1, ?_⟩⟩
      rcases (out'.2 b hb).2 with z | z
      · exact k.fresh z
      · exact (n b z).2
    · refine ⟨b, e, q, fun c hc => ?_⟩
      rw [q2] at hc
      obtain ⟨n1, n2, n3, u, hu, _⟩ := nb c hc
      refine ⟨?_, n3⟩
      cases z : G' c with
      | none => rfl
      | some o =>
        rcases gr c n2 (by rw [z]; simp) with y | y
        · rw [hu] at y; cases y
        · exact absurd y n1
  · rcases k.other1 hi hσ g kp out' h1 with ⟨e1, e2⟩ | ⟨f1, f2, c1, g1, _, t1, m1⟩
    · rcases k.other1 hi hσ g kp out' h2 with ⟨e3, e4⟩ | ⟨f3, f4, c3, g3, _, t3, m3⟩
      · rw [e1, e3]
      · exfalso
        subst e1; subst e2
        rw [hσ] at h3; cases h3
        rw [g3] at h4; cases h4
        rw [t3] at h6
        obtain ⟨n1, _, _, u, hu, _⟩ := m3 c h6
        rcases (out'.2 c h5).2 with z | z
        · rw [hu] at z; cases z
        · exact n1 z
    · rcases k.other1 hi hσ g kp out' h2 with ⟨e3, e4⟩ | ⟨f3, f4, c3, g3, _, t3, m3⟩
      · exfalso
        subst e3; subst e4
        rw [hσ] at h4; cases h4
        rw [g1] at h3; cases h3
        rw [t1] at h5
        obtain ⟨n1, _, _, u, hu, _⟩ := m1 c h5
        rcases (out'.2 c h6).2 with z | z
        · rw [hu] at z; cases z
        · exact n1 z
      · rw [g1] at h3; cases h3
        rw [g3] at h4; cases h4
        rw [t1] at h5; rw [t3] at h6
        exact k.sep p q v' w' _ _ c f2 f4 g1 g3 h5 h6
theorem rt_set {i : Nat} {v : Val} {a : Addr} {out : Slot} (k : Ok A G H σ r) (hi : r[i]? = some (some (true, v))) (hσ : σ[i]? = some (some (.ref a))) (g : Le G G') (kp : ∀ b o, H b = some o → b ∉ fp H v a → KpO o (H' b))
    (out' : OutRel A.w G' H' (fun b => H b = none ∨ b ∈ fp H v a) a out) {b : Addr} (h : Rt H' (r.set i out) σ b) : Rt H r σ b ∨ H b = none := by
  obtain ⟨j, w, c, h1, h2, h3⟩ := h
  rcases k.other1 hi hσ g kp out' h1 with ⟨e1, e2⟩ | ⟨f1, f2, c1, g1, _, t1, m1⟩
  · subst e1; subst e2
    rw [hσ] at h2; cases h2
    rcases (out'.2 b h3).2 with z | z
    · exact .inr z
    · exact .inl ⟨j, v, a, hi, hσ, z⟩
  · rw [g1] at h2; cases h2
    rw [t1] at h3
    exact .inl ⟨j, w, _, f2, g1, h3⟩
/-- the state behind a call -/
theorem call_state {hs : List Hd} {as : List (Bool × Val)} {xs : List V} {out : Option (Bool × Val)} (k : Ok A G H σ r) (hl : lend r hs = some as) (h1 : lents as ≤ 1) (hr : HReps A G H σ r hs xs) (p : Post A.w G H as xs out G' H') :
    Ok A G' H' σ (back r (lentIx r hs) out) ∧ Step σ r G H (back r (lentIx r hs) out) G' H' ∧ ∀ b, H b = none ∨ Lent H as xs b → (H b = none ∨ Rt H r σ b) ∧ (¬ Rt H' (back r (lentIx r hs) out) σ b ∨ ∃ v a, out = some (true, v) ∧ (∃ (q : Nat) (u : Val), as[q]? = some (true, u) ∧ xs[q]? = some (.ref a)) ∧ b ∈ fp H' v a) := by
  by_cases z : lents as = 0
  · have nl : ∀ a, ¬ Lent H as xs a := fun a ⟨q, v, _, h, _⟩ => lents_zero z h
    rw [lend_none hl z]
    have kp : ∀ a o, H a = some o → KpO o (H' a) := fun a o h => p.kp a o h (nl a)
    have gr : ∀ a, G a = none → G' a ≠ none → H a = none := fun a h h' => (p.gr a h h').resolve_right (nl a)
    refine ⟨k.post0 p.g p.s gr kp p.tk p.nt, ⟨p.g, fun a o h _ => kp a o h, fun a h h' => .inl (gr a h h'), fun a h => .inl ((k.rtK (fun b o _ => kp b o) a).mp h)⟩, fun b hb => ?_⟩
    have hb := hb.resolve_right (nl b)
    exact ⟨.inl hb, .inl fun z => k.notRt hb ((k.rtK (fun b o _ => kp b o) b).mp z)⟩
  · -- one is lent
    have ⟨q, v, hq⟩ : ∃ (q : Nat) (v : Val), as[q]? = some (true, v) := by
      have : ∀ {as : List (Bool × Val)}, lents as ≠ 0 → ∃ (q : Nat) (v : Val), as[q]? = some (true, v) := by
        intro as
        induction as with
        | nil => intro h; exact absurd rfl h
        | cons t as ih =>
          intro h
          obtain ⟨b, w⟩ := t
          cases b with
          | true => exact ⟨0, w, rfl⟩
          | false =>
            obtain ⟨q, v, e⟩ := ih (by simpa [lents] using h)
            exact ⟨q + 1, v, by simpa using e⟩
      exact this z
    have lx : ∃ x, xs[q]? = some x := by
      have : ∀ {as : List (Bool × Val)} {xs : List V} {q : Nat} {t : Bool × Val}, ARel A.w G H as xs → as[q]? = some t → ∃ x, xs[q]? = some x := by
        intro as
        induction as with
        | nil => intro xs q t _ h; simp at h
        | cons u as ih =>
          intro xs q t h e
          obtain ⟨b, w⟩ := u
          cases b with
          | true =>
            obtain ⟨a, ys, e1, _, _, rest⟩ := h
            subst e1
            cases q with
            | zero => exact ⟨_, rfl⟩
            | succ q => obtain ⟨x, hx⟩ := ih rest (q := q) (by simpa using e); exact ⟨x, by simpa using hx⟩
          | false =>
            obtain ⟨a, ys, e1, _, rest⟩ := h
            subst e1
            cases q with
            | zero => exact ⟨_, rfl⟩
            | succ q => obtain ⟨x, hx⟩ := ih rest (q := q) (by simpa using e); exact ⟨x, by simpa using hx⟩
      exact this (lend_rel k hl hr) hq
    obtain ⟨x, hx⟩ := lx
    obtain ⟨i, e1, e2, e3⟩ := lend_at hl h1 hr hq hx
    obtain ⟨a, e4, ro, n⟩ := k.ow i v e2
    rw [e3] at e4
    cases e4
    have only : ∀ b, Lent H as xs b → b ∈ fp H v a := fun b ⟨q', v', c, h, h', h''⟩ => by
      obtain ⟨i', f1, f2, f3⟩ := lend_at hl h1 hr h h'
      rw [e1] at f1; cases f1
      rw [e2] at f2; cases f2
      rw [e3] at f3; cases f3; exact h''
    rw [e1]
    have gr : ∀ b, G b = none → G' b ≠ none → H b = none ∨ b ∈ fp H v a := fun b h h' => (p.gr b h h').imp id (only b)
    have kp : ∀ b o, H b = some o → b ∉ fp H v a → KpO o (H' b) := fun b o h ne => p.kp b o h fun z => ne (only b z)
    have out' : OutRel A.w G' H' (fun b => H b = none ∨ b ∈ fp H v a) a out := by
      have := p.out q v a hq hx
      rcases out with _ | ⟨_ | _, w⟩
      · exact this
      · exact this
      · exact ⟨this.1, fun b hb => ⟨(this.2 b hb).1, (this.2 b hb).2.imp id (only b)⟩⟩
    refine ⟨k.post1 e2 e3 p.g p.s gr kp p.tk p.nt out', ⟨p.g, fun b o h nb => kp b o h fun z => ?_, fun b h h' => (gr b h h').imp id fun z => ?_, fun b h => rt_set k e2 e3 p.g kp out' h⟩, fun b hb => ?_⟩
    · exact nb ⟨i, v, a, e2, e3, z⟩
    · exact ⟨i, v, a, e2, e3, z⟩
    · refine ⟨hb.imp id fun z => ⟨i, v, a, e2, e3, only b z⟩, ?_⟩
      by_cases y : Rt H' (r.set i out) σ b
      · right
        obtain ⟨j, w, c, y1, y2, y3⟩ := y
        rcases k.other1 e2 e3 p.g kp out' y1 with ⟨d1, d2⟩ | ⟨f1, f2, c1, g1, _, t1, m1⟩
        · subst d1
          rw [e3] at y2; cases y2
          exact ⟨w, a, d2, ⟨q, v, hq, hx⟩, y3⟩
        · rw [g1] at y2; cases y2
          rw [t1] at y3
          obtain ⟨n1, _, _, u, hu, _⟩ := m1 b y3
          rcases hb with hb | hb
          · rw [hu] at hb; cases hb
          · exact absurd (only b hb) n1
      · exact .inl y
/-- what the caller has then -/
theorem call_res {A : Act} {G0 H0 G H G' H' : Hp} {σ : L2.St} {r0 r : Env} {hs : List Hd} {as : List (Bool × Val)} {xs : List V} {out : Option (Bool × Val)} {o : Bool} {z : Val} {u : V} (k1 : Ok A G H σ r) (st1 : Step σ r0 G0 H0 r G H) (hl : lend r hs = some as) (h1 : lents as ≤ 1) (t1 : HReps A G H σ r hs xs)
    (p : Post A.w G H as xs out G' H') (nr : CRep A.w G H as xs G' H' o z u) (ds : Dis H' as xs out o z u) : Res A σ r0 G0 H0 (back r (lentIx r hs) out) G' H' o z u := by
  obtain ⟨k2, st2, nw⟩ := call_state k1 hl h1 t1 p
  refine ⟨k2, st1.trans st2, ?_, fun eo a ea b hb => ?_⟩
  · cases o with
    | true =>
      obtain ⟨a, e, ro, n⟩ := nr
      refine ⟨a, e, ro, fun b hb => ⟨(n b hb).1, ?_, ?_⟩⟩
      case refine_2 =>
        rcases (nw b (n b hb).2).1 with z | z
        · exact k1.fresh z
        · exact (k1.rt z).2.2
      rcases (nw b (n b hb).2).2 with z | ⟨v', c, z1, ⟨q, w', z2, z3⟩, z4⟩
      · exact z
      · exact absurd z4 (ds rfl a e b hb q w' v' c z2 z3 z1)
    | false => exact nr
  · subst eo
    obtain ⟨c, e, _, n⟩ := nr
    rw [ea] at e; cases e
    rcases (nw b (n b hb).2).1 with z | z
    · exact st1.fresh z
    · exact (st1.rts b z).symm
theorem call_of {n : Nat} {g : GF} {f : OsF} {Q : VK} (h : tE A W (callG n g f) σ H Q) : tOs A W f σ H fun vs H1 => spF A.w n g vs H1 Q (fun cls d H2 => W cls d σ H2) := by
  obtain ⟨r, G, k, m⟩ := h
  refine ⟨r, G, k, ?_⟩
  unfold callG at m
  cases hf : f r with
  | bad => rw [hf] at m; exact m.elim
  | ex e r' => rw [hf] at m; exact m
  | ok hs r1 =>
    simp only [hf] at m
    intro xs G1 H1 k1 st1 t1
    cases hl : lend r1 hs with
    | none => simp only [hl] at m
    | some as =>
      simp only [hl] at m
      by_cases hc : lents as ≤ 1 ∧ as.length = n
      · simp only [if_pos hc] at m
        have ar := lend_rel k1 hl t1
        have len : ∀ {as : List (Bool × Val)} {xs : List V}, ARel A.w G1 H1 as xs → xs.length = as.length := by
          intro as
          induction as with
          | nil => intro xs h; have h' : xs = [] := h; subst h'; rfl
          | cons t as ih =>
            intro xs h
            obtain ⟨b, w⟩ := t
            cases b with
            | true => obtain ⟨a, ys, e1, _, _, rest⟩ := h; subst e1; simp [ih rest]
            | false => obtain ⟨a, ys, e1, _, rest⟩ := h; subst e1; simp [ih rest]
        refine ⟨G1, as, by rw [len ar, hc.2], k1.subT, ar, hc.1, ?_⟩
        cases hg : g as with
        | bad => simp only [hg] at m
        | ok o z out =>
          simp only [hg] at m ⊢
          exact fun u G' H' p nr ds => m u G' H' (call_res k1 st1 hl hc.1 t1 p nr ds)
        | ex e out =>
          simp only [hg] at m ⊢
          cases e with
          | exc c fs =>
            intro G' H' C d p hC hd
            obtain ⟨k2, st2, _⟩ := call_state k1 hl hc.1 t1 p
            exact m G' H' C d k2 (st1.trans st2).ex hC hd
          | _ => exact m
      · simp only [if_neg hc] at m
end
end M
namespace M
open PySem L2

structure RoomG (k : Nat) (A : Around) : Prop where
  room : Room k A
  gs : A.guards = some []
theorem RoomG.le {j k : Nat} {A : Around} (r : RoomG k A) (h : j ≤ k) : RoomG j A := ⟨r.room.mono h, r.gs⟩
theorem RoomG.deep {k : Nat} {A : Around} (r : RoomG (k + 1) A) (env : PySem.Env) : RoomG k (A.deeper env) := ⟨r.room.deeper env, r.gs⟩
/-- the def at f keeps the promise sp -/
structure FnG (P : Program) (w : World) (K : PySem.W.Frag) (mg : Str → Option Value) (base : Heap) (CX : CXT) (k : Nat) (f : Addr) (fd : FuncData) (ps : List Str) (sp : Sp) : Prop where
  len : ∀ vs H Q E, sp vs H Q E → vs.length = ps.length
  go : ∀ (A : Around) (outer : List PySem.Env) (s : Shared) (H : Hp) (args : Args) (us : List Value) (vs : List V) (Q : VK) (E : XK),
    RoomG k A → Env0 P w K mg base A outer s H → BindsTo s fd args (ps.zip us) → Vals vs us → sp vs H Q E → codeAny (model P w) A (.call (.ref f) args) (CR CX outer P w H s Q E) s
section
variable {P : Program} {w : World} {K : PySem.W.Frag} {mg : Str → Option Value} {base : Heap} {CX : CXT} {k : Nat}
theorem FnG.up {j : Nat} {f : Addr} {fd : FuncData} {ps : List Str} {sp : Sp} (F : FnG P w K mg base CX j f fd ps sp) (h : j ≤ k) : FnG P w K mg base CX k f fd ps sp :=
  ⟨F.len, fun A o s H args us vs Q E hr => F.go A o s H args us vs Q E (hr.le h)⟩
theorem FnG.weak {f : Addr} {fd : FuncData} {ps : List Str} {sp sp' : Sp} (F : FnG P w K mg base CX k f fd ps sp) (h : ∀ vs H Q E, sp' vs H Q E → sp vs H Q E) : FnG P w K mg base CX k f fd ps sp' :=
  ⟨fun vs H Q E q => F.len vs H Q E (h _ _ _ _ q), fun A o s H args us vs Q E hr e b r q => F.go A o s H args us vs Q E hr e b r (h _ _ _ _ q)⟩
/-- from the body -/
theorem fnG_of {f : Addr} {name qual : Str} {params : Arguments} {body : List Stmt} {scope : Scope} {dV kV doc pm cdv ct oc : Value} {an od : Option Addr} {osl : Array (Option Value)} {N ps : List Str} {sp : Sp}
    (lk : K.lookup f = some ⟨oc, od, .func (PySem.W.fnOf name qual params body scope dV kV doc pm an cdv ct), osl⟩) (hcd : PySem.W.codeIn K cdv qual = true) (S : FnScope N ps scope) (len : ∀ vs H Q E, sp vs H Q E → vs.length = ps.length)
    (hb : ∀ (A : Around) (outer : List PySem.Env) (s : Shared) (H : Hp) (vs : List V) (Q : VK) (E : XK), RoomG k (A.deeper (PyProof.Rows.envOfC qual scope s.heap.objs.size f cdv)) → sp vs H Q E →
      ∃ t, PSs (cxOf CX P w K mg base N qual scope f cdv A outer s H E) body t ∧ t { nx := fun _ H' => Q .non H', rt := Q } (L2.start N vs) H) :
    FnG P w K mg base CX (k + 1) f (PySem.W.fnOf name qual params body scope dV kV doc pm an cdv ct) ps sp := by
  constructor
  case len => exact len
  case go =>
    intro A outer s H args us vs Q E hr e0 hbind rv hsp
    have inK : K.In s.heap := e0.mod.kin.keeps fun b o e => (e0.bs b o e).1
    have obj := inK _ _ lk
    obtain ⟨t, ht, q0⟩ := hb A outer s H vs Q E (hr.deep _) hsp
    apply codeAny_call_function hr.room.depth obj rfl S.co S.gen rfl (PySem.W.codeRec_of inK hcd)
    apply hbind
    apply wpAny_newFunctionEnv_cells S.kind
    · rintro ⟨n, v⟩ hy
      rcases S.par n (List.of_mem_zip hy).1 with z | z
      · left; exact z
      · right; exact ⟨z, PySem.W.cellsFrom_some _ _ _ (.inl z)⟩
    · intro env he s1 x
      subst he
      constructor
      · exact (e0.mod.nolimit.keeps fun b o e => (e0.bs b o e).1).keeps x.toInCall.keep
      · apply codeAny_func
        have I0 := inv_start (CX := CX) (P := P) (w := w) (K := K) (mg := mg) (base := base) (E := E) S hr.room.hd e0 (len _ _ _ _ hsp) rv x
        apply wpAny_mono (ht.run [] s1 (L2.start N vs) H _ I0 q0)
        · intro fl s' z
          cases fl with
          | next => obtain ⟨σ', H', J, y⟩ := z; exact ⟨.non, H', J.os, J.bare, J.base, J.hok, rfl, y⟩
          | ret u => obtain ⟨v, σ', H', J, r', y⟩ := z; exact ⟨v, H', J.os, J.bare, J.base, J.hok, r', y⟩
          | brk => obtain ⟨_, _, _, y⟩ := z; exact y.elim
          | cont => obtain ⟨_, _, _, y⟩ := z; exact y.elim
        · intro e s' z; exact z
end
section
variable {X : Cx} {CX : CXT} {k : Nat} {f : Addr} {fd : FuncData} {ps : List Str} {sp : Sp} {pins : List (Addr × Obj)} {σ : L2.St} {H : Hp} {s : Shared} {Q : VK} {E : XK}
/-- what is left behind a callee's run -/
theorem ran (I : Inv X pins σ H s) (hx : ∀ e s', CX X.stack H s E e s' → X.xe e s') {args : Args} (h : codeAny (model X.prog X.w) X.A (.call (.ref f) args) (CR CX X.stack X.prog X.w H s Q E) s) :
    wpAny (model X.prog X.w) X.A (call (.ref f) args.pos args.kw) (EP X pins σ Q) X.xe s := by
  apply wpAny_call
  apply codeAny_mono h
  intro r s' z
  match r, z with
  | .error e, z => exact hx e s' z
  | .ok (.ret u), z => exact I.after z
  | .ok .next, z => exact z.elim
  | .ok .brk, z => exact z.elim
  | .ok .cont, z => exact z.elim
theorem run_G (F : FnG X.prog X.w X.K X.mg X.base CX k f fd ps sp) (hr : RoomG k X.A) (hx : ∀ e s', CX X.stack H s E e s' → X.xe e s') (I : Inv X pins σ H s) {args : Args} {us : List Value} {vs : List V} (hb : BindsTo s fd args (ps.zip us)) (r : Vals vs us)
    (h : sp vs H Q E) : wpAny (model X.prog X.w) X.A (call (.ref f) args.pos args.kw) (EP X pins σ Q) X.xe s := ran I hx (F.go X.A X.stack s H args us vs Q E hr I.env0 hb r h)
end
end M
namespace M
open PySem L2

def ownIx : List (Bool × Val) → Option Nat
  | [] => none
  | (true, _) :: _ => some 0
  | (false, _) :: as => (ownIx as).map (· + 1)
def outOf (as : List (Bool × Val)) (r : Env) : Option (Option (Bool × Val)) := match ownIx as with
  | none => some none
  | some i => match r[i]? with
    | some (some t) => some (some t)
    | _ => none
def runDef (ios : List Nat) (np N : Nat) (body : SF) : GF := fun as =>
  if as.length = np ∧ (∀ i ∈ ownIx as, i ∈ ios) then
    match body (as.map some ++ List.replicate (N - np) none) with
    | .nx r => match outOf as r with
      | some out => .ok false .non out
      | none => .bad
    | .rt o v r => match outOf as r with
      | some out => if o = true ∧ out.map (·.1) = some false then .bad else .ok o v out
      | none => .bad
    | .ex e r => match outOf as r with
      | some out => .ex e out
      | none => .bad
    | _ => .bad
  else .bad
theorem ownIx_none : ∀ {as : List (Bool × Val)}, ownIx as = none → ∀ {p : Nat} {v : Val}, as[p]? ≠ some (true, v)
  | [], _, p, v => by simp
  | (true, w) :: as, h, _, _ => by simp [ownIx] at h
  | (false, w) :: as, h, p, v => by
    have h' : ownIx as = none := by simpa [ownIx] using h
    cases p with
    | zero => simp
    | succ p => simpa using ownIx_none h' (p := p) (v := v)
theorem ownIx_some : ∀ {as : List (Bool × Val)} {i : Nat}, ownIx as = some i → ∃ v, as[i]? = some (true, v)
  | [], i, h => by simp [ownIx] at h
  | (true, w) :: as, i, h => by simp [ownIx] at h; subst h; exact ⟨w, rfl⟩
  | (false, w) :: as, i, h => by
    simp only [ownIx, Option.map_eq_some_iff] at h
    obtain ⟨j, h, e⟩ := h
    subst e
    obtain ⟨v, e⟩ := ownIx_some h
    exact ⟨v, by simpa using e⟩
theorem own_one : ∀ {as : List (Bool × Val)} {p q : Nat} {v w : Val}, lents as ≤ 1 → as[p]? = some (true, v) → as[q]? = some (true, w) → p = q
  | [], _, _, _, _, _, h, _ => by simp at h
  | (true, u) :: as, p, q, v, w, h, h1, h2 => by
    have z : lents as = 0 := by
      have e : lents ((true, u) :: as) = lents as + 1 := by simp [lents]
      omega
    cases p with
    | zero =>
      cases q with
      | zero => rfl
      | succ q => exact absurd (by simpa using h2) (lents_zero z (p := q) (v := w))
    | succ p => exact absurd (by simpa using h1) (lents_zero z (p := p) (v := v))
  | (false, u) :: as, p, q, v, w, h, h1, h2 => by
    cases p with
    | zero => simp at h1
    | succ p =>
      cases q with
      | zero => simp at h2
      | succ q =>
        have := own_one (as := as) (p := p) (q := q) (by simpa [lents] using h) (by simpa using h1) (by simpa using h2)
        omega
theorem arel_get {w : Wd} {G H : Hp} : ∀ {as : List (Bool × Val)} {xs : List V} {p : Nat} {o : Bool} {v : Val}, ARel w G H as xs → as[p]? = some (o, v) → ∃ x, xs[p]? = some x ∧ match o with
    | true => ∃ a, x = .ref a ∧ Root w G H v a ∧ ∀ b ∈ fp H v a, G b = none
    | false => Rep w G v x
  | [], _, _, _, _, _, h => by simp at h
  | (true, u) :: as, _, p, o, v, ⟨a, ys, e, r, n, t⟩, h => by
    subst e
    cases p with
    | zero => simp at h; obtain ⟨h1, h2⟩ := h; subst h1; subst h2; exact ⟨_, rfl, a, rfl, r, n⟩
    | succ p => obtain ⟨x, e, q⟩ := arel_get t (p := p) (by simpa using h); exact ⟨x, by simpa using e, q⟩
  | (false, u) :: as, _, p, o, v, ⟨a, ys, e, r, t⟩, h => by
    subst e
    cases p with
    | zero => simp at h; obtain ⟨h1, h2⟩ := h; subst h1; subst h2; exact ⟨_, rfl, r⟩
    | succ p => obtain ⟨x, e, q⟩ := arel_get t (p := p) (by simpa using h); exact ⟨x, by simpa using e, q⟩
theorem arel_length {w : Wd} {G H : Hp} : ∀ {as : List (Bool × Val)} {xs : List V}, ARel w G H as xs → xs.length = as.length
  | [], _, h => by have h' : _ = [] := h; subst h'; rfl
  | (true, u) :: as, _, ⟨a, ys, e, _, _, t⟩ => by subst e; simp [arel_length t]
  | (false, u) :: as, _, ⟨a, ys, e, _, t⟩ => by subst e; simp [arel_length t]
/-- the act of a call -/
def actOf (w : Wd) (G H : Hp) (as : List (Bool × Val)) (vs : List V) : Act := ⟨w, G, H, Lent H as vs, (ownIx as).toList, fun i => vs[i]?⟩
theorem start_get {N : List Str} {vs : List V} {i : Nat} {x : V} (h : vs[i]? = some x) : (L2.start N vs)[i]? = some (some x) := by
  unfold L2.start
  have hl : i < vs.length := (List.getElem?_eq_some_iff.mp h).1
  rw [List.getElem?_append_left (by simpa using hl), List.getElem?_map, h]; rfl
theorem env0_get {as : List (Bool × Val)} {k i : Nat} {t : Bool × Val} (h : (as.map some ++ List.replicate k (none : Slot))[i]? = some (some t)) : as[i]? = some t := by
  by_cases hl : i < as.length
  · rw [List.getElem?_append_left (by simpa using hl), List.getElem?_map] at h
    cases e : as[i]? with
    | none => rw [e] at h; cases h
    | some u => rw [e] at h; cases h; rfl
  · rw [List.getElem?_append_right (by simpa using hl), List.getElem?_replicate] at h
    split at h <;> cases h
theorem act_ok {w : Wd} {G H : Hp} {as : List (Bool × Val)} {vs : List V} {N : List Str} (g : LeT w G H) (ar : ARel w G H as vs) (l1 : lents as ≤ 1) (hl : vs.length ≤ N.length) : Ok (actOf w G H as vs) G H (L2.start N vs) (as.map some ++ List.replicate (N.length - as.length) none) where
  ex0 := Le.refl _
  gr0 := fun a h => .inl h
  fr0 := fun a o h _ => KpO.of h
  tk := g.2.1
  nt := g.2.2
  sub := g.1
  len := by
    have := arel_length ar
    unfold L2.start
    simp
    omega
  fz := fun i v h => by
    obtain ⟨x, e, q⟩ := arel_get ar (env0_get h)
    exact ⟨x, start_get e, q⟩
  ow := fun i v h => by
    have h' := env0_get h
    obtain ⟨x, e, a, e2, q, n⟩ := arel_get ar h'
    subst e2
    exact ⟨a, start_get e, q, fun b hb => ⟨n b hb, .inl ⟨i, v, a, h', e, hb⟩⟩⟩
  sep := fun i j v w a b c h1 h2 _ _ _ _ => own_one l1 (env0_get h1) (env0_get h2)
  fx := fun i hi => by
    have hi' : ownIx as = some i := by simpa [actOf] using hi
    obtain ⟨v, e⟩ := ownIx_some hi'
    obtain ⟨x, e1, _⟩ := arel_get ar e
    show (L2.start N vs)[i]? = some vs[i]?
    rw [e1]; exact start_get e1
theorem act_post {w : Wd} {G H G' H' : Hp} {as : List (Bool × Val)} {vs : List V} {σ : L2.St} {r : Env} {out : Option (Bool × Val)} (ar : ARel w G H as vs) (l1 : lents as ≤ 1) (k : Ok (actOf w G H as vs) G' H' σ r) (ho : outOf as r = some out) : Post w G H as vs out G' H' where
  g := k.ex0
  s := k.sub
  gr := fun a h h' => (k.gr0 a h').elim (fun z => absurd h z) id
  kp := k.fr0
  tk := k.tk
  nt := k.nt
  out := fun i v a h1 h2 => by
    have hi : ownIx as = some i := by
      cases e : ownIx as with
      | none => exact absurd h1 (ownIx_none e)
      | some j =>
        obtain ⟨w', e'⟩ := ownIx_some e
        rw [own_one l1 e' h1]
    have fx : σ[i]? = some vs[i]? := k.fx i (by simp [actOf, hi])
    rw [h2] at fx
    unfold outOf at ho
    rw [hi] at ho
    simp only at ho
    split at ho
    · rename_i t q
      cases ho
      obtain ⟨b, u⟩ := t
      cases b with
      | true =>
        obtain ⟨c, e, ro, n⟩ := k.ow i u q
        rw [fx] at e; cases e
        exact ⟨ro, fun b hb => ⟨(n b hb).1, (n b hb).2.symm⟩⟩
      | false =>
        obtain ⟨x, e, rp⟩ := k.fz i u q
        rw [fx] at e; cases e
        exact rp
    · cases ho

/-- what a body's rule says, whatever it runs over -/
structure SV (X : Cx) (w : Wd) (ios : List Nat) (sts : List Stmt) (f : SF) : Prop where
  run : ∀ (A : Act) (W : WX), A.w = w → (∀ i ∈ A.io, i ∈ ios) → Takes X W → PSs X sts (tSt A W f)
/-- what a def's promise says behind its run -/
def spPost (w : Wd) (G H : Hp) (as : List (Bool × Val)) (vs : List V) (Q : VK) (E : XK) : GR → Prop
  | .ok o z out => ∀ u G' H', Post w G H as vs out G' H' → CRep w G H as vs G' H' o z u → Dis H' as vs out o z u → Q u H'
  | .ex e out => match e with
    | .exc c fs => ∀ G' H' C d, Post w G H as vs out G' H' → w.CM c = some C → XdOk w G' H' d fs → E (.ref C) d H'
    | _ => False
  | .bad => False
/-- what a def's promise says of its body -/
theorem body_fin {wd : Wd} {ios : List Nat} {body : SF} {N : List Str} {np : Nat} {G H : Hp} {as : List (Bool × Val)} {vs : List V} {Q : VK} {E : XK} (ar : ARel wd G H as vs) (l1 : lents as ≤ 1) (hm : spPost wd G H as vs Q E (runDef ios np N.length body as)) :
    as.length = np ∧ (∀ i ∈ ownIx as, i ∈ ios) ∧ Fin (actOf wd G H as vs) (fun cls d _ H => E cls d H) G { nx := fun _ H' => Q .non H', rt := Q } (body (as.map some ++ List.replicate (N.length - as.length) none)) := by
  unfold runDef at hm
  by_cases hc : as.length = np ∧ (∀ i ∈ ownIx as, i ∈ ios)
  case neg => rw [if_neg hc] at hm; exact hm.elim
  rw [if_pos hc] at hm
  refine ⟨hc.1, hc.2, ?_⟩
  rw [← hc.1] at hm
  generalize body (as.map some ++ List.replicate (N.length - as.length) none) = res at hm ⊢
  cases res with
  | bad => exact hm.elim
  | bk r => exact hm.elim
  | ct r => exact hm.elim
  | nx r =>
    intro σ' G' H' k' _
    cases ho : outOf as r with
    | none => simp only [ho, spPost] at hm
    | some out =>
      simp only [ho, spPost] at hm
      exact hm .non G' H' (act_post ar l1 k' ho) (show Rep wd G' .non .non from rep_non.mpr rfl) Dis.f
  | rt o v r =>
    intro u σ' G' H' k' _ tr
    cases ho : outOf as r with
    | none => simp only [ho, spPost] at hm
    | some out =>
      simp only [ho, spPost] at hm
      by_cases hx : o = true ∧ out.map (·.1) = some false
      case pos => simp only [if_pos hx, spPost] at hm
      simp only [if_neg hx, spPost] at hm
      have lf : ∀ (q : Nat) (v' : Val) (a : Addr), as[q]? = some (true, v') → vs[q]? = some (.ref a) → (∃ u', out = some (true, u') ∧ r[q]? = some (some (true, u')) ∧ σ'[q]? = some (some (.ref a))) ∨ out.map (·.1) = some false := fun q v' a h1 h2 => by
        have hi : ownIx as = some q := by
          cases e : ownIx as with
          | none => exact absurd h1 (ownIx_none e)
          | some j =>
            obtain ⟨w', e'⟩ := ownIx_some e
            rw [own_one l1 e' h1]
        have fx : σ'[q]? = some vs[q]? := k'.fx q (by simp [actOf, hi])
        rw [h2] at fx
        unfold outOf at ho
        rw [hi] at ho
        simp only at ho
        split at ho
        · rename_i t q'
          cases ho
          obtain ⟨c, u'⟩ := t
          cases c with
          | true => exact .inl ⟨u', rfl, q', fx⟩
          | false => exact .inr rfl
        · cases ho
      cases o with
      | false => exact hm u G' H' (act_post ar l1 k' ho) tr Dis.f
      | true =>
        obtain ⟨b, e, ro, n⟩ := tr
        refine hm u G' H' (act_post ar l1 k' ho) ⟨b, e, ro, fun c hc => ⟨(n c hc).1, ?_⟩⟩ fun _ c ec d hd q v' w' a h1 h2 h3 z => ?_
        · exact (n c hc).2.2.symm
        · rw [e] at ec; cases ec
          rcases lf q v' a h1 h2 with ⟨u', e1, e2, e3⟩ | e1
          · rw [h3] at e1; cases e1
            exact (n d hd).2.1 ⟨q, _, a, e2, e3, z⟩
          · rw [h3] at e1; cases e1
  | ex e r =>
    intro σ'
    cases ho : outOf as r with
    | none => simp only [ho, spPost] at hm
    | some out =>
      simp only [ho, spPost] at hm
      cases e with
      | exc c fs => exact fun G' H' C d k' _ hC hd => hm G' H' C d (act_post ar l1 k' ho) hC hd
      | _ => exact hm
/-- a body, from what its slots are at the start -/
theorem body_ok {X : Cx} {wd : Wd} {ios : List Nat} {sts : List Stmt} {body : SF} {N : List Str} {np : Nat} {G H : Hp} {as : List (Bool × Val)} {vs : List V} {Q : VK} {E : XK} (sv : SV X wd ios sts body) (tk : Takes X (fun cls d _ H => E cls d H))
    (hN : np ≤ N.length) (hlen : vs.length = np) (hle : LeT wd G H) (ar : ARel wd G H as vs) (l1 : lents as ≤ 1) (hm : spPost wd G H as vs Q E (runDef ios np N.length body as)) :
    ∃ t, PSs X sts t ∧ t { nx := fun _ H' => Q .non H', rt := Q } (L2.start N vs) H := by
  obtain ⟨h1, h2, h3⟩ := body_fin (N := N) ar l1 hm
  exact ⟨_, sv.run (actOf wd G H as vs) (fun cls d _ H => E cls d H) rfl (fun i hi => h2 i (by simpa [actOf] using hi)) tk, _, G, act_ok (N := N) hle ar l1 (by omega), h3⟩
section
variable {P : Program} {w : World} {K : PySem.W.Frag} {mg : Str → Option Value} {base : Heap}
theorem def_ok {x qual : Str} {st : Stmt} {f : Addr} {fd : FuncData} {N ps : List Str} {k : Nat} {wd : Wd} {ios : List Nat} {body : SF} {g : GF} (F : Fun K x qual st f fd) (S : FnScope N ps (defScope st))
    (hb : ∀ (cdv : Value) (A : Around) (outer : List PySem.Env) (s : Shared) (H : Hp) (E : XK), RoomG k (A.deeper (PyProof.Rows.envOfC qual (defScope st) s.heap.objs.size f cdv)) →
      SV (cxOf (L2.CX P w) P w K mg base N qual (defScope st) f cdv A outer s H E) wd ios (defBody st) body)
    (hg : ∀ as, g as = .bad ∨ g as = runDef ios ps.length N.length body as) : FnG P w K mg base (L2.CX P w) (k + 1) f fd ps (spF wd ps.length g) := by
  obtain ⟨oc, od, kV, doc, pm, an, cdv, ct, osl, rfl, lk, hcd⟩ := F.ex
  refine fnG_of lk hcd S (fun vs H Q E ⟨G, as, h, _⟩ => h) fun A outer s H vs Q E hr ⟨G, as, hlen, hle, ar, l1, hm⟩ => ?_
  have h1 : g as = runDef ios ps.length N.length body as := (hg as).resolve_left fun z => by rw [z] at hm; exact hm
  rw [h1] at hm
  have hN : ps.length ≤ N.length := by
    have := congrArg List.length S.pre
    rw [List.length_take] at this; omega
  refine body_ok (hb cdv A outer s H E hr) (takes_of rfl rfl rfl rfl) hN hlen hle ar l1 ?_
  revert hm
  cases runDef ios ps.length N.length body as <;> exact id
end
end M
namespace M
open PySem L2

def seq (f g : SF) : SF := fun r => match f r with
  | .nx r' => g r'
  | x => x
def skip : SF := fun r => .nx r
def brk : SF := fun r => .bk r
def cont : SF := fun r => .ct r
/-- never run -/
def never : SF := fun _ => .bad
def asg (i : Nat) (f : EF) : SF := fun r => match f r with
  | .ok o v r' => .nx (r'.set i (some (o, v)))
  | .ex e r' => .ex e r'
  | .bad => .bad
def drop (f : EF) : SF := fun r => match f r with
  | .ok _ _ r' => .nx r'
  | .ex e r' => .ex e r'
  | .bad => .bad
def ret (f : EF) : SF := fun r => match f r with
  | .ok o v r' => .rt o v r'
  | .ex e r' => .ex e r'
  | .bad => .bad
def ifS (c : BF) (f g : SF) : SF := fun r => match c r with
  | .ok true r' => f r'
  | .ok false r' => g r'
  | .ex e r' => .ex e r'
  | .bad => .bad
def whl (c : BF) (b : SF) : Nat → SF
  | 0 => fun _ => .bad
  | n + 1 => fun r => match c r with
    | .ok true r1 => match b r1 with
      | .nx r2 => whl c b n r2
      | .ct r2 => whl c b n r2
      | .bk r2 => .nx r2
      | x => x
    | .ok false r1 => .nx r1
    | .ex e r1 => .ex e r1
    | .bad => .bad
/-- x op= e, ints -/
def aug (i : Nat) (P : Int → Int → Int) (f : EF) : SF := fun r => match r[i]? with
  | some (some (false, .int a)) => match f r with
    | .ok _ v r' => match v with
      | .int b => .nx (r'.set i (some (false, .int (P a b))))
      | _ => .bad
    | .ex e r' => .ex e r'
    | .bad => .bad
  | _ => .bad

section
variable {X : Cx} {A : Act} {W : WX} {e : Expr} {f g : SF} {fe : EF} {c : BF} {st : Stmt} {sts rest : List Stmt} {pos : Pos} {D : Ends} {σ : L2.St} {H : Hp}
theorem tSt_iff : tSt A W f D σ H ↔ ∃ r G, Ok A G H σ r ∧ Fin A W G D (f r) := Iff.rfl
theorem tSt_mk {r : Env} {G : Hp} (k : Ok A G H σ r) (m : Fin A W G D (f r)) : tSt A W f D σ H := tSt_iff.mpr ⟨r, G, k, m⟩
theorem seq_of (h : tSt A W (seq f g) D σ H) : tSeq (tSt A W f) (tSt A W g) D σ H := by
  obtain ⟨r, G, k, m⟩ := tSt_iff.mp h
  refine tSt_mk (D := { D with nx := tSt A W g D }) k ?_
  unfold seq at m
  cases hf : f r with
  | nx r' => rw [hf] at m; exact fun σ' G' H' k' l => tSt_mk k' (m.mono l)
  | _ => rw [hf] at m; exact m
theorem pss_nil' : PSs X [] (tSt A W skip) := PSs.imp pss_nil fun D σ H ⟨r, G, k, m⟩ => m σ G H k (Le.refl _)
theorem pss_cons' (h1 : PS X st (tSt A W f)) (h2 : PSs X rest (tSt A W g)) : PSs X (st :: rest) (tSt A W (seq f g)) := PSs.imp (pss_cons h1 h2) fun _ _ _ h => seq_of h
theorem pss_one' (h1 : PS X st (tSt A W f)) : PSs X [st] (tSt A W f) := pss_one h1
theorem ps_drop' (he : PE X e (tE A W fe)) (hs : swapsWith e none pos.line X.env = pure false := by rfl) : PS X (.Expr e pos) (tSt A W (drop fe)) :=
  PS.imp (ps_expr he hs) fun D σ H ⟨r, G, k, m⟩ => ⟨r, G, k, by
    unfold drop at m
    cases hf : fe r with
    | bad => rw [hf] at m; exact m.elim
    | ex e r' => simp only [hf] at m ⊢; exact m σ
    | ok o v r' => simp only [hf] at m ⊢; exact fun x G' H' R => m σ G' H' R.ok R.st.ex⟩
theorem ps_ret' (he : PE X e (tE A W fe)) : PS X (.Return (some e) pos) (tSt A W (ret fe)) :=
  PS.imp (ps_ret he) fun D σ H ⟨r, G, k, m⟩ => ⟨r, G, k, by
    unfold ret at m
    cases hf : fe r with
    | bad => rw [hf] at m; exact m.elim
    | ex e r' => simp only [hf] at m ⊢; exact m σ
    | ok o v r' => simp only [hf] at m ⊢; exact fun x G' H' R => m x σ G' H' R.ok R.st.ex R.tr⟩
/-- the value goes to slot i -/
theorem Ok.store {G : Hp} {r : Env} {o : Bool} {v : Val} {x : V} {i : Nat} (k : Ok A G H σ r) (t : TRep A G H σ r o v x) (hi : i ∉ A.io) : Ok A G H (σ.set i (some x)) (r.set i (some (o, v))) := by
  have σ_at : ∀ {j : Nat} {s : Option V}, (σ.set i (some x))[j]? = some s → (j = i ∧ s = some x) ∨ (j ≠ i ∧ σ[j]? = some s) := fun {j s} h => by
    by_cases q : i = j
    · subst q
      by_cases l : i < σ.length
      · rw [List.getElem?_set_self l] at h; cases h; exact .inl ⟨rfl, rfl⟩
      · rw [List.getElem?_eq_none (by simpa using l)] at h; cases h
    · rw [List.getElem?_set_ne q] at h
      exact .inr ⟨fun z => q z.symm, h⟩
  have there : ∀ {j : Nat}, j ≠ i → (σ.set i (some x))[j]? = σ[j]? := fun {j} h => List.getElem?_set_ne (Ne.symm h)
  have here : ∀ {t : Bool × Val}, (r.set i (some (o, v)))[i]? = some (some t) → (σ.set i (some x))[i]? = some (some x) := fun {t} h => by
    refine List.getElem?_set_self ?_
    have := (List.getElem?_eq_some_iff.mp h).1
    rw [List.length_set] at this
    rw [k.len]; exact this
  refine ⟨k.ex0, k.gr0, k.fr0, k.tk, k.nt, k.sub, by rw [List.length_set, List.length_set]; exact k.len, fun j w h => ?_, fun j w h => ?_, fun p q v' w' b b2 c h1 h2 h3 h4 h5 h6 => ?_, fun j hj => ?_⟩
  · rcases set_some h rfl with ⟨e1, e2⟩ | ⟨e1, e2⟩
    · subst e1; cases e2; exact ⟨x, here h, t⟩
    · obtain ⟨y, e, q⟩ := k.fz j w e2; exact ⟨y, by rw [there e1]; exact e, q⟩
  · rcases set_some h rfl with ⟨e1, e2⟩ | ⟨e1, e2⟩
    · subst e1; cases e2
      obtain ⟨a, e, ro, n⟩ := t
      subst e
      exact ⟨a, here h, ro, fun b hb => ⟨(n b hb).1, (n b hb).2.2⟩⟩
    · obtain ⟨b, e, q, nb⟩ := k.ow j w e2; exact ⟨b, by rw [there e1]; exact e, q, nb⟩
  · have nr : ∀ {j : Nat} {w : Val} {b d c : Addr}, j ≠ i → r[j]? = some (some (true, w)) → σ[j]? = some (some (.ref b)) → o = true → x = .ref d → c ∈ fp H v d → c ∈ fp H w b → False := fun {j w b d c} hj h h' eo ex z1 z2 => by
      subst eo; subst ex
      obtain ⟨a, e, _, n⟩ := t
      cases e
      exact (n c z1).2.1 ⟨j, w, b, h, h', z2⟩
    rcases set_some h1 rfl with ⟨e1, e2⟩ | ⟨e1, e2⟩
    · cases e2
      rcases set_some h2 rfl with ⟨e3, e4⟩ | ⟨e3, e4⟩
      · rw [e1, e3]
      · exfalso
        rw [there e3] at h4
        subst e1
        rw [here h1] at h3
        cases h3
        exact nr e3 e4 h4 rfl rfl h5 h6
    · rcases set_some h2 rfl with ⟨e3, e4⟩ | ⟨e3, e4⟩
      · exfalso
        cases e4
        rw [there e1] at h3
        subst e3
        rw [here h2] at h4
        cases h4
        exact nr e1 e2 h3 rfl rfl h6 h5
      · rw [there e1] at h3; rw [there e3] at h4
        exact k.sep p q v' w' b b2 c e2 e4 h3 h4 h5 h6
  · have : j ≠ i := fun z => hi (z ▸ hj)
    rw [there this]; exact k.fx j hj
theorem ps_asg' {i : Nat} {x : Str} {pos' : Pos} (hN : X.N.Nodup) (hi : X.N[i]? = some x) (hx : Loc X.env.scope x) (he : PE X e (tE A W fe)) (hio : i ∉ A.io) (hs : swapsWith e (some (.Name x pos')) pos.line X.env = pure false := by rfl)
    (hf : X.fn x = true ∨ X.env.scope.names.lookup x = some .local := by first | exact .inl rfl | exact .inr rfl | assumption) : PS X (.Assign [.Name x pos'] e pos) (tSt A W (asg i fe)) :=
  PS.imp (ps_set hN hi hx he hs hf) fun D σ H ⟨r, G, k, m⟩ => ⟨r, G, k, by
    unfold asg at m
    cases hf : fe r with
    | bad => rw [hf] at m; exact m.elim
    | ex e r' => simp only [hf] at m ⊢; exact m σ
    | ok o v r' => simp only [hf] at m ⊢; exact fun x G' H' R => m _ G' H' (R.ok.store R.tr hio) R.st.ex⟩
theorem ps_if' {t : Expr} {a b : List Stmt} (hc : PT X t (tBo A W c)) (ha : PSs X a (tSt A W f)) (hb : PSs X b (tSt A W g)) : PS X (.If t a b pos) (tSt A W (ifS c f g)) :=
  PS.imp (ps_if hc ha hb) fun D σ H h => by
    obtain ⟨r, G, k, m⟩ := tSt_iff.mp h
    refine ⟨r, G, k, ?_⟩
    unfold ifS at m
    rcases hf : c r with ⟨_ | _, r1⟩ | _ | _
    · simp only [hf] at m ⊢
      intro G1 H1 k1 st1
      simp only [Bool.false_eq_true, if_false]
      exact tSt_mk k1 (m.mono st1.ex)
    · simp only [hf] at m ⊢
      intro G1 H1 k1 st1
      simp only [if_true]
      exact tSt_mk k1 (m.mono st1.ex)
    · simp only [hf] at m ⊢; exact m σ
    · simp only [hf] at m; exact m.elim
theorem ps_whl' {t : Expr} {body : List Stmt} (hp : PassesOwn (model X.prog X.w) X.A X.env X.xe) (hc : PT X t (tBo A W c)) (hb : PSs X body (tSt A W f)) (n : Nat) : PS X (.While t body [] pos) (tSt A W (whl c f n)) := by
  refine PS.imp (ps_while hp hc hb) fun D σ H h => ⟨fun m σ H => tSt A W (whl c f m) D σ H, ⟨n, h⟩, fun m σ H h => ?_⟩
  obtain ⟨r, G, k, q⟩ := tSt_iff.mp h
  refine ⟨r, G, k, ?_⟩
  cases m with
  | zero => exact q.elim
  | succ m =>
    rw [whl] at q
    rcases hf : c r with ⟨_ | _, r1⟩ | _ | _
    · simp only [hf] at q ⊢
      intro G1 H1 k1 st1
      simp only [Bool.false_eq_true, if_false]
      exact q _ _ _ k1 st1.ex
    · simp only [hf] at q ⊢
      intro G1 H1 k1 st1
      simp only [if_true]
      refine ⟨tSt A W (whl c f m) D, fun σ' H' h' => ⟨m, Nat.lt_succ_self m, h'⟩, ?_⟩
      refine tSt_mk k1 (Fin.mono st1.ex ?_)
      cases hg : f r1 with
      | nx r2 => simp only [hg] at q; exact fun σ' G' H' k' l => tSt_mk k' (q.mono l)
      | ct r2 => simp only [hg] at q; exact fun σ' G' H' k' l => tSt_mk k' (q.mono l)
      | bk r2 => simp only [hg] at q; exact q
      | rt o v r2 => simp only [hg] at q; exact q
      | ex e r2 => simp only [hg] at q; exact q
      | bad => simp only [hg] at q; exact q
    · simp only [hf] at q ⊢; exact q σ
    · simp only [hf] at q; exact q.elim
end
end M
namespace M
open PySem L2

inductive IR where
  | ok (vs : List Val) (r : Env) | ex (e : Val) (r : Env) | bad
abbrev IF := Env → IR
/-- the walk J yields the items, whatever happens to what is owned -/
structure ItOk (w : Wd) (J : It) (G0 : Hp) (vs : List Val) : Prop where
  go : ∀ G H i, Le G0 G → Le G H → i < vs.length → J.go i H
  stop : ∀ G H i, Le G0 G → Le G H → vs.length ≤ i → J.stop i H
  yld : ∀ G H i v x H', Le G0 G → Le G H → vs[i]? = some v → J.yld i H x H' → ∃ G', Grow G H G' H' ∧ Rep w G' v x
def tIt (A : Act) (W : WX) (f : IF) : TI := fun σ H R => ∃ r G, Ok A G H σ r ∧ match f r with
  | .ok vs r' => ∀ J G' H', Ok A G' H' σ r' → Step σ r G H r' G' H' → ItOk A.w J G' vs → R J H'
  | .ex e r' => ExP A W G σ e r'
  | .bad => False
theorem PI.imp {X : Cx} {tg e : Expr} {t t' : TI} (h : PI X tg e t) (hi : ∀ σ H R, t' σ H R → t σ H R) : PI X tg e t' := ⟨fun pins s σ H R I q => h.run pins s σ H R I (hi _ _ _ q)⟩

abbrev TF := Val → Env → Option Env
/-- the target's slots -/
def tTg (A : Act) (sl : List Nat) (t : TF) : TG := fun x σ H Q => ∃ r G v, Ok A G H σ r ∧ Rep A.w G v x ∧ match t v r with
  | some r' => ∀ σ', Ok A G H σ' r' → (∀ j, j ∉ sl → σ'[j]? = σ[j]?) → σ'.length = σ.length → Q σ' H
  | none => False
def tTgs (A : Act) (sl : List Nat) (t : List Val → Env → Option Env) : TGs := fun xs σ H Q => ∃ r G vs, Ok A G H σ r ∧ Reps A.w G vs xs ∧ match t vs r with
  | some r' => ∀ σ', Ok A G H σ' r' → (∀ j, j ∉ sl → σ'[j]? = σ[j]?) → σ'.length = σ.length → Q σ' H
  | none => False
def tgN (i : Nat) : TF := fun v r => some (r.set i (some (false, v)))
def tgNil : List Val → Env → Option Env := fun vs r => match vs with
  | [] => some r
  | _ => none
def tgCons (t : TF) (u : List Val → Env → Option Env) : List Val → Env → Option Env := fun vs r => match vs with
  | v :: vs => match t v r with
    | some r1 => u vs r1
    | none => none
  | [] => none
def tgT (u : List Val → Env → Option Env) : TF := fun v r => match v with
  | .tup vs => u vs r
  | _ => none
section
variable {X : Cx} {A : Act} {pos : Pos}
theorem PG.imp {e : Expr} {t t' : TG} (h : PG X e t) (hi : ∀ v σ H Q, t' v σ H Q → t v σ H Q) : PG X e t' := ⟨fun pins s σ H v u Q I r q => h.run pins s σ H v u Q I r (hi _ _ _ _ q)⟩
theorem PGs.imp {e : List Expr} {t t' : TGs} (h : PGs X e t) (hi : ∀ v σ H Q, t' v σ H Q → t v σ H Q) : PGs X e t' := ⟨fun pins s σ H v u Q I r q => h.run pins s σ H v u Q I r (hi _ _ _ _ q)⟩
theorem pg_N {i : Nat} {x : Str} (hN : X.N.Nodup) (hi : X.N[i]? = some x) (hx : Loc X.env.scope x) (hio : i ∉ A.io) (hf : X.fn x = true ∨ X.env.scope.names.lookup x = some .local := by first | exact .inl rfl | exact .inr rfl | assumption) : PG X (.Name x pos) (tTg A [i] (tgN i)) :=
  PG.imp (pg_name hN hi hx hf) fun x σ H Q ⟨r, G, v, k, rp, m⟩ => by
    refine m _ (k.store (o := false) rp hio) (fun j hj => ?_) (by simp)
    exact List.getElem?_set_ne (fun z => hj (by simp [z]))
theorem pgs_Nil : PGs X [] (tTgs A [] tgNil) := PGs.imp pgs_nil fun xs σ H Q ⟨r, G, vs, k, rp, m⟩ => by
  cases vs with
  | nil => exact ⟨reps_nil.mp rp, m σ k (fun _ _ => rfl) rfl⟩
  | cons v vs => exact m.elim
theorem pgs_Cons {e : Expr} {es : List Expr} {sl sl' : List Nat} {t : TF} {u : List Val → Env → Option Env} (h1 : PG X e (tTg A sl t)) (h2 : PGs X es (tTgs A sl' u))
    (hs : (assignEach (e :: es) X.env).map (·.2) = assign e X.env :: (assignEach es X.env).map (·.2) := by rfl) : PGs X (e :: es) (tTgs A (sl ++ sl') (tgCons t u)) :=
  PGs.imp (pgs_cons h1 h2 hs) fun xs σ H Q ⟨r, G, vs, k, rp, m⟩ => by
    cases vs with
    | nil => exact m.elim
    | cons v vs =>
      obtain ⟨y, ys, e, r1, r2⟩ := reps_cons.mp rp
      refine ⟨y, ys, e, r, G, v, k, r1, ?_⟩
      simp only [tgCons] at m
      cases ht : t v r with
      | none => simp only [ht] at m
      | some r' =>
        simp only [ht] at m ⊢
        intro σ1 k1 hj1 hl1
        refine ⟨r', G, vs, k1, r2, ?_⟩
        cases hu : u vs r' with
        | none => simp only [hu] at m
        | some r'' =>
          simp only [hu] at m ⊢
          intro σ2 k2 hj2 hl2
          refine m σ2 k2 (fun j hj => ?_) (hl2.trans hl1)
          rw [List.mem_append, not_or] at hj
          rw [hj2 j hj.2, hj1 j hj.1]
theorem pg_T {es : List Expr} {k0 : Nat} {sl : List Nat} {u : List Val → Env → Option Env} {n : Nat} (hc : X.calm = true) (hw : A.w.K = X.K) (h : PGs X es (tTgs A sl u)) (hl : ∀ vs r r', u vs r = some r' → vs.length = n)
    (hn : (assignEach es X.env).length = n := by rfl) (hst : (assignEach es X.env).findIdx? (·.1) = none := by rfl) : PG X (.Tuple es k0 pos) (tTg A sl (tgT u)) :=
  PG.imp (pg_tup hc h hn hst) fun x σ H Q ⟨r, G, v, k, rp, m⟩ => by
    cases v with
    | tup vs =>
      obtain ⟨a, xs, e, q, rs⟩ := rep_tup.mp rp
      cases hu : u vs r with
      | none => simp only [tgT, hu] at m
      | some r' =>
        refine ⟨a, xs, e, ?_, by rw [← reps_length rs]; exact hl vs r r' hu, r, G, vs, k, rs, ?_⟩
        · rw [← hw]; exact sqt_mono k.sub q
        · simp only [tgT, hu] at m ⊢
          exact m
    | _ => exact m.elim
end

def forL (t : TF) (b : SF) : List Val → SF
  | [] => fun r => .nx r
  | v :: vs => fun r => match t v r with
    | some r1 => match b r1 with
      | .nx r2 => forL t b vs r2
      | .ct r2 => forL t b vs r2
      | .bk r2 => .nx r2
      | x => x
    | none => .bad
def forS (fi : IF) (t : TF) (b : SF) : SF := fun r => match fi r with
  | .ok vs r1 => forL t b vs r1
  | .ex e r1 => .ex e r1
  | .bad => .bad
section
variable {X : Cx} {A : Act} {W : WX} {tg it : Expr} {body : List Stmt} {pos : Pos} {fi : IF} {t : TF} {sl : List Nat} {f : SF}
theorem ps_for' (hp : PassesOwn (model X.prog X.w) X.A X.env X.xe) (hc : X.calm = true) (hi : PI X tg it (tIt A W fi)) (hg : PG X tg (tTg A sl t)) (hb : PSs X body (tSt A W f))
    (hs : ∀ x, foldedSetIterable it X.env x = pure x := by intro _; rfl) : PS X (.For tg it body [] pos) (tSt A W (forS fi t f)) := by
  refine PS.imp (ps_for hp hc hi hg hb hs) fun D σ H h => ?_
  obtain ⟨r, G, k, m⟩ := tSt_iff.mp h
  refine ⟨r, G, k, ?_⟩
  unfold forS at m
  cases hf : fi r with
  | bad => rw [hf] at m; exact m.elim
  | ex e r' => rw [hf] at m; exact m σ
  | ok vs r1 =>
    simp only [hf] at m ⊢
    intro J G1 H1 k1 st1 io
    refine ⟨fun i n σ' H' => ∃ r' G', i ≤ vs.length ∧ n = vs.length - i ∧ Le G1 G' ∧ Ok A G' H' σ' r' ∧ Fin A W G1 D (forL t f (vs.drop i) r'), ⟨vs.length, r1, G1, Nat.zero_le _, rfl, Le.refl _, k1, by simpa using m.mono st1.ex⟩, ?_⟩
    rintro i n σ' H' ⟨r', G', hi', hn, le, k', m'⟩
    by_cases hlt : i < vs.length
    · refine .inr ⟨io.go G' H' i le k'.sub hlt, fun σ2 H2 => ∃ r2 G2, Le G1 G2 ∧ Ok A G2 H2 σ2 r2 ∧ Fin A W G1 D (forL t f (vs.drop (i + 1)) r2), fun σ2 H2 ⟨r2, G2, q1, q2, q3⟩ => ⟨vs.length - (i + 1), by omega, r2, G2, hlt, rfl, q1, q2, q3⟩, fun x H2 hy => ?_⟩
      have ev : vs[i]? = some vs[i] := by simp [hlt]
      obtain ⟨G2, gr, rp⟩ := io.yld G' H' i vs[i] x H2 le k'.sub ev hy
      refine ⟨r', G2, vs[i], k'.grow gr, rp, ?_⟩
      rw [List.drop_eq_getElem_cons hlt, forL] at m'
      cases ht : t vs[i] r' with
      | none => simp only [ht] at m'; exact m'.elim
      | some r2 =>
        simp only [ht] at m' ⊢
        intro σ2 k2 _ _
        refine tSt_mk k2 ?_
        have l12 : Le G1 G2 := le.trans gr.g
        cases hb' : f r2 with
        | bad => simp only [hb'] at m'; exact m'.elim
        | ex e r3 => simp only [hb'] at m'; exact m'.mono l12
        | rt o v r3 => simp only [hb'] at m'; exact m'.mono l12
        | bk r3 => simp only [hb'] at m'; exact m'.mono l12
        | nx r3 =>
          simp only [hb'] at m'
          exact fun σ3 G3 H3 k3 l3 => ⟨r3, G3, l12.trans l3, k3, m'⟩
        | ct r3 =>
          simp only [hb'] at m'
          exact fun σ3 G3 H3 k3 l3 => ⟨r3, G3, l12.trans l3, k3, m'⟩
    · have e : i = vs.length := by omega
      subst e
      rw [List.drop_length] at m'
      exact .inl ⟨io.stop G' H' _ le k'.sub (Nat.le_refl _), m' σ' G' H' k' le⟩
end
end M
namespace M
open PySem L2

def wipeR (r : Env) : List Nat → Env
  | [] => r
  | v :: vs => (wipeR r vs).set v none
def restR (r0 r : Env) : List Nat → Env
  | [] => r
  | v :: vs => (restR r0 r vs).set v ((r0[v]?).getD none)
def yesB : BF := fun r => .ok true r
def lcL (t : TF) (c : BF) (f : EF) (sl : List Nat) : List Val → List Val → Env → AR
  | [], acc, r => .ok acc r
  | v :: vs, acc, r => match t v r with
    | some r1 => match c r1 with
      | .ok true r2 => match frz f r2 with
        | .ok _ y r3 => if acc.length < 100000 then lcL t c f sl vs (acc ++ [y]) (wipeR r3 sl) else .bad
        | _ => .bad
      | .ok false r2 => lcL t c f sl vs acc (wipeR r2 sl)
      | _ => .bad
    | none => .bad
def lc (fi : IF) (t : TF) (c : BF) (f : EF) (sl : List Nat) : EF := fun r => match fi r with
  | .ok vs r1 => match lcL t c f sl vs [] (wipeR r1 sl) with
    | .ok ys r2 => .ok true (.lst ys) (restR r1 r2 sl)
    | _ => .bad
  | .ex e r1 => .ex e r1
  | .bad => .bad

theorem wipeR_length (r : Env) : ∀ sl : List Nat, (wipeR r sl).length = r.length
  | [] => rfl
  | v :: vs => by simp [wipeR, wipeR_length r vs]
theorem restR_length (r0 r : Env) : ∀ sl : List Nat, (restR r0 r sl).length = r.length
  | [] => rfl
  | v :: vs => by simp [restR, restR_length r0 r vs]
theorem wipeR_out (r : Env) {j : Nat} : ∀ {sl : List Nat}, j ∉ sl → (wipeR r sl)[j]? = r[j]?
  | [], _ => rfl
  | v :: vs, h => by
    simp only [List.mem_cons, not_or] at h
    rw [wipeR, List.getElem?_set_ne (Ne.symm h.1)]; exact wipeR_out r h.2
theorem wipeR_in (r : Env) {j : Nat} {t : Bool × Val} : ∀ {sl : List Nat}, j ∈ sl → (wipeR r sl)[j]? ≠ some (some t)
  | [], h => by simp at h
  | v :: vs, h => by
    rw [wipeR]
    intro e
    rcases set_some e rfl with ⟨e1, e2⟩ | ⟨e1, e2⟩
    · cases e2
    · exact wipeR_in r ((List.mem_cons.mp h).resolve_left e1) e2
theorem wipeR_some {r : Env} {j : Nat} {t : Bool × Val} {sl : List Nat} (h : (wipeR r sl)[j]? = some (some t)) : j ∉ sl ∧ r[j]? = some (some t) := by
  by_cases q : j ∈ sl
  · exact absurd h (wipeR_in r q)
  · rw [wipeR_out r q] at h; exact ⟨q, h⟩
theorem restR_out (r0 r : Env) {j : Nat} : ∀ {sl : List Nat}, j ∉ sl → (restR r0 r sl)[j]? = r[j]?
  | [], _ => rfl
  | v :: vs, h => by
    simp only [List.mem_cons, not_or] at h
    rw [restR, List.getElem?_set_ne (Ne.symm h.1)]; exact restR_out r0 r h.2
theorem restR_in (r0 r : Env) {j : Nat} {t : Bool × Val} : ∀ {sl : List Nat}, j ∈ sl → (restR r0 r sl)[j]? = some (some t) → r0[j]? = some (some t)
  | [], h, _ => by simp at h
  | v :: vs, h, e => by
    rw [restR] at e
    rcases set_some e rfl with ⟨e1, e2⟩ | ⟨e1, e2⟩
    · subst e1
      cases q : r0[j]? with
      | none => rw [q] at e2; cases e2
      | some s => rw [q] at e2; rw [← e2]; rfl
    · exact restR_in r0 r ((List.mem_cons.mp h).resolve_left e1) e2
theorem wipe_eq {σ σ2 : L2.St} {sl sl' : List Nat} (hs : ∀ j ∈ sl', j ∈ sl) (h : ∀ j, j ∉ sl' → σ2[j]? = (wipe σ sl)[j]?) (hl : σ2.length = (wipe σ sl).length) : wipe σ2 sl = wipe σ sl := by
  have at_in : ∀ (τ : L2.St) {j : Nat} {sl : List Nat}, j ∈ sl → j < τ.length → (wipe τ sl)[j]? = some none := by
    intro τ j sl
    induction sl with
    | nil => intro h; simp at h
    | cons v vs ih =>
      intro h hj
      rw [wipe]
      by_cases e : v = j
      · subst e; rw [List.getElem?_set_self]; rw [wipe_length]; exact hj
      · rw [List.getElem?_set_ne e]
        exact ih ((List.mem_cons.mp h).resolve_left fun z => e z.symm) hj
  apply List.ext_getElem?
  intro j
  by_cases q : j ∈ sl
  · by_cases l : j < σ.length
    · rw [at_in σ q l, at_in σ2 q (by rw [hl, wipe_length]; exact l)]
    · rw [List.getElem?_eq_none (by rw [wipe_length, hl, wipe_length]; omega), List.getElem?_eq_none (by rw [wipe_length]; omega)]
  · rw [wipe_out q, h j fun z => q (hs j z)]

/-- a target stores frozen values in its slots alone -/
def TOk (sl : List Nat) (t : TF) : Prop := ∀ v r r', t v r = some r' → (∀ j, j ∉ sl → r'[j]? = r[j]?) ∧ ∀ j ∈ sl, ∀ u, r'[j]? ≠ some (some (true, u))
def TsOk (sl : List Nat) (t : List Val → Env → Option Env) : Prop := ∀ v r r', (∀ j ∈ sl, True) → t v r = some r' → (∀ j, j ∉ sl → r'[j]? = r[j]?) ∧ ∀ j ∈ sl, ∀ u, r'[j]? ≠ some (some (true, u))
theorem tok_N (i : Nat) : TOk [i] (tgN i) := fun v r r' h => by
  cases h
  refine ⟨fun j hj => List.getElem?_set_ne fun z => hj (by simp [z]), fun j hj u e => ?_⟩
  have : j = i := by simpa using hj
  subst this
  rcases set_some e rfl with ⟨_, e2⟩ | ⟨e1, _⟩
  · cases e2
  · exact e1 rfl
theorem tsok_nil : TsOk [] tgNil := fun v r r' _ h => by
  cases v with
  | nil => cases h; exact ⟨fun _ _ => rfl, fun j hj => by simp at hj⟩
  | cons _ _ => cases h
theorem tsok_cons {sl sl' : List Nat} {t : TF} {u : List Val → Env → Option Env} (h1 : TOk sl t) (h2 : TsOk sl' u) : TsOk (sl ++ sl') (tgCons t u) := fun v r r' _ h => by
  cases v with
  | nil => cases h
  | cons v vs =>
    simp only [tgCons] at h
    cases ht : t v r with
    | none => simp only [ht] at h; cases h
    | some r1 =>
      simp only [ht] at h
      obtain ⟨a1, b1⟩ := h1 v r r1 ht
      obtain ⟨a2, b2⟩ := h2 vs r1 r' (fun _ _ => trivial) h
      refine ⟨fun j hj => ?_, fun j hj w e => ?_⟩
      · rw [List.mem_append, not_or] at hj
        rw [a2 j hj.2, a1 j hj.1]
      · by_cases q : j ∈ sl'
        · exact b2 j q w e
        · rw [a2 j q] at e
          exact b1 j ((List.mem_append.mp hj).resolve_right q) w e
theorem tok_T {sl : List Nat} {u : List Val → Env → Option Env} (h : TsOk sl u) : TOk sl (tgT u) := fun v r r' e => by
  cases v with
  | tup vs => exact h vs r r' (fun _ _ => trivial) e
  | _ => cases e

section
variable {A : Act} {W : WX} {G H G' H' G1 H1 : Hp} {σ : L2.St} {r r1 r' : Env} {sl : List Nat}
theorem Ok.wipe (k : Ok A G H σ r) (hio : ∀ i ∈ A.io, i ∉ sl) : Ok A G H (wipe σ sl) (wipeR r sl) := by
  refine ⟨k.ex0, k.gr0, k.fr0, k.tk, k.nt, k.sub, by rw [wipe_length, wipeR_length]; exact k.len, fun i v h => ?_, fun i v h => ?_, fun i j v w a b c h1 h2 h3 h4 h5 h6 => ?_, fun i hi => by rw [wipe_out (hio i hi)]; exact k.fx i hi⟩
  · obtain ⟨n, h⟩ := wipeR_some h
    obtain ⟨x, e, q⟩ := k.fz i v h
    exact ⟨x, by rw [wipe_out n]; exact e, q⟩
  · obtain ⟨n, h⟩ := wipeR_some h
    obtain ⟨x, e, q⟩ := k.ow i v h
    exact ⟨x, by rw [wipe_out n]; exact e, q⟩
  · obtain ⟨n1, h1⟩ := wipeR_some h1
    obtain ⟨n2, h2⟩ := wipeR_some h2
    rw [wipe_out n1] at h3; rw [wipe_out n2] at h4
    exact k.sep i j v w a b c h1 h2 h3 h4 h5 h6
theorem rt_wipe {a : Addr} (h : Rt H (wipeR r sl) (wipe σ sl) a) : Rt H r σ a := by
  obtain ⟨i, v, b, h1, h2, h3⟩ := h
  obtain ⟨n, h1⟩ := wipeR_some h1
  exact ⟨i, v, b, h1, by rw [wipe_out n] at h2; exact h2, h3⟩
/-- the slots that a block hides stay -/
theorem Ok.inK (k : Ok A G H σ r) (st : Step (L2.wipe σ sl) (wipeR r sl) G H r' G' H') : ∀ {j : Nat} {v : Val}, j ∈ sl → r[j]? = some (some (true, v)) → ∃ a, σ[j]? = some (some (.ref a)) ∧ Root A.w G' H' v a ∧ fp H' v a = fp H v a ∧ ∀ b ∈ fp H v a, G' b = none ∧ (A.L b ∨ A.H0 b = none) ∧ ∃ o, H b = some o := by
  have nrt : ∀ {j : Nat} {a b : Addr} {v : Val}, j ∈ sl → r[j]? = some (some (true, v)) → σ[j]? = some (some (.ref b)) → a ∈ fp H v b → ¬ Rt H (wipeR r sl) (L2.wipe σ sl) a := fun {j a b v} hj h1 h2 h5 ⟨i, w, c, h3, h4, h6⟩ => by
    obtain ⟨n3, h3⟩ := wipeR_some h3
    rw [wipe_out n3] at h4
    exact n3 (k.sep j i v w b c a h1 h3 h2 h4 h5 h6 ▸ hj)
  intro j v hj h
  obtain ⟨a, e, ro, n⟩ := k.ow j v h
  have q := ro.monoK' (H' := H') st.ex fun b hb o ho => st.keep b o ho (nrt hj h e hb)
  refine ⟨a, e, q.1, q.2, fun b hb => ?_⟩
  obtain ⟨u, hu, _⟩ := ro.con' b hb
  refine ⟨?_, (n b hb).2, u, hu⟩
  cases z : G' b with
  | none => rfl
  | some o =>
    rcases st.grow b (n b hb).1 (by rw [z]; simp) with y | y
    · rw [hu] at y; cases y
    · exact absurd y (nrt hj h e hb)
theorem Ok.unwipeD (k : Ok A G H σ r) (st : Step (L2.wipe σ sl) (wipeR r sl) G H r' G' H') {D : Addr} (hD : H D = none) (n : ¬ Rt H' r' (L2.wipe σ sl) D) : ¬ Rt H' (restR r r' sl) σ D := fun ⟨i, v, b, h1, h2, h3⟩ => by
  by_cases q : i ∈ sl
  · obtain ⟨c, e2, _, q2, m⟩ := k.inK st q (restR_in r r' q h1)
    rw [h2] at e2; cases e2
    rw [q2] at h3
    obtain ⟨o, ho⟩ := (m D h3).2.2
    rw [hD] at ho; cases ho
  · rw [restR_out r r' q] at h1
    exact n ⟨i, v, b, h1, by rw [wipe_out q]; exact h2, h3⟩
/-- back from a block: the slots of its own names are as they were -/
theorem Ok.unwipe (k : Ok A G H σ r) (k' : Ok A G' H' (L2.wipe σ sl) r') (st : Step (L2.wipe σ sl) (wipeR r sl) G H r' G' H') : Ok A G' H' σ (restR r r' sl) ∧ Step σ r G H (restR r r' sl) G' H' := by
  have out : ∀ {j : Nat} {a b : Addr} {w : Val}, j ∉ sl → r'[j]? = some (some (true, w)) → σ[j]? = some (some (.ref b)) → a ∈ fp H' w b → (∃ (i : Nat) (v : Val) (c : Addr), i ∉ sl ∧ r[i]? = some (some (true, v)) ∧ σ[i]? = some (some (.ref c)) ∧ a ∈ fp H v c) ∨ H a = none := fun {j a b w} n h1 h2 h2' => by
    rcases st.rts a ⟨j, w, b, h1, by rw [wipe_out n]; exact h2, h2'⟩ with ⟨i, v, c, h3, h4, h5⟩ | z
    · obtain ⟨n3, h3⟩ := wipeR_some h3
      exact .inl ⟨i, v, c, n3, h3, by rw [wipe_out n3] at h4; exact h4, h5⟩
    · exact .inr z
  have inK := @Ok.inK A G H G' H' σ r r' sl k st
  refine ⟨⟨k'.ex0, k'.gr0, k'.fr0, k'.tk, k'.nt, k'.sub, by rw [restR_length, ← k'.len, wipe_length], fun i v h => ?_, fun i v h => ?_, fun i j v w a b c h1 h2 h3 h4 h5 h6 => ?_, k.fx⟩,
    st.ex, fun a o h n => st.keep a o h fun z => n (rt_wipe z), fun a h h' => (st.grow a h h').imp id rt_wipe, fun a ⟨i, v, b, h1, h2, h3⟩ => ?_⟩
  · by_cases q : i ∈ sl
    · obtain ⟨x, e, rp⟩ := k.fz i v (restR_in r r' q h)
      exact ⟨x, e, rp.mono st.ex⟩
    · rw [restR_out r r' q] at h
      obtain ⟨x, e, rp⟩ := k'.fz i v h
      exact ⟨x, by rw [wipe_out q] at e; exact e, rp⟩
  · by_cases q : i ∈ sl
    · obtain ⟨a, e, ro, q2, n⟩ := inK q (restR_in r r' q h)
      refine ⟨a, e, ro, fun b hb => ?_⟩
      rw [q2] at hb
      exact ⟨(n b hb).1, (n b hb).2.1⟩
    · rw [restR_out r r' q] at h
      obtain ⟨a, e, ro, n⟩ := k'.ow i v h
      exact ⟨a, by rw [wipe_out q] at e; exact e, ro, n⟩
  · have old : ∀ {i : Nat} {v : Val} {a : Addr}, i ∈ sl → (restR r r' sl)[i]? = some (some (true, v)) → σ[i]? = some (some (.ref a)) → c ∈ fp H' v a → r[i]? = some (some (true, v)) ∧ c ∈ fp H v a ∧ ∃ o, H c = some o := fun {i v a} q h e hc => by
      obtain ⟨b, e2, _, q2, n⟩ := inK q (restR_in r r' q h)
      rw [e] at e2; cases e2
      rw [q2] at hc
      exact ⟨restR_in r r' q h, hc, (n c hc).2.2⟩
    by_cases q1 : i ∈ sl
    · obtain ⟨h1', h5', o, ho⟩ := old q1 h1 h3 h5
      by_cases q2 : j ∈ sl
      · obtain ⟨h2', h6', _⟩ := old q2 h2 h4 h6
        exact k.sep i j v w a b c h1' h2' h3 h4 h5' h6'
      · rw [restR_out r r' q2] at h2
        rcases out q2 h2 h4 h6 with ⟨m, u, d, n, g1, g2, g3⟩ | z
        · exact absurd (k.sep i m v u a d c h1' g1 h3 g2 h5' g3 ▸ q1) n
        · rw [ho] at z; cases z
    · rw [restR_out r r' q1] at h1
      by_cases q2 : j ∈ sl
      · obtain ⟨h2', h6', o, ho⟩ := old q2 h2 h4 h6
        rcases out q1 h1 h3 h5 with ⟨m, u, d, n, g1, g2, g3⟩ | z
        · exact absurd (k.sep j m w u b d c h2' g1 h4 g2 h6' g3 ▸ q2) n
        · rw [ho] at z; cases z
      · rw [restR_out r r' q2] at h2
        exact k'.sep i j v w a b c h1 h2 (by rw [wipe_out q1]; exact h3) (by rw [wipe_out q2]; exact h4) h5 h6
  · by_cases q : i ∈ sl
    · obtain ⟨c, e2, _, q2, n⟩ := inK q (restR_in r r' q h1)
      rw [h2] at e2; cases e2
      rw [q2] at h3
      exact .inl ⟨i, v, b, restR_in r r' q h1, h2, h3⟩
    · rw [restR_out r r' q] at h1
      rcases out q h1 h2 h3 with ⟨m, u, d, n, g1, g2, g3⟩ | z
      · exact .inl ⟨m, u, d, g1, g2, g3⟩
      · exact .inr z
/-- a container that no slot owns is changed -/
theorem Ok.tmpK {a : Addr} {o : HO} (nr : ¬ Rt H r σ a) : ∀ b u, Rt H r σ b → H b = some u → KpO u (upd H a o b) := fun b u h e => KpO.of (by
  have ne : b ≠ a := fun z => nr (by rw [← z]; exact h)
  rw [upd_ne ne]; exact e)
theorem Ok.tmp {a : Addr} {o : HO} (k : Ok A G H σ r) (n : G a = none) (hc : H a = none ∨ ∃ u, H a = some u ∧ Con u) (nr : ¬ Rt H r σ a) (l : A.L a ∨ A.H0 a = none) (ho : ∀ ps, o ≠ .tbl ps := by intro _ z; cases z) : Ok A G (upd H a o) σ r where
  ex0 := k.ex0
  gr0 := k.gr0
  fr0 := fun b u h nl => by
    by_cases e : b = a
    · subst e
      rcases l with l | l
      · exact absurd l nl
      · rw [l] at h; cases h
    · rw [upd_ne e]; exact k.fr0 b u h nl
  tk := tabs_upd k.tk hc ho
  nt := k.nt
  sub := k.sub.updR n
  len := k.len
  fz := k.fz
  ow := fun i v h => by
    obtain ⟨b, e, q, q2, nb⟩ := k.owK (H' := upd H a o) (Le.refl _) h (Ok.tmpK nr)
    refine ⟨b, e, q, fun c hc => ?_⟩
    rw [q2] at hc
    exact ⟨(nb c hc).1, (nb c hc).2.1⟩
  sep := k.sepK (Ok.tmpK nr)
  fx := k.fx
theorem Ok.tmpR {a : Addr} {o : HO} (k : Ok A G H σ r) (nr : ¬ Rt H r σ a) (b : Addr) : Rt (upd H a o) r σ b ↔ Rt H r σ b := k.rtK (Ok.tmpK nr) b
end

theorem lc_of {A : Act} {W : WX} {fi : IF} {t : TF} {c : BF} {f : EF} {sl st' : List Nat} {σ : L2.St} {H : Hp} {Q : VK} (tok : TOk st' t) (hs : ∀ j ∈ st', j ∈ sl) (hio : ∀ i ∈ A.io, i ∉ sl) (h : tE A W (lc fi t c f sl) σ H Q) :
    tLc (tIt A W fi) (tTg A st' t) (tBo A (fun _ _ _ _ => False) c) (tE A (fun _ _ _ _ => False) (frz f)) sl σ H Q := by
  obtain ⟨r, G, k, m⟩ := h
  refine ⟨r, G, k, ?_⟩
  unfold lc at m
  cases hf : fi r with
  | bad => rw [hf] at m; exact m.elim
  | ex e r' => rw [hf] at m; exact m
  | ok vs r1 =>
    simp only [hf] at m ⊢
    intro J G1 H1 k1 st1 io D hD
    have gr0 := Grow.laidH (o := .lst []) k1.sub hD
    have kw := (k1.wipe (sl := sl) hio).grow gr0
    let Fl : AR → Prop := fun a => match a with
      | .ok ys r2 => ∀ x G' H', Res A σ r G H (restR r1 r2 sl) G' H' true (.lst ys) x → Q x H'
      | _ => False
    have m0 : Fl (lcL t c f sl vs [] (wipeR r1 sl)) := by
      cases hL : lcL t c f sl vs [] (wipeR r1 sl) with
      | ok ys r2 => rw [hL] at m; exact m
      | ex e r2 => rw [hL] at m; exact m
      | bad => rw [hL] at m; exact m
    refine ⟨fun i n H' => ∃ r' G' acc ds, i ≤ vs.length ∧ n = vs.length - i ∧ Ok A G' H' (wipe σ sl) r' ∧ Step (wipe σ sl) (wipeR r1 sl) G1 H1 r' G' H' ∧ H' D = some (.lst acc) ∧ Reps A.w G' ds acc ∧ G' D = none ∧ ¬ Rt H' r' (wipe σ sl) D ∧ Fl (lcL t c f sl (vs.drop i) ds r'),
      ⟨vs.length, wipeR r1 sl, G1, [], [], Nat.zero_le _, rfl, kw, gr0.step (k1.wipe (sl := sl) hio), upd_same, reps_nil.mpr rfl, k1.sub.back hD, fun z => (k1.wipe (sl := sl) hio).notRt hD (((k1.wipe (sl := sl) hio).rtK (Ok.growK gr0) D).mp z), by simpa using m0⟩, ?_⟩
    rintro i n H2 ⟨r2, G2, acc, ds, hi, hn, k2, st2, hacc, hreps, hGD, hnr, hFl⟩
    have lD : A.L D ∨ A.H0 D = none := k1.fresh hD
    by_cases hlt : i < vs.length
    · refine .inr ⟨io.go G2 H2 i st2.ex k2.sub hlt, fun H' => ∃ r' G' acc ds, Ok A G' H' (wipe σ sl) r' ∧ Step (wipe σ sl) (wipeR r1 sl) G1 H1 r' G' H' ∧ H' D = some (.lst acc) ∧ Reps A.w G' ds acc ∧ G' D = none ∧ ¬ Rt H' r' (wipe σ sl) D ∧ Fl (lcL t c f sl (vs.drop (i + 1)) ds r'),
        fun H' ⟨r', G', acc, ds, q⟩ => ⟨vs.length - (i + 1), by omega, r', G', acc, ds, hlt, rfl, q⟩, fun x H3 hy => ?_⟩
      have ev : vs[i]? = some vs[i] := by simp [hlt]
      obtain ⟨G3, gr, rp⟩ := io.yld G2 H2 i vs[i] x H3 st2.ex k2.sub ev hy
      refine ⟨r2, G3, vs[i], k2.grow gr, rp, ?_⟩
      rw [List.drop_eq_getElem_cons hlt, lcL] at hFl
      cases ht : t vs[i] r2 with
      | none => simp only [ht] at hFl; exact hFl.elim
      | some r3 =>
        simp only [ht] at hFl ⊢
        intro σ2 k3 hj hl
        have hw := wipe_eq (σ := σ) (σ2 := σ2) hs hj hl
        obtain ⟨tk1, tk2⟩ := tok _ _ _ ht
        have rt3 : ∀ a, Rt H3 r3 σ2 a → Rt H2 r2 (wipe σ sl) a := fun a ⟨j, w, b, h1, h2, h3⟩ => by
          by_cases q : j ∈ st'
          · exact absurd h1 (tk2 j q w)
          · exact (k2.rtK (Ok.growK gr) a).mp ⟨j, w, b, by rw [← tk1 j q]; exact h1, by rw [← hj j q]; exact h2, h3⟩
        have hacc3 : H3 D = some (.lst acc) := gr.h _ _ hacc
        have hGD3 : G3 D = none := gr.non0 hGD hacc
        have st3 := st2.trans (gr.step k2)
        have rt3b : ∀ a, Rt H3 r3 σ2 a → Rt H3 r2 (wipe σ sl) a := fun a h => (k2.rtK (Ok.growK gr) a).mpr (rt3 a h)
        -- from the target's state to the block's
        have conv : ∀ {r4 : Env} {G4 H4 : Hp}, Ok A G4 H4 σ2 r4 → Step σ2 r3 G3 H3 r4 G4 H4 → Ok A G4 H4 (wipe σ sl) (wipeR r4 sl) ∧ Step (wipe σ sl) (wipeR r1 sl) G1 H1 (wipeR r4 sl) G4 H4 ∧ H4 D = some (.lst acc) ∧ G4 D = none ∧ ¬ Rt H4 (wipeR r4 sl) (wipe σ sl) D := fun {r4 G4 H4} k4 st4 => by
          have rt4 : ∀ a, Rt H4 (wipeR r4 sl) (wipe σ sl) a → Rt H3 r3 σ2 a ∨ H3 a = none := fun a h => st4.rts a (by rw [← hw] at h; exact rt_wipe h)
          refine ⟨?_, st3.trans ⟨st4.ex, fun a o h n => st4.keep a o h fun z => n (rt3b a z), fun a h h' => (st4.grow a h h').imp id (rt3b a), fun a h => (rt4 a h).imp (rt3b a) id⟩, st4.keep D _ hacc3 fun z => hnr (rt3 D z), ?_, fun z => ?_⟩
          · have := k4.wipe (sl := sl) hio
            rw [hw] at this; exact this
          · cases z : G4 D with
            | none => rfl
            | some o =>
              rcases st4.grow D hGD3 (by rw [z]; simp) with y | y
              · rw [hacc3] at y; cases y
              · exact absurd (rt3 D y) hnr
          · rcases rt4 D z with y | y
            · exact hnr (rt3 D y)
            · rw [hacc3] at y; cases y
        refine ⟨hw, r3, G3, k3, ?_⟩
        cases hc : c r3 with
        | bad => simp only [hc] at hFl; exact hFl.elim
        | ex e r4 => simp only [hc] at hFl; exact hFl.elim
        | ok b r4 =>
          simp only [hc] at hFl ⊢
          intro G4 H4 k4 st4
          cases b with
          | false =>
            simp only [Bool.false_eq_true, if_false]
            obtain ⟨c1, c2, c3, c4, c5⟩ := conv k4 st4
            exact ⟨_, G4, acc, ds, c1, c2, c3, hreps.mono (gr.g.trans st4.ex), c4, c5, hFl⟩
          | true =>
            simp only [if_true] at hFl ⊢
            refine ⟨r4, G4, k4, ?_⟩
            cases he : frz f r4 with
            | bad => simp only [he] at hFl; exact hFl.elim
            | ex e r5 => simp only [he] at hFl; exact hFl.elim
            | ok o y r5 =>
              have eo := frz_false he
              subst eo
              simp only [he] at hFl ⊢
              intro y' G5 H5 R5
              by_cases hz : ds.length < 100000
              case neg => rw [if_neg hz] at hFl; exact hFl.elim
              rw [if_pos hz] at hFl
              obtain ⟨c1, c2, c3, c4, c5⟩ := conv R5.ok (st4.trans R5.st)
              have le5 : Le G2 G5 := (gr.g.trans st4.ex).trans R5.st.ex
              refine ⟨acc, c3, by rw [← reps_length hreps]; exact Nat.lt_of_lt_of_le hz (by decide), _, G5, acc ++ [y'], ds ++ [y], c1.tmp c4 (.inr ⟨_, c3, True.intro⟩) c5 lD, ⟨c2.ex, fun a o h nn => ?_, c2.grow, fun a h => c2.rts a ((c1.tmpR c5 a).mp h)⟩, upd_same, reps_append (hreps.mono le5) (reps_one R5.tr), c4, fun z => c5 ((c1.tmpR c5 D).mp z), hFl⟩
              have ne : a ≠ D := fun z => by subst z; rw [hD] at h; cases h
              rw [upd_ne ne]; exact c2.keep a o h nn
    · have e : i = vs.length := by omega
      subst e
      rw [List.drop_length, lcL] at hFl
      obtain ⟨k3, st3⟩ := k1.unwipe k2 st2
      refine .inl ⟨io.stop G2 H2 _ st2.ex k2.sub (Nat.le_refl _), ?_⟩
      refine hFl (.ref D) G2 H2 ⟨k3, st1.trans st3, trep_t (root_lst hacc hreps) hGD ?_ lD, fr_one (st1.fresh hD)⟩
      exact k1.unwipeD st2 hD hnr
end M
namespace M
open PySem L2

/-- what is asked of a context -/
structure Cal (X : Cx) (w : Wd) : Prop where
  K : w.K = X.K
  calm : X.calm = true
  un : X.A.units + 100 < cLine
  gs : X.A.guards = some []
  sy : (X.K.lookup sysModules).isSome = true
  W : X.w = w.W

section
variable {w : Wd} {G H : Hp} {x y : V} {v : Val}
theorem rrep_non : RRep w G H .non x → x = .non := fun h => h.elim rep_non.mp fun ⟨_, _, r⟩ => r.elim
theorem rrep_bl {b : Bool} : RRep w G H (.bl b) x → x = .bl b := fun h => h.elim rep_bl.mp fun ⟨_, _, r⟩ => r.elim
theorem rrep_int {i : Int} : RRep w G H (.int i) x → x = .int i := fun h => h.elim rep_int.mp fun ⟨_, _, r⟩ => r.elim
theorem rrep_str {s : Str} : RRep w G H (.str s) x → x = .str s ∧ s.length ≤ sizeLine := fun h => h.elim rep_str.mp fun ⟨_, _, r⟩ => r.elim
theorem rrep_ty {n : String} : RRep w G H (.ty n) x → x = .ty n := fun h => h.elim rep_ty.mp fun ⟨_, _, r⟩ => r.elim
theorem rrep_tup {ds : List Val} (le : Le G H) : RRep w G H (.tup ds) x → ∃ a xs, x = .ref a ∧ SqT w.K H a xs ∧ Reps w G ds xs := fun h => h.elim (fun h => by
  obtain ⟨a, xs, e, q, r⟩ := rep_tup.mp h
  exact ⟨a, xs, e, sqt_mono le q, r⟩) fun ⟨_, _, r⟩ => r.elim
theorem rrep_lst {ds : List Val} (le : Le G H) : RRep w G H (.lst ds) x → ∃ a xs, x = .ref a ∧ H a = some (.lst xs) ∧ Reps w G ds xs := fun h => by
  rcases h with h | ⟨a, e, r⟩
  · obtain ⟨a, xs, e, q, r⟩ := rep_lst.mp h
    exact ⟨a, xs, e, le _ _ q, r⟩
  · obtain ⟨xs, q, r⟩ := r
    exact ⟨a, xs, e, q, r⟩
theorem rrep_dct {t : Bool} {ds : List (Val × Val)} (le : Le G H) : RRep w G H (.dct t ds) x → ∃ a, x = .ref a ∧ ((t = false ∧ ∃ kvs, Rd H a (.dK kvs) ∧ RepK w G ds kvs) ∨ (t = true ∧ ∃ kvs, H a = some (DX w.W a kvs) ∧ RepT w G ds kvs)) := fun h => by
  rcases h with h | ⟨a, e, r⟩
  · rw [Rep] at h
    obtain ⟨a, e, ⟨ht, kvs, o, q, r⟩ | ⟨ht, kvs, q, r⟩⟩ := h
    · exact ⟨a, e, .inl ⟨ht, kvs, .inr ⟨o, le _ _ q⟩, r⟩⟩
    · exact ⟨a, e, .inr ⟨ht, kvs, le _ _ q, r⟩⟩
  · obtain ⟨ht, kvs, q, r⟩ | ⟨ht, kvs, q, r⟩ := r
    · exact ⟨a, e, .inl ⟨ht, kvs, .inl q, r⟩⟩
    · exact ⟨a, e, .inr ⟨ht, kvs, q, r⟩⟩
theorem rrep_scr {ns : List Int} (le : Le G H) : RRep w G H (.scr ns) x → ∃ a, x = .ref a ∧ SqL w.K H a (ns.map V.int) := fun h => by
  rcases h with h | ⟨a, e, r⟩
  · rw [Rep] at h; obtain ⟨a, e, q⟩ := h; exact ⟨a, e, sql_mono le q⟩
  · exact r.elim
theorem rreps_one {xs : List V} : RReps w G H [v] xs → ∃ x, xs = [x] ∧ RRep w G H v x := fun ⟨y, ys, e, r, t⟩ => by
  have t' : ys = [] := t
  subst t'; exact ⟨y, e, r⟩
theorem rreps_two {u : Val} {xs : List V} : RReps w G H [v, u] xs → ∃ x y, xs = [x, y] ∧ RRep w G H v x ∧ RRep w G H u y := fun ⟨y, ys, e, r, t⟩ => by
  obtain ⟨z, e2, r2⟩ := rreps_one t
  subst e2; exact ⟨y, z, e, r, r2⟩
end
end M
namespace M
open PySem L2

def repS (x : Str) (n : Nat) : Str := ⟨(List.replicate n x.cps.toList).flatten.toArray⟩
def Padd : List Val → Option (Bool × Val)
  | [.int i, .int j] => some (false, .int (i + j))
  | [.str s, .str t] => if s.length + t.length ≤ sizeLine then some (false, .str (s ++ t)) else none
  | [.lst xs, .lst ys] => if xs.length + ys.length ≤ 100000 then some (true, .lst (xs ++ ys)) else none
  | _ => none
def Psub : List Val → Option (Bool × Val)
  | [.int i, .int j] => some (false, .int (i - j))
  | _ => none
/-- a bound that neither side of which the kernel counts down -/
def smallI (n : Nat) (j : Int) : Bool := match j with
  | .ofNat a => Nat.ble a n
  | .negSucc a => Nat.ble a n
theorem smallI_iff {n : Nat} {j : Int} : smallI n j = true ↔ -((n : Int) + 1) ≤ j ∧ j ≤ (n : Int) := by
  cases j with
  | ofNat a =>
    have e : Int.ofNat a = (a : Int) := rfl
    simp only [smallI, Nat.ble_eq, e]; constructor <;> intro h <;> omega
  | negSucc a => simp only [smallI, Nat.ble_eq]; constructor <;> intro h <;> omega
def mulOk (i j : Int) : Bool := smallI 18446744073709551614 i || smallI 18446744073709551614 j
theorem mulOk_iff {i j : Int} : mulOk i j = true ↔ (-(2 ^ 64) < i ∧ i < 2 ^ 64 - 1) ∨ (-(2 ^ 64) < j ∧ j < 2 ^ 64 - 1) := by
  unfold mulOk
  rw [Bool.or_eq_true, smallI_iff, smallI_iff]
  constructor
  · rintro (h | h)
    · left; omega
    · right; omega
  · rintro (h | h)
    · left; omega
    · right; omega
def Pmul : List Val → Option (Bool × Val)
  | [.int i, .int j] => if mulOk i j then some (false, .int (i * j)) else none
  | [.str s, .int n] => if 0 ≤ n ∧ n ≤ 100000 ∧ s.length * n.toNat ≤ sizeLine then some (false, .str (repS s n.toNat)) else none
  | [.lst xs, .int n] => if 0 ≤ n ∧ n ≤ 100000 ∧ xs.length * n.toNat ≤ 100000 then some (true, .lst (List.replicate n.toNat xs).flatten) else none
  | _ => none
def Pmod : List Val → Option (Bool × Val)
  | [.int i, .int j] => if 0 < j then some (false, .int (i % j)) else none
  | _ => none
def Pdiv : List Val → Option (Bool × Val)
  | [.int i, .int j] => if 0 < j ∧ smallI 1073741823 j = true then some (false, .int (i / j)) else none
  | _ => none
def Ppow : List Val → Option (Bool × Val)
  | [.int i, .int j] => if 0 ≤ j ∧ j ≤ 1000 ∧ i.natAbs < 2 ^ 64 then some (false, .int (i ^ j.toNat)) else none
  | _ => none

theorem str_len_app (a b : Str) : (a ++ b).length = a.length + b.length := by
  show (a.cps ++ b.cps).size = _
  rw [Array.size_append]; rfl
theorem repS_fold (x : Str) (n : Nat) : (⟨(List.replicate n x.cps).foldl (· ++ ·) #[]⟩ : Str) = repS x n := by
  have : ∀ (n : Nat) (acc : Array Nat), (List.replicate n x.cps).foldl (· ++ ·) acc = acc ++ (List.replicate n x.cps.toList).flatten.toArray := by
    intro n
    induction n with
    | zero => intro acc; simp
    | succ n ih => intro acc; rw [List.replicate_succ, List.foldl_cons, ih, List.replicate_succ, List.flatten_cons]; apply Array.toList_inj.mp; simp
  unfold repS
  rw [this]; simp
theorem repS_length (x : Str) (n : Nat) : (repS x n).length = x.length * n := by
  unfold repS
  show (List.toArray _).size = _
  rw [List.size_toArray]
  induction n with
  | zero => simp
  | succ n ih =>
    rw [List.replicate_succ, List.flatten_cons, List.length_append, ih]
    show x.cps.toList.length + _ = _
    rw [Array.length_toList, Nat.mul_succ, Nat.add_comm]; rfl

section
variable {X : Cx} {w : Wd}
/-- a new list as the answer -/
theorem new_lst {G H : Hp} {p : Addr} {xs : List V} {ds : List Val} {Q : VK} (le : Le G H) (hp : H p = none) (rp : Reps w G ds xs)
    (q : ∀ u G' H', Grow G H G' H' → NRep w G H G' H' true (.lst ds) u → Q u H') : Q (.ref p) (upd H p (.lst xs)) :=
  q _ G _ (Grow.laidH le hp) ⟨_, rfl, root_lst upd_same rp, flat_all rfl ⟨le.back hp, hp⟩⟩
theorem reps_rep {G : Hp} {ds : List Val} {xs : List V} (q : Reps w G ds xs) : ∀ m : Nat, Reps w G (List.replicate m ds).flatten (List.replicate m xs).flatten
  | 0 => reps_nil.mpr rfl
  | m + 1 => by rw [List.replicate_succ, List.flatten_cons, List.replicate_succ, List.flatten_cons]; exact reps_append q (reps_rep q m)
theorem opr_add (c : Cal X w) : OpR X (binaryOp .Add) (r2Of w Padd) := by
  intro pins s σ H x y v u Q I rx ry ⟨G, vs, o, z, le, rr, hp, q⟩
  unfold Padd at hp
  split at hp
  · obtain ⟨_, _, e, r1, r2⟩ := rreps_two rr
    cases e; cases hp
    obtain rfl := rrep_int r1; obtain rfl := rrep_int r2
    exact op_add pins s σ H _ _ v u Q I rx ry ⟨_, _, rfl, rfl, q _ G H (Grow.refl le) (nrep_f (rep_int.mpr rfl))⟩
  · obtain ⟨_, _, e, r1, r2⟩ := rreps_two rr
    cases e
    split at hp
    · rename_i hz
      cases hp
      obtain ⟨rfl, h1⟩ := rrep_str r1; obtain ⟨rfl, h2⟩ := rrep_str r2
      exact op_add_str pins s σ H _ _ v u Q I rx ry ⟨_, _, rfl, rfl, hz, q _ G H (Grow.refl le) (nrep_f (rep_str.mpr ⟨rfl, by rw [str_len_app]; exact hz⟩))⟩
    · cases hp
  · obtain ⟨_, _, e, r1, r2⟩ := rreps_two rr
    cases e
    split at hp
    · rename_i hz
      cases hp
      obtain ⟨a, xs, rfl, s1, q1⟩ := rrep_lst le r1; obtain ⟨b, ys, rfl, s2, q2⟩ := rrep_lst le r2
      have hz' : xs.length + ys.length ≤ sizeLine := by rw [← reps_length q1, ← reps_length q2]; exact line_of hz
      exact op_cat pins s σ H _ _ v u Q I rx ry ⟨a, b, xs, ys, rfl, rfl, s1, s2, hz', fun p hp => new_lst le hp (reps_append q1 q2) q⟩
    · cases hp
  · cases hp
theorem opr_sub (c : Cal X w) : OpR X (binaryOp .Sub) (r2Of w Psub) := by
  intro pins s σ H x y v u Q I rx ry ⟨G, vs, o, z, le, rr, hp, q⟩
  unfold Psub at hp
  split at hp
  · obtain ⟨_, _, e, r1, r2⟩ := rreps_two rr
    cases e; cases hp
    obtain rfl := rrep_int r1; obtain rfl := rrep_int r2
    exact op_sub pins s σ H _ _ v u Q I rx ry ⟨_, _, rfl, rfl, q _ G H (Grow.refl le) (nrep_f (rep_int.mpr rfl))⟩
  · cases hp
theorem opr_mod (c : Cal X w) : OpR X (binaryOp .Mod) (r2Of w Pmod) := by
  intro pins s σ H x y v u Q I rx ry ⟨G, vs, o, z, le, rr, hp, q⟩
  unfold Pmod at hp
  split at hp
  · obtain ⟨_, _, e, r1, r2⟩ := rreps_two rr
    cases e
    split at hp
    · rename_i hj
      cases hp
      obtain rfl := rrep_int r1; obtain rfl := rrep_int r2
      exact op_mod pins s σ H _ _ v u Q I rx ry ⟨_, _, rfl, rfl, hj, q _ G H (Grow.refl le) (nrep_f (rep_int.mpr rfl))⟩
    · cases hp
  · cases hp
theorem opr_div (c : Cal X w) : OpR X (binaryOp .FloorDiv) (r2Of w Pdiv) := by
  intro pins s σ H x y v u Q I rx ry ⟨G, vs, o, z, le, rr, hp, q⟩
  unfold Pdiv at hp
  split at hp
  · obtain ⟨_, _, e, r1, r2⟩ := rreps_two rr
    cases e
    split at hp
    · rename_i hj
      cases hp
      obtain rfl := rrep_int r1; obtain rfl := rrep_int r2
      exact op_fdiv pins s σ H _ _ v u Q I rx ry ⟨_, _, rfl, rfl, ⟨hj.1, by have := smallI_iff.mp hj.2; omega⟩, q _ G H (Grow.refl le) (nrep_f (rep_int.mpr rfl))⟩
    · cases hp
  · cases hp
theorem opr_pow (c : Cal X w) : OpR X (binaryOp .Pow) (r2Of w Ppow) := by
  intro pins s σ H x y v u Q I rx ry ⟨G, vs, o, z, le, rr, hp, q⟩
  unfold Ppow at hp
  split at hp
  · obtain ⟨_, _, e, r1, r2⟩ := rreps_two rr
    cases e
    split at hp
    · rename_i hj
      cases hp
      obtain rfl := rrep_int r1; obtain rfl := rrep_int r2
      exact op_pow pins s σ H _ _ v u Q I rx ry ⟨_, _, rfl, rfl, ⟨hj.1, Int.le_trans hj.2.1 (by decide), hj.2.2⟩, q _ G H (Grow.refl le) (nrep_f (rep_int.mpr rfl))⟩
    · cases hp
  · cases hp
theorem opr_mul (c : Cal X w) : OpR X (binaryOp .Mult) (r2Of w Pmul) := by
  intro pins s σ H x y v u Q I rx ry ⟨G, vs, o, z, le, rr, hp, q⟩
  unfold Pmul at hp
  split at hp
  · obtain ⟨_, _, e, r1, r2⟩ := rreps_two rr
    cases e
    split at hp
    · rename_i hj
      cases hp
      obtain rfl := rrep_int r1; obtain rfl := rrep_int r2
      exact op_mul pins s σ H _ _ v u Q I rx ry ⟨_, _, rfl, rfl, ((mulOk_iff.mp hj).elim (fun z => .inl ⟨z.1, by omega⟩) fun z => .inr ⟨z.1, by omega⟩), q _ G H (Grow.refl le) (nrep_f (rep_int.mpr rfl))⟩
    · cases hp
  · obtain ⟨_, _, e, r1, r2⟩ := rreps_two rr
    cases e
    split at hp
    · rename_i st n hj
      cases hp
      obtain ⟨rfl, h1⟩ := rrep_str r1; obtain rfl := rrep_int r2
      obtain ⟨t, rfl⟩ := rx; obtain ⟨t', rfl⟩ := ry
      have e1 : ∀ m : Nat, RelV (.str (repS st m)) (.str (repS st m) m) := fun m => ⟨_, rfl⟩
      refine PySem.P.mul_str (by
        have h2 : ¬ n < -(2 ^ 63 : Int) := by omega
        have h3 : ¬ n ≥ 2 ^ 63 := by omega
        rw [decide_eq_false h2, decide_eq_false h3]; rfl) (fun hn _ hb => ?_) (fun hn _ => ?_) ?_
      · have h4 : n ≤ 100000 := hj.2.1
        have h5 : (st.length : Int) ≤ 16777216 := by
          have : sizeLine = 16777216 := PySem.sizeLine_eq
          omega
        have h6 : (2 ^ 63 - 1 : Int) / n ≥ (2 ^ 63 - 1) / 100000 := by
          refine Int.le_ediv_of_mul_le (by omega) ?_
          have : (2 ^ 63 - 1 : Int) / 100000 * n ≤ (2 ^ 63 - 1 : Int) / 100000 * 100000 := Int.mul_le_mul_of_nonneg_left h4 (by decide)
          refine Int.le_trans this ?_
          decide
        have h7 : (16777216 : Int) ≤ (2 ^ 63 - 1) / 100000 := by decide
        omega
      · exact decide_eq_false (by have := hj.2.2; omega)
      · have fin : ∀ (m : Nat) (y : Str), y = repS st n.toNat → Q (.str y) H → EP X pins σ Q (.str y s.toks) { s with toks := s.toks + 1 } := fun m y e h => ⟨.str y, H, I.tok _, ⟨_, rfl⟩, h⟩
        have qq : Q (.str (repS st n.toNat)) H := q _ G H (Grow.refl le) (nrep_f (rep_str.mpr ⟨rfl, by rw [repS_length]; exact hj.2.2⟩))
        have ext : ∀ {a b : Str}, a.cps.toList = b.cps.toList → a = b := fun {a b} h => by cases a; cases b; congr; exact Array.toList_inj.mp h
        by_cases h0 : n < 1
        · rw [if_pos h0]
          have en : n.toNat = 0 := by omega
          have e : Str.empty = repS st n.toNat := by rw [en]; rfl
          refine ⟨by rw [e, repS_length]; exact hj.2.2, ?_⟩
          exact ⟨.str Str.empty, H, I.tok _, ⟨_, rfl⟩, by rw [e]; exact qq⟩
        · rw [if_neg h0]
          split
          · rename_i hc
            have e : st = repS st n.toNat := by
              simp only [Bool.or_eq_true, beq_iff_eq] at hc
              rcases hc with hc | hc
              · subst hc
                refine ext ?_
                show _ = (List.replicate 1 st.cps.toList).flatten
                simp
              · refine ext ?_
                have e0 : st.cps.toList = [] := by
                  have : st.cps.toList.length = 0 := by rw [Array.length_toList]; exact hc
                  exact List.eq_nil_of_length_eq_zero this
                show _ = (List.replicate n.toNat st.cps.toList).flatten
                rw [e0]; simp
            exact ⟨.str st, H, I, ⟨_, rfl⟩, by rw [← e] at qq; exact qq⟩
          · rw [repS_fold]
            exact ⟨by rw [repS_length]; exact hj.2.2, .str _, H, I.tok _, ⟨_, rfl⟩, qq⟩
    · cases hp
  · obtain ⟨_, _, e, r1, r2⟩ := rreps_two rr
    cases e
    split at hp
    · rename_i ds n hj
      cases hp
      obtain ⟨l, xs, rfl, s1, q1⟩ := rrep_lst le r1; obtain rfl := rrep_int r2
      have hz : xs.length * n.toNat ≤ sizeLine := by rw [← reps_length q1]; exact line_of hj.2.2
      exact op_rep pins s σ H _ _ v u Q I rx ry ⟨l, n, xs, rfl, rfl, s1, by omega, by omega, hz, fun p hp => new_lst le hp (reps_rep q1 _) q⟩
    · cases hp
  · cases hp
end
end M
namespace M
open PySem L2

mutual
def toD : Val → Option PyData
  | .non => some .none
  | .bl b => some (.bool b)
  | .int i => some (.int i)
  | .str s => some (.str s)
  | .tup ds => (toDs ds).map .tuple
  | .lst ds => (toDs ds).map .list
  | .scr ns => some (.list (ns.map .int))
  | _ => none
def toDs : List Val → Option (List PyData)
  | [] => some []
  | d :: ds => match toD d, toDs ds with
    | some x, some xs => some (x :: xs)
    | _, _ => none
end
theorem dps_ints {K : PySem.W.Frag} {H : Hp} : ∀ ns : List Int, DpAll K H (ns.map V.int) (ns.map PyData.int)
  | [] => .nil
  | n :: ns => .cons (.int n) (dps_ints ns)
section
variable {w : Wd} {K : PySem.W.Frag} {G H : Hp}
mutual
theorem dp_of (hw : w.K = K) (le : Le G H) : ∀ {v : Val} {x : V} {d : PyData}, Rep w G v x → toD v = some d → Dp K H x d
  | .non, _, _, r, e => by rw [toD] at e; cases e; rw [rep_non.mp r]; exact .non
  | .bl b, _, _, r, e => by rw [toD] at e; cases e; rw [rep_bl.mp r]; exact .bl b
  | .int i, _, _, r, e => by rw [toD] at e; cases e; rw [rep_int.mp r]; exact .int i
  | .str s, _, _, r, e => by rw [toD] at e; cases e; rw [(rep_str.mp r).1]; exact .str s
  | .tup ds, _, _, r, e => by
    rw [toD, Option.map_eq_some_iff] at e
    obtain ⟨es, e, rfl⟩ := e
    obtain ⟨a, xs, rfl, q, r⟩ := rep_tup.mp r
    exact .tup (by rw [← hw]; exact sqt_mono le q) (dps_of hw le r e)
  | .lst ds, _, _, r, e => by
    rw [toD, Option.map_eq_some_iff] at e
    obtain ⟨es, e, rfl⟩ := e
    obtain ⟨a, xs, rfl, q, r⟩ := rep_lst.mp r
    exact .lst (.inl (.inl (le _ _ q))) (dps_of hw le r e)
  | .scr ns, _, _, r, e => by
    rw [toD] at e; cases e
    rw [Rep] at r
    obtain ⟨a, rfl, q⟩ := r
    exact .lst (by rw [← hw]; exact sql_mono le q) (dps_ints ns)
  | .dct _ _, _, _, _, e => by simp [toD] at e
  | .obj _ _, _, _, _, e => by simp [toD] at e
  | .ty _, _, _, _, e => by simp [toD] at e
  | .cls _, _, _, _, e => by simp [toD] at e
  | .exc _ _, _, _, _, e => by simp [toD] at e
theorem dps_of (hw : w.K = K) (le : Le G H) : ∀ {ds : List Val} {xs : List V} {es : List PyData}, Reps w G ds xs → toDs ds = some es → DpAll K H xs es
  | [], _, _, r, e => by rw [toDs] at e; cases e; rw [reps_nil.mp r]; exact .nil
  | d :: ds, _, _, r, e => by
    rw [toDs] at e
    obtain ⟨y, ys, rfl, r1, r2⟩ := reps_cons.mp r
    split at e
    · rename_i p ps e1 e2
      cases e
      exact .cons (dp_of hw le r1 e1) (dps_of hw le r2 e2)
    · cases e
end
theorem dp_rrep (hw : w.K = K) (le : Le G H) {v : Val} {x : V} {d : PyData} (r : RRep w G H v x) (e : toD v = some d) : Dp K H x d := by
  rcases r with r | ⟨a, rfl, r⟩
  · exact dp_of hw le r e
  · cases v with
    | lst ds =>
      obtain ⟨xs, q, r⟩ := r
      rw [toD, Option.map_eq_some_iff] at e
      obtain ⟨es, e, rfl⟩ := e
      exact .lst (.inl (.inl q)) (dps_of hw le r e)
    | dct t ds => simp [toD] at e
    | obj c fs => simp [toD] at e
    | ows ds => simp [toD] at e
    | oob c fs => simp [toD] at e
    | _ => exact r.elim
end
abbrev shp (d : PyData) : Bool := SeqAt.shaped d
def Peq : List Val → Option (Bool × Val)
  | [a, b] => match toD a, toD b with
    | some d, some e => if shp d = true ∧ shp e = true then some (false, .bl (PyData.eqv d e)) else none
    | _, _ => none
  | _ => none
def Pne : List Val → Option (Bool × Val)
  | [a, b] => match toD a, toD b with
    | some d, some e => if shp d = true ∧ shp e = true then some (false, .bl (!PyData.eqv d e)) else none
    | _, _ => none
  | _ => none
def cmpI (f : Int → Int → Bool) : List Val → Option (Bool × Val)
  | [.int i, .int j] => some (false, .bl (f i j))
  | _ => none
def Plt := cmpI fun i j => decide (i < j)
def Ple := cmpI fun i j => decide (i ≤ j)
def Pgt := cmpI fun i j => decide (j < i)
def Pge := cmpI fun i j => decide (j ≤ i)
def PisNot : List Val → Option (Bool × Val)
  | [.bl a, .bl b] => some (false, .bl (!decide (a = b)))
  | [.non, .non] => some (false, .bl false)
  | [_, .non] => some (false, .bl true)
  | _ => none
/-- x in y: a sign in a text, an item of a list, a flat item of a tuple -/
def inOf : Val → Val → Option Bool
  | .str x, .str y => match x.cps.toList with
    | [c] => some (decide (c ∈ y.cps.toList))
    | _ => none
  | d, .lst ds => match toD d, toDs ds with
    | some x, some xs => if shp x = true ∧ shp (.list xs) = true then some (xs.any fun z => PyData.eqv z x) else none
    | _, _ => none
  | _, _ => none
def flatD : PyData → Bool
  | .none => true
  | .bool _ => true
  | .int _ => true
  | .str _ => true
  | _ => false
def inTup : Val → Val → Option Bool
  | d, .tup ds => match toD d, toDs ds with
    | some x, some xs => if flatD x = true ∧ xs.all flatD = true then some (xs.any fun z => PyData.eqv z x) else none
    | _, _ => none
  | _, _ => none
def Pin : List Val → Option (Bool × Val)
  | [x, y] => match inOf x y with
    | some b => some (false, .bl b)
    | none => (inTup x y).map fun b => (false, .bl b)
  | _ => none
def PnotIn : List Val → Option (Bool × Val)
  | [x, y] => match inOf x y with
    | some b => some (false, .bl (!b))
    | none => (inTup x y).map fun b => (false, .bl (!b))
  | _ => none

section
variable {X : Cx} {w : Wd}
theorem bl_new {G H : Hp} {Q : VK} {b : Bool} (le : Le G H) (q : ∀ u G' H', Grow G H G' H' → NRep w G H G' H' false (.bl b) u → Q u H') : Q (.bl b) H := q _ G H (Grow.refl le) (nrep_f (rep_bl.mpr rfl))
theorem int_new {G H : Hp} {Q : VK} {b : Int} (le : Le G H) (q : ∀ u G' H', Grow G H G' H' → NRep w G H G' H' false (.int b) u → Q u H') : Q (.int b) H := q _ G H (Grow.refl le) (nrep_f (rep_int.mpr rfl))
theorem str_new {G H : Hp} {Q : VK} {b : Str} (le : Le G H) (hb : b.length ≤ sizeLine) (q : ∀ u G' H', Grow G H G' H' → NRep w G H G' H' false (.str b) u → Q u H') : Q (.str b) H := q _ G H (Grow.refl le) (nrep_f (rep_str.mpr ⟨rfl, hb⟩))
theorem opr_eq (c : Cal X w) : OpR X (compareOp .Eq) (r2Of w Peq) := by
  intro pins s σ H x y v u Q I rx ry ⟨G, vs, o, z, le, rr, hp, q⟩
  unfold Peq at hp
  split at hp
  · obtain ⟨_, _, e, r1, r2⟩ := rreps_two rr
    cases e
    split at hp
    · rename_i d e h1 h2
      split at hp
      · rename_i hs
        cases hp
        exact op_eqD (by have := c.un; omega) pins s σ H _ _ v u Q I rx ry ⟨d, e, dp_rrep c.K le r1 h1, dp_rrep c.K le r2 h2, hs.1, hs.2, bl_new le q⟩
      · cases hp
    · cases hp
  · cases hp
theorem opr_ne (c : Cal X w) : OpR X (compareOp .NotEq) (r2Of w Pne) := by
  intro pins s σ H x y v u Q I rx ry ⟨G, vs, o, z, le, rr, hp, q⟩
  unfold Pne at hp
  split at hp
  · obtain ⟨_, _, e, r1, r2⟩ := rreps_two rr
    cases e
    split at hp
    · rename_i d e h1 h2
      split at hp
      · rename_i hs
        cases hp
        exact op_neD (by have := c.un; omega) pins s σ H _ _ v u Q I rx ry ⟨d, e, dp_rrep c.K le r1 h1, dp_rrep c.K le r2 h2, hs.1, hs.2, bl_new le q⟩
      · cases hp
    · cases hp
  · cases hp
theorem cmpI_of {op : CmpOp} {f : Int → Int → Bool} (h : OpR X (compareOp op) (rI0 fun i j => .bl (f i j))) : OpR X (compareOp op) (r2Of w (cmpI f)) := by
  intro pins s σ H x y v u Q I rx ry ⟨G, vs, o, z, le, rr, hp, q⟩
  unfold cmpI at hp
  split at hp
  · obtain ⟨_, _, e, r1, r2⟩ := rreps_two rr
    cases e; cases hp
    obtain rfl := rrep_int r1; obtain rfl := rrep_int r2
    exact h pins s σ H _ _ v u Q I rx ry ⟨_, _, rfl, rfl, bl_new le q⟩
  · cases hp
theorem opr_lt : OpR X (compareOp .Lt) (r2Of w Plt) := cmpI_of op_lt
theorem opr_le : OpR X (compareOp .LtE) (r2Of w Ple) := cmpI_of op_le
theorem opr_gt : OpR X (compareOp .Gt) (r2Of w Pgt) := cmpI_of op_gt
theorem opr_ge : OpR X (compareOp .GtE) (r2Of w Pge) := cmpI_of op_ge
theorem rrep_not_non {G H : Hp} {v : Val} {x : V} (h : RRep w G H v x) (hv : v ≠ .non) : x ≠ .non := by
  intro e
  subst e
  rcases h with h | ⟨a, e, _⟩
  · cases v with
    | non => exact hv rfl
    | bl b => cases rep_bl.mp h
    | int i => cases rep_int.mp h
    | str s => cases (rep_str.mp h).1
    | ty n => cases rep_ty.mp h
    | tup ds => obtain ⟨_, _, e, _⟩ := rep_tup.mp h; cases e
    | lst ds => obtain ⟨_, _, e, _⟩ := rep_lst.mp h; cases e
    | dct t ds => rw [Rep] at h; obtain ⟨_, e, _⟩ := h; cases e
    | obj c fs => rw [Rep] at h; obtain ⟨_, _, _, _, e, _⟩ := h; cases e
    | exc c fs => rw [Rep] at h; obtain ⟨_, _, _, e, _⟩ := h; cases e
    | cls c => rw [Rep] at h; obtain ⟨_, _, e⟩ := h; cases e
    | scr ns => rw [Rep] at h; obtain ⟨_, e, _⟩ := h; cases e
    | ows ds => rw [Rep] at h; obtain ⟨_, _, e, _⟩ := h; cases e
    | oob c fs => rw [Rep] at h; obtain ⟨_, _, _, _, e, _⟩ := h; cases e
  · cases e
theorem opr_isNot : OpR X (compareOp .IsNot) (r2Of w PisNot) := by
  intro pins s σ H x y v u Q I rx ry ⟨G, vs, o, z, le, rr, hp, q⟩
  unfold PisNot at hp
  split at hp
  · obtain ⟨_, _, e, r1, r2⟩ := rreps_two rr
    cases e; cases hp
    obtain rfl := rrep_bl r1; obtain rfl := rrep_bl r2
    exact op_notBl pins s σ H _ _ v u Q I rx ry ⟨_, _, rfl, rfl, bl_new le q⟩
  · obtain ⟨_, _, e, r1, r2⟩ := rreps_two rr
    cases e; cases hp
    obtain rfl := rrep_non r1; obtain rfl := rrep_non r2
    exact op_notN pins s σ H _ _ v u Q I rx ry ⟨rfl, by rw [decide_eq_true rfl]; exact bl_new le q⟩
  · rename_i t ht
    obtain ⟨_, _, e, r1, r2⟩ := rreps_two rr
    cases e; cases hp
    obtain rfl := rrep_non r2
    exact op_notN pins s σ H _ _ v u Q I rx ry ⟨rfl, by rw [decide_eq_false (rrep_not_non r1 ht)]; exact bl_new le q⟩
  · cases hp

theorem flat_V {K : PySem.W.Frag} {H : Hp} {x : V} {d : PyData} (h : Dp K H x d) (f : flatD d = true) : flatV x = true := by
  cases h <;> first | rfl | cases f
theorem eqv_V {K : PySem.W.Frag} {H : Hp} {x y : V} {d e : PyData} (h : Dp K H x d) (g : Dp K H y e) (f : flatD d = true) (f' : flatD e = true) : eqV x y = PyData.eqv d e := by
  cases h <;> cases g <;> first | (cases f; done) | (cases f'; done) | simp only [eqV, PyData.eqv]
theorem in_V {K : PySem.W.Frag} {H : Hp} {x : V} {d : PyData} (h : Dp K H x d) (f : flatD d = true) : ∀ {xs : List V} {ds : List PyData}, DpAll K H xs ds → ds.all flatD = true → xs.all flatV = true ∧ inV x xs = ds.any fun z => PyData.eqv z d
  | _, _, .nil, _ => ⟨rfl, rfl⟩
  | _, _, .cons (v := y) (vs := ys) (d := e) (ds := es) h1 h2, a => by
    rw [List.all_cons, Bool.and_eq_true] at a
    obtain ⟨q1, q2⟩ := in_V h f h2 a.2
    refine ⟨?_, ?_⟩
    · rw [List.all_cons, flat_V h1 a.1, q1]; rfl
    · show (eqV y x || inV x ys) = _
      rw [q2, eqv_V h1 h a.1 f]; rfl
theorem str_one {x : Str} {c : Nat} (h : x.cps.toList = [c]) : x = ⟨#[c]⟩ := by
  cases x with
  | mk a =>
    congr
    exact Array.toList_inj.mp h
theorem in_run (c : Cal X w) {pins : List (Addr × Obj)} {s : Shared} {σ : L2.St} {G H : Hp} {x y : V} {v u : Value} {Q : VK} {a b : Val} {k : Bool} (I : Inv X pins σ H s) (rx : RelV x v) (ry : RelV y u) (le : Le G H) (r1 : RRep w G H a x) (r2 : RRep w G H b y)
    (h : inOf a b = some k ∨ inTup a b = some k) : (Q (.bl k) H → wpAny (model X.prog X.w) X.A (compareOp .In v u) (EP X pins σ Q) X.xe s) ∧ (Q (.bl (!k)) H → wpAny (model X.prog X.w) X.A (compareOp .NotIn v u) (EP X pins σ Q) X.xe s) := by
  rcases h with h | h
  · unfold inOf at h
    split at h
    · split at h
      · rename_i ch hc
        cases h
        obtain ⟨rfl, _⟩ := rrep_str r1; obtain ⟨rfl, _⟩ := rrep_str r2
        rw [str_one hc] at rx
        exact ⟨fun q => op_in_sign pins s σ H _ _ v u Q I rx ry ⟨_, _, rfl, rfl, q⟩, fun q => op_notIn_sign pins s σ H _ _ v u Q I rx ry ⟨_, _, rfl, rfl, q⟩⟩
      · cases h
    · split at h
      · rename_i d' ds' h1 h2
        split at h
        · rename_i hs
          cases h
          have hd := dp_rrep c.K le r1 h1
          have hl := dp_rrep c.K le r2 (d := .list ds') (by rw [toD, h2]; rfl)
          exact ⟨fun q => op_inD (by have := c.un; omega) pins s σ H _ _ v u Q I rx ry ⟨_, _, hd, hl, hs.1, hs.2, q⟩, fun q => op_notInD (by have := c.un; omega) pins s σ H _ _ v u Q I rx ry ⟨_, _, hd, hl, hs.1, hs.2, q⟩⟩
        · cases h
      · cases h
    · cases h
  · unfold inTup at h
    split at h
    · split at h
      · rename_i d' ds' h1 h2
        split at h
        · rename_i hs
          cases h
          have hd := dp_rrep c.K le r1 h1
          obtain ⟨p, xs, rfl, sq, rs⟩ := rrep_tup le r2
          obtain ⟨f2, e2⟩ := in_V hd hs.1 (dps_of c.K le rs h2) hs.2
          have f1 := flat_V hd hs.1
          rw [c.K] at sq
          exact ⟨fun q => op_in_seq pins s σ H _ _ v u Q I rx ry ⟨p, xs, rfl, .inr sq, f1, f2, by simp only [Bool.false_eq_true, if_false]; rw [e2]; exact q⟩,
            fun q => op_notIn_seq pins s σ H _ _ v u Q I rx ry ⟨p, xs, rfl, .inr sq, f1, f2, by simp only [if_true]; rw [e2]; exact q⟩⟩
        · cases h
      · cases h
    · cases h
theorem opr_in (c : Cal X w) : OpR X (compareOp .In) (r2Of w Pin) := by
  intro pins s σ H x y v u Q I rx ry ⟨G, vs, o, z, le, rr, hp, q⟩
  unfold Pin at hp
  split at hp
  · obtain ⟨_, _, e, r1, r2⟩ := rreps_two rr
    cases e
    split at hp
    · rename_i k hk
      cases hp
      exact (in_run c I rx ry le r1 r2 (.inl hk)).1 (bl_new le q)
    · rw [Option.map_eq_some_iff] at hp
      obtain ⟨k, hk, e⟩ := hp
      cases e
      exact (in_run c I rx ry le r1 r2 (.inr hk)).1 (bl_new le q)
  · cases hp
theorem opr_notIn (c : Cal X w) : OpR X (compareOp .NotIn) (r2Of w PnotIn) := by
  intro pins s σ H x y v u Q I rx ry ⟨G, vs, o, z, le, rr, hp, q⟩
  unfold PnotIn at hp
  split at hp
  · obtain ⟨_, _, e, r1, r2⟩ := rreps_two rr
    cases e
    split at hp
    · rename_i k hk
      cases hp
      exact (in_run c I rx ry le r1 r2 (.inl hk)).2 (bl_new le q)
    · rw [Option.map_eq_some_iff] at hp
      obtain ⟨k, hk, e⟩ := hp
      cases e
      exact (in_run c I rx ry le r1 r2 (.inr hk)).2 (bl_new le q)
  · cases hp
end
end M
namespace M
open PySem L2

def tyOf : Val → Option String
  | .non => some "NoneType"
  | .bl _ => some "bool"
  | .int _ => some "int"
  | .str _ => some "str"
  | .tup _ => some "tuple"
  | .lst _ => some "list"
  | .scr _ => some "list"
  | .dct _ _ => some "dict"
  | _ => none
def Pisi : List Val → Option (Bool × Val)
  | [v, .ty T] => match tyOf v with
    | some a => (kitB a T).map fun b => (false, .bl b)
    | none => none
  | _ => none
def Plen : List Val → Option (Bool × Val)
  | [.str s] => some (false, .int s.length)
  | [.lst ds] => some (false, .int ds.length)
  | [.tup ds] => some (false, .int ds.length)
  | [.scr ns] => some (false, .int ns.length)
  | _ => none
def Pabs : List Val → Option (Bool × Val)
  | [.int i] => some (false, .int (if i < 0 then -i else i))
  | _ => none
def Pint : List Val → Option (Bool × Val)
  | [.int i] => some (false, .int i)
  | [.bl b] => some (false, .int (if b then 1 else 0))
  | _ => none
def Prepr : List Val → Option (Bool × Val)
  | [v] => match toD v with
    | some d => if d.showable = true ∧ d.hasDict = false ∧ d.depth ≤ 60 ∧ d.shown.length ≤ sizeLine then some (false, .str d.shown) else none
    | none => none
  | _ => none
def asBls : List Val → Option (List Bool)
  | [] => some []
  | .bl b :: vs => (asBls vs).map (b :: ·)
  | _ => none
def asStrs : List Val → Option (List Str)
  | [] => some []
  | .str b :: vs => (asStrs vs).map (b :: ·)
  | _ => none
def Pall : List Val → Option (Bool × Val)
  | [.lst ds] => (asBls ds).map fun bs => (false, .bl (bs.all id))
  | _ => none
def Pany : List Val → Option (Bool × Val)
  | [.lst ds] => (asBls ds).map fun bs => (false, .bl (bs.any id))
  | _ => none
def Plist : List Val → Option (Bool × Val)
  | [.lst ds] => some (true, .lst ds)
  | [.tup ds] => some (true, .lst ds)
  | [.scr ns] => some (true, .lst (ns.map .int))
  | _ => none
def Ptuple : List Val → Option (Bool × Val)
  | [.lst ds] => some (false, .tup ds)
  | [.tup ds] => some (false, .tup ds)
  | _ => none
theorem asBls_some : ∀ {vs : List Val} {bs : List Bool}, asBls vs = some bs → vs = bs.map .bl
  | [], _, h => by simp only [asBls, Option.some.injEq] at h; subst h; rfl
  | .bl b :: vs, _, h => by
    simp only [asBls, Option.map_eq_some_iff] at h
    obtain ⟨c, e, rfl⟩ := h
    rw [asBls_some e]; rfl
  | .non :: _, _, h => by cases h
  | .int _ :: _, _, h => by cases h
  | .str _ :: _, _, h => by cases h
  | .tup _ :: _, _, h => by cases h
  | .lst _ :: _, _, h => by cases h
  | .dct _ _ :: _, _, h => by cases h
  | .obj _ _ :: _, _, h => by cases h
  | .ty _ :: _, _, h => by cases h
  | .cls _ :: _, _, h => by cases h
  | .exc _ _ :: _, _, h => by cases h
  | .scr _ :: _, _, h => by cases h
theorem asStrs_some : ∀ {vs : List Val} {bs : List Str}, asStrs vs = some bs → vs = bs.map .str
  | [], _, h => by simp only [asStrs, Option.some.injEq] at h; subst h; rfl
  | .str b :: vs, _, h => by
    simp only [asStrs, Option.map_eq_some_iff] at h
    obtain ⟨c, e, rfl⟩ := h
    rw [asStrs_some e]; rfl
  | .non :: _, _, h => by cases h
  | .int _ :: _, _, h => by cases h
  | .bl _ :: _, _, h => by cases h
  | .tup _ :: _, _, h => by cases h
  | .lst _ :: _, _, h => by cases h
  | .dct _ _ :: _, _, h => by cases h
  | .obj _ _ :: _, _, h => by cases h
  | .ty _ :: _, _, h => by cases h
  | .cls _ :: _, _, h => by cases h
  | .exc _ _ :: _, _, h => by cases h
  | .scr _ :: _, _, h => by cases h

section
variable {X : Cx} {w : Wd}
/-- a list or the script, as it is read -/
theorem rrep_seq (c : Cal X w) {G H : Hp} {v : Val} {x : V} {ds : List Val} (le : Le G H) (r : RRep w G H v x) (h : Plist [v] = some (true, .lst ds)) : ∃ p ys, x = .ref p ∧ (SqL X.K H p ys ∨ SqT X.K H p ys) ∧ Reps w G ds ys := by
  unfold Plist at h
  split at h
  · rename_i e; cases e; cases h
    obtain ⟨a, xs, rfl, q, r⟩ := rrep_lst le r
    exact ⟨a, xs, rfl, .inl (.inl (.inl q)), r⟩
  · rename_i e; cases e; cases h
    obtain ⟨a, xs, rfl, q, r⟩ := rrep_tup le r
    rw [c.K] at q
    exact ⟨a, xs, rfl, .inr q, r⟩
  · rename_i e; cases e; cases h
    obtain ⟨a, rfl, q⟩ := rrep_scr le r
    rw [c.K] at q
    exact ⟨a, _, rfl, .inl q, reps_of_ints⟩
  · cases h
theorem kit_val (c : Cal X w) {pins : List (Addr × Obj)} {s : Shared} {σ : L2.St} {G H : Hp} {v : Val} {x : V} {u : Value} {T : String} (I : Inv X pins σ H s) (rx : RelV x u) (le : Le G H) (r : RRep w G H v x) (h : tyOf v = some T) :
    ∃ P : Heap → Prop, PySem.W.KitX X.K u (.type T) P ∧ P s.heap ∧ u ≠ .builtin "__main__.__loader__#opaque" := by
  cases v with
  | non => cases h; obtain rfl := rrep_non r; exact kit_of I rx (.base .non)
  | bl b => cases h; obtain rfl := rrep_bl r; exact kit_of I rx (.base (.bl b))
  | int i => cases h; obtain rfl := rrep_int r; exact kit_of I rx (.base (.int i))
  | str y => cases h; obtain ⟨rfl, _⟩ := rrep_str r; exact kit_of I rx (.base (.str y))
  | tup ds =>
    cases h
    obtain ⟨a, xs, rfl, q, _⟩ := rrep_tup le r
    rw [c.K] at q
    obtain ⟨its, _, ⟨o, ho, hc, _⟩, _⟩ := I.tuple q
    cases (show u = Value.ref a from rx)
    exact ⟨_, PySem.W.kitx_tuple, ⟨o, ho, hc⟩, fun z => nomatch z⟩
  | lst ds => cases h; obtain ⟨a, xs, rfl, q, _⟩ := rrep_lst le r; exact kit_of I rx (.base (.lst q))
  | scr ns =>
    cases h
    obtain ⟨a, rfl, q⟩ := rrep_scr le r
    rw [c.K] at q
    obtain ⟨its, _, ⟨o, n, ho, hc, _⟩, _⟩ := I.list q
    cases (show u = Value.ref a from rx)
    exact ⟨_, PySem.W.kitx_list, ⟨o, ho, hc⟩, fun z => nomatch z⟩
  | dct t kvs =>
    cases h
    obtain ⟨a, rfl, q⟩ := rrep_dct le r
    cases (show u = Value.ref a from rx)
    have dK : ∀ {kvs : List (Key × V)}, ObjOk X.prog X.w H s.heap a (.dK kvs) → ∃ o, s.heap.get? a = some o ∧ o.cls = .type "dict" := fun {kvs} h => by
      obtain ⟨_, _, vs, _, o, es, ep, h1, h2, _⟩ := h
      exact ⟨o, h1, h2.1⟩
    have dT : ∀ {kvs : List (NestedKey × V × V)}, ObjOk X.prog X.w H s.heap a (DX w.W a kvs) → ∃ o, s.heap.get? a = some o ∧ o.cls = .type "dict" := fun {kvs} h => by
      obtain ⟨⟨o, es, ep, h1, h2, _⟩, _⟩ := h
      exact ⟨o, h1, h2.1⟩
    have : ∃ o, s.heap.get? a = some o ∧ o.cls = .type "dict" := by
      rcases q with ⟨_, kvs, q | ⟨ob, q⟩, _⟩ | ⟨_, kvs, q, _⟩
      · exact dK (I.hok a _ q)
      · exact dK (I.hok a _ q).2
      · exact dT (I.hok a _ q)
    exact ⟨_, PySem.W.kitx_dict, this, fun z => nomatch z⟩
  | _ => cases h
theorem bi_isi (c : Cal X w) : CallR X (.builtin "isinstance") (rOf w Pisi) := by
  intro pins s σ H xs us Q I r ⟨G, vs, o, z, le, rr, hp, q⟩
  unfold Pisi at hp
  split at hp
  · rename_i T
    obtain ⟨x, y, e, r1, r2⟩ := rreps_two rr
    subst e
    split at hp
    · rename_i a ha
      rw [Option.map_eq_some_iff] at hp
      obtain ⟨b, hb, e⟩ := hp
      cases e
      obtain rfl := rrep_ty r2
      obtain ⟨u1, u2, rfl, q1, q2⟩ := vals2 r
      cases (show u2 = Value.type T from q2)
      obtain ⟨P, Z, p, hx⟩ := kit_val c I q1 le r1 ha
      exact PySem.W.kia_one Z I.kIn p (kit_ty hb) hx fun tk => ⟨.bl b, H, I.tok tk, rfl, bl_new le q⟩
    · cases hp
  · cases hp
theorem bi_len (c : Cal X w) : CallR X (.builtin "len") (rOf w Plen) := by
  intro pins s σ H xs us Q I r ⟨G, vs, o, z, le, rr, hp, q⟩
  unfold Plen at hp
  split at hp
  · obtain ⟨x, e, r1⟩ := rreps_one rr
    subst e; cases hp
    obtain ⟨rfl, hz⟩ := rrep_str r1
    exact call_len pins s σ H _ us Q I r ⟨_, _, rfl, ⟨hz, rfl⟩, int_new le q⟩
  · obtain ⟨x, e, r1⟩ := rreps_one rr
    subst e; cases hp
    obtain ⟨a, xs, rfl, h, rs⟩ := rrep_lst le r1
    rw [reps_length rs] at q
    exact call_len pins s σ H _ us Q I r ⟨_, _, rfl, .inl ⟨xs, .inl (.inl h), rfl⟩, int_new le q⟩
  · obtain ⟨x, e, r1⟩ := rreps_one rr
    subst e; cases hp
    obtain ⟨a, xs, rfl, h, rs⟩ := rrep_tup le r1
    rw [c.K] at h
    rw [reps_length rs] at q
    exact call_len pins s σ H _ us Q I r ⟨_, _, rfl, .inr ⟨xs, h, rfl⟩, int_new le q⟩
  · obtain ⟨x, e, r1⟩ := rreps_one rr
    subst e; cases hp
    obtain ⟨a, rfl, h⟩ := rrep_scr le r1
    rw [c.K] at h
    rename_i ns
    have e : ns.length = (ns.map V.int).length := by simp
    rw [e] at q
    exact call_len pins s σ H _ us Q I r ⟨_, _, rfl, .inl ⟨_, h, rfl⟩, int_new le q⟩
  · cases hp
theorem bi_abs : CallR X (.builtin "abs") (rOf w Pabs) := by
  intro pins s σ H xs us Q I r ⟨G, vs, o, z, le, rr, hp, q⟩
  unfold Pabs at hp
  split at hp
  · obtain ⟨x, e, r1⟩ := rreps_one rr
    subst e; cases hp
    obtain rfl := rrep_int r1
    exact call_abs pins s σ H _ us Q I r ⟨_, rfl, int_new le q⟩
  · cases hp
theorem bi_int : CallR X (.type "int") (rOf w Pint) := by
  intro pins s σ H xs us Q I r ⟨G, vs, o, z, le, rr, hp, q⟩
  unfold Pint at hp
  split at hp
  · obtain ⟨x, e, r1⟩ := rreps_one rr
    subst e; cases hp
    obtain rfl := rrep_int r1
    exact call_int1 pins s σ H _ us Q I r (.inl ⟨_, rfl, int_new le q⟩)
  · obtain ⟨x, e, r1⟩ := rreps_one rr
    subst e; cases hp
    obtain rfl := rrep_bl r1
    exact call_int1 pins s σ H _ us Q I r (.inr ⟨_, rfl, int_new le q⟩)
  · cases hp
theorem bi_all (c : Cal X w) : CallR X (.builtin "all") (rOf w Pall) := by
  intro pins s σ H xs us Q I r ⟨G, vs, o, z, le, rr, hp, q⟩
  unfold Pall at hp
  split at hp
  · obtain ⟨x, e, r1⟩ := rreps_one rr
    subst e
    rw [Option.map_eq_some_iff] at hp
    obtain ⟨bs, hb, e⟩ := hp
    cases e
    obtain ⟨a, xs, rfl, h, rs⟩ := rrep_lst le r1
    rw [asBls_some hb] at rs
    rw [reps_bls rs] at h
    exact cr_all c.calm pins s σ H _ us Q I r ⟨a, bs, rfl, .inl (.inl h), bl_new le q⟩
  · cases hp
theorem bi_any (c : Cal X w) : CallR X (.builtin "any") (rOf w Pany) := by
  intro pins s σ H xs us Q I r ⟨G, vs, o, z, le, rr, hp, q⟩
  unfold Pany at hp
  split at hp
  · obtain ⟨x, e, r1⟩ := rreps_one rr
    subst e
    rw [Option.map_eq_some_iff] at hp
    obtain ⟨bs, hb, e⟩ := hp
    cases e
    obtain ⟨a, xs, rfl, h, rs⟩ := rrep_lst le r1
    rw [asBls_some hb] at rs
    rw [reps_bls rs] at h
    exact cr_any c.calm pins s σ H _ us Q I r ⟨a, bs, rfl, .inl (.inl h), bl_new le q⟩
  · cases hp
theorem bi_list (c : Cal X w) : CallR X (.type "list") (rOf w Plist) := by
  intro pins s σ H xs us Q I r ⟨G, vs, o, z, le, rr, hp, q⟩
  have shape : ∃ v ds, vs = [v] ∧ o = true ∧ z = .lst ds := by
    unfold Plist at hp
    split at hp <;> first | (cases hp; exact ⟨_, _, rfl, rfl, rfl⟩) | cases hp
  obtain ⟨v, ds, rfl, rfl, rfl⟩ := shape
  obtain ⟨x, e, r1⟩ := rreps_one rr
  subst e
  obtain ⟨p, ys, rfl, hs, rs⟩ := rrep_seq c le r1 hp
  exact call_list_of pins s σ H _ us Q I r ⟨p, ys, rfl, hs, fun l hl => new_lst le hl rs q⟩
theorem bi_tuple (c : Cal X w) : CallR X (.type "tuple") (rOf w Ptuple) := by
  intro pins s σ H xs us Q I r ⟨G, vs, o, z, le, rr, hp, q⟩
  unfold Ptuple at hp
  split at hp
  · obtain ⟨x, e, r1⟩ := rreps_one rr
    subst e; cases hp
    obtain ⟨a, xs, rfl, h, rs⟩ := rrep_lst le r1
    refine call_tuple_of pins s σ H _ us Q I r ⟨a, xs, rfl, .inl ⟨.inl (.inl h), fun p hp => ?_⟩⟩
    have gr := Grow.laidG (o := .tup xs) le hp
    exact q _ _ _ gr (nrep_f (rep_tup.mpr ⟨p, xs, rfl, SqT.of upd_same, rs.mono gr.g⟩))
  · obtain ⟨x, e, r1⟩ := rreps_one rr
    subst e; cases hp
    have r0 := r1
    obtain ⟨a, xs, rfl, h, rs⟩ := rrep_tup le r1
    rw [c.K] at h
    refine call_tuple_of pins s σ H _ us Q I r ⟨a, xs, rfl, .inr ⟨h, ?_⟩⟩
    refine q _ _ _ (Grow.refl le) (nrep_f ?_)
    rcases r0 with r0 | ⟨_, _, r0⟩
    · exact r0
    · exact r0.elim
  · cases hp
theorem bi_repr (c : Cal X w) : CallR X (.builtin "repr") (rOf w Prepr) := by
  intro pins s σ H xs us Q I r ⟨G, vs, o, z, le, rr, hp, q⟩
  unfold Prepr at hp
  split at hp
  · obtain ⟨x, e, r1⟩ := rreps_one rr
    subst e
    split at hp
    · rename_i d hd
      split at hp
      · rename_i hc
        cases hp
        obtain ⟨h1, h2, h3, h4⟩ := hc
        obtain ⟨u, rfl, ru⟩ := vals1 r
        have dp := dp_rrep c.K le r1 hd
        have fin : ∀ s', Inv X pins σ H s' → ∀ t, EP X pins σ Q (.str d.shown t) s' := fun s' J t => ⟨.str d.shown, H, J, ⟨_, rfl⟩, str_new le h4 q⟩
        cases dp with
        | non => cases ru; exact PySem.P.repr_of_none (by have := fin { s with toks := s.toks + 1 } (I.tok _) s.toks; simpa only [PyData.shown] using this)
        | bl b => cases ru; exact PySem.P.repr_of_bool (by have := fin { s with toks := s.toks + 1 } (I.tok _) s.toks; simpa only [PyData.shown] using this)
        | int i => obtain ⟨t, rfl⟩ := ru; exact PySem.P.repr_of_int (by simpa [PyData.showable] using h1) (by have := fin { s with toks := s.toks + 1 } (I.tok _) s.toks; simpa only [PyData.shown] using this)
        | str y => obtain ⟨t, rfl⟩ := ru; exact PySem.P.repr_of_str (by have := fin { s with toks := s.toks + 1 } (I.tok _) s.toks; simpa only [PyData.shown] using this) (by simpa only [PyData.shown] using h4)
        | @lst a ys ds hs ha =>
          cases ru
          obtain ⟨as, rd⟩ := Dp.reads I _ _ _ (Dp.lst hs ha) (show RelV (.ref a) (.ref a) from rfl)
          refine PySem.repr_of_reads' rd h1 (PyData.noDict_hsm h2) c.gs (by have := c.un; omega) (fun b o e => e) (fun h' u tk hk => fin _ (I.kept (t' := tk) hk) u) h4
        | @tup a ys ds hs ha =>
          cases ru
          obtain ⟨as, rd⟩ := Dp.reads I _ _ _ (Dp.tup hs ha) (show RelV (.ref a) (.ref a) from rfl)
          refine PySem.repr_of_reads' rd h1 (PyData.noDict_hsm h2) c.gs (by have := c.un; omega) (fun b o e => e) (fun h' u tk hk => fin _ (I.kept (t' := tk) hk) u) h4
      · cases hp
    · cases hp
  · cases hp
end
end M
namespace M
open PySem L2

def keyIs : Key → Val → Bool
  | .inl i, .int j => i == j
  | .inr s, .str t => s == t
  | _, _ => false
def keyOf : Val → Option Key
  | .int i => some (.inl i)
  | .str s => some (.inr s)
  | _ => none
def dGet (kvs : List (Val × Val)) (q : Key) : Option Val := (kvs.find? fun p => keyIs q p.1).map (·.2)
def dPut (kvs : List (Val × Val)) (q : Key) (v : Val) : List (Val × Val) := if (kvs.any fun p => keyIs q p.1) = true then kvs.map (fun p => if keyIs q p.1 = true then (p.1, v) else p) else kvs ++ [(kv q, v)]
theorem keyIs_kv (q q' : Key) : keyIs q (kv q') = decide (q' = q) := by
  cases q <;> cases q' <;> simp [keyIs, kv] <;> (rw [Bool.eq_iff_iff]; simp; exact ⟨Eq.symm, Eq.symm⟩)
section
variable {w : Wd} {G : Hp}
theorem repK_get (q : Key) : ∀ {ds : List (Val × Val)} {kvs : List (Key × V)}, RepK w G ds kvs → (∀ d, dGet ds q = some d → ∃ x, valV kvs q = some x ∧ Rep w G d x) ∧ (dGet ds q = none → valV kvs q = none)
  | [], kvs, r => by
    rw [RepK] at r; subst r
    exact ⟨fun d h => by simp [dGet] at h, fun _ => rfl⟩
  | (k, d) :: ds, kvs, r => by
    rw [RepK] at r
    obtain ⟨q', y, ys, rfl, ⟨rfl, _⟩, r1, r2⟩ := r
    obtain ⟨i1, i2⟩ := repK_get q r2
    by_cases e : q' = q
    · have hk : keyIs q (kv q') = true := by rw [keyIs_kv]; exact decide_eq_true e
      refine ⟨fun d' h => ?_, fun h => ?_⟩
      · simp [dGet, List.find?_cons, hk] at h
        subst h
        exact ⟨y, valV_pos e, r1⟩
      · simp [dGet, List.find?_cons, hk] at h
    · have hk : keyIs q (kv q') = false := by rw [keyIs_kv]; exact decide_eq_false e
      have e2 : dGet ((kv q', d) :: ds) q = dGet ds q := by simp [dGet, List.find?_cons, hk]
      rw [e2, valV_neg e]
      exact ⟨i1, i2⟩
theorem repK_length : ∀ {ds : List (Val × Val)} {kvs : List (Key × V)}, RepK w G ds kvs → ds.length = kvs.length
  | [], _, r => by rw [RepK] at r; subst r; rfl
  | (k, d) :: ds, _, r => by
    rw [RepK] at r
    obtain ⟨q', y, ys, rfl, _, _, r2⟩ := r
    simp [repK_length r2]
theorem repK_any (q : Key) : ∀ {ds : List (Val × Val)} {kvs : List (Key × V)}, RepK w G ds kvs → (ds.any fun p => keyIs q p.1) = kvs.any fun kv => decide (kv.1 = q)
  | [], _, r => by rw [RepK] at r; subst r; rfl
  | (k, d) :: ds, _, r => by
    rw [RepK] at r
    obtain ⟨q', y, ys, rfl, ⟨rfl, _⟩, _, r2⟩ := r
    rw [List.any_cons, List.any_cons, repK_any q r2, keyIs_kv]
theorem repK_map {q : Key} {d : Val} {x : V} (rv : Rep w G d x) : ∀ {ds : List (Val × Val)} {kvs : List (Key × V)}, RepK w G ds kvs → RepK w G (ds.map fun p => if keyIs q p.1 = true then (p.1, d) else p) (kvs.map fun kv => if kv.1 = q then (kv.1, x) else kv)
  | [], _, r => by rw [RepK] at r; subst r; rw [List.map_nil, List.map_nil, RepK]
  | (k, e) :: ds, _, r => by
    rw [RepK] at r
    obtain ⟨q', y, ys, rfl, ⟨rfl, hb⟩, r1, r2⟩ := r
    rw [List.map_cons, List.map_cons]
    by_cases h : q' = q
    · subst h
      have hk : keyIs q' (kv q') = true := by rw [keyIs_kv]; exact decide_eq_true rfl
      simp only [hk, if_true]
      rw [RepK]
      exact ⟨q', x, _, rfl, ⟨rfl, hb⟩, rv, repK_map rv r2⟩
    · have hk : keyIs q (kv q') = false := by rw [keyIs_kv]; exact decide_eq_false h
      simp only [hk, h, Bool.false_eq_true, if_false]
      rw [RepK]
      exact ⟨q', y, _, rfl, ⟨rfl, hb⟩, r1, repK_map rv r2⟩
theorem repK_app : ∀ {ds es : List (Val × Val)} {xs ys : List (Key × V)}, RepK w G ds xs → RepK w G es ys → RepK w G (ds ++ es) (xs ++ ys)
  | [], _, _, _, r, q => by rw [RepK] at r; subst r; simpa using q
  | (k, d) :: ds, _, _, _, r, q => by
    rw [RepK] at r
    obtain ⟨q', y, zs, rfl, hb, r1, r2⟩ := r
    rw [List.cons_append, List.cons_append, RepK]
    exact ⟨q', y, _, rfl, hb, r1, repK_app r2 q⟩
theorem repK_put {q : Key} {d : Val} {x : V} {ds : List (Val × Val)} {kvs : List (Key × V)} (r : RepK w G ds kvs) (hb : kb q) (rv : Rep w G d x) : RepK w G (dPut ds q d) (putK kvs q x) := by
  unfold dPut putK
  rw [repK_any q r]
  split
  · exact repK_map rv r
  · refine repK_app r ?_
    rw [RepK]
    exact ⟨q, x, [], rfl, ⟨rfl, hb⟩, rv, by rw [RepK]⟩
theorem rrep_key {H : Hp} {v : Val} {x : V} {q : Key} (r : RRep w G H v x) (h : keyOf v = some q) : x = kV q ∧ kb q := by
  cases v <;> simp [keyOf] at h
  · subst h; exact ⟨rrep_int r, True.intro⟩
  · subst h; exact rrep_str r
end

def Pix : List Val → Option (Bool × Val)
  | [.lst ds, .int i] => (atI ds i).map fun d => (false, d)
  | [.tup ds, .int i] => (atI ds i).map fun d => (false, d)
  | [.str z, .int i] => (atI z.cps.toList i).map fun c => (false, .str ⟨#[c]⟩)
  | [.scr ns, .int i] => (atI ns i).map fun n => (false, .int n)
  | [.dct false kvs, k] => match keyOf k with
    | some q => (dGet kvs q).map fun d => (false, d)
    | none => none
  | _ => none
theorem atI_reps {w : Wd} {G : Hp} {ds : List Val} {xs : List V} {i : Int} {d : Val} (r : Reps w G ds xs) (h : atI ds i = some d) : ∃ x, atI xs i = some x ∧ Rep w G d x := by
  unfold atI at h ⊢
  rw [← reps_length r]
  cases e : ixN ds.length i with
  | none => rw [e] at h; cases h
  | some j => rw [e] at h; exact reps_get r h
theorem atI_map {α β : Type} (f : α → β) (xs : List α) (i : Int) : atI (xs.map f) i = (atI xs i).map f := by
  unfold atI
  rw [List.length_map]
  cases ixN xs.length i with
  | none => rfl
  | some j => simp
theorem ixr_ix {X : Cx} {w : Wd} (c : Cal X w) : IxR X (r2Of w Pix) := by
  intro value slice pins s σ H x y v u Q I rx ry ⟨G, vs, o, z, le, rr, hp, q⟩ hs
  have fz : ∀ {d : Val} {a : V}, Rep w G d a → (∀ u G' H', Grow G H G' H' → NRep w G H G' H' false d u → Q u H') → Q a H := fun r q => q _ G H (Grow.refl le) (nrep_f r)
  unfold Pix at hp
  split at hp
  · obtain ⟨_, _, e, r1, r2⟩ := rreps_two rr
    cases e
    rw [Option.map_eq_some_iff] at hp
    obtain ⟨d, hd, e⟩ := hp
    cases e
    obtain ⟨a, xs, rfl, h, rs⟩ := rrep_lst le r1
    obtain rfl := rrep_int r2
    obtain ⟨b, hb, rb⟩ := atI_reps rs hd
    exact ix_list value slice pins s σ H _ _ v u Q I rx ry ⟨a, xs, _, b, rfl, rfl, .inl (.inl h), hb, fz rb q⟩ hs
  · obtain ⟨_, _, e, r1, r2⟩ := rreps_two rr
    cases e
    rw [Option.map_eq_some_iff] at hp
    obtain ⟨d, hd, e⟩ := hp
    cases e
    obtain ⟨a, xs, rfl, h, rs⟩ := rrep_tup le r1
    obtain rfl := rrep_int r2
    obtain ⟨b, hb, rb⟩ := atI_reps rs hd
    rw [c.K] at h
    exact ix_tup value slice pins s σ H _ _ v u Q I rx ry ⟨a, xs, _, b, rfl, rfl, h, hb, fz rb q⟩ hs
  · obtain ⟨_, _, e, r1, r2⟩ := rreps_two rr
    cases e
    rw [Option.map_eq_some_iff] at hp
    obtain ⟨d, hd, e⟩ := hp
    cases e
    obtain ⟨rfl, hz⟩ := rrep_str r1
    obtain rfl := rrep_int r2
    exact ix_str value slice pins s σ H _ _ v u Q I rx ry ⟨_, _, _, rfl, rfl, hz, hd, fz (rep_str.mpr ⟨rfl, by show 1 ≤ sizeLine; rw [PySem.sizeLine_eq]; decide⟩) q⟩ hs
  · obtain ⟨_, _, e, r1, r2⟩ := rreps_two rr
    cases e
    rw [Option.map_eq_some_iff] at hp
    obtain ⟨d, hd, e⟩ := hp
    cases e
    obtain ⟨a, rfl, h⟩ := rrep_scr le r1
    obtain rfl := rrep_int r2
    rw [c.K] at h
    exact ix_list value slice pins s σ H _ _ v u Q I rx ry ⟨a, _, _, .int d, rfl, rfl, h, by rw [atI_map, hd]; rfl, fz (rep_int.mpr rfl) q⟩ hs
  · obtain ⟨_, _, e, r1, r2⟩ := rreps_two rr
    cases e
    split at hp
    · rename_i k hk
      rw [Option.map_eq_some_iff] at hp
      obtain ⟨d, hd, e⟩ := hp
      cases e
      obtain ⟨rfl, _⟩ := rrep_key r2 hk
      obtain ⟨a, rfl, ⟨_, kvs, h, rk⟩ | ⟨ht, _⟩⟩ := rrep_dct le r1
      · obtain ⟨b, hb, rb⟩ := (repK_get k rk).1 _ hd
        have g : DGet H a (kV k) (some b) := .inl ⟨kvs, k, h, rfl, hb.symm⟩
        cases (show v = Value.ref a from rx)
        exact PyProof.Rows.tail_any (dict_typeIs I g) PySem.F.slot_dict_getitem.lookup (d_getItem (by have := c.un; omega) I g ry fun w' s3 I3 rw' => ⟨b, H, I3, rw', fz rb q⟩) hs
      · cases ht
    · cases hp
  · cases hp

def cutA {α : Type} (xs : List α) (lo hi : Option Int) : List α := (xs.drop (HT.sIx xs.length 0 lo)).take (HT.sIx xs.length xs.length hi - HT.sIx xs.length 0 lo)
def Psl : Val → Option Int → Option Int → Option (Bool × Val)
  | .str z, lo, hi => some (false, .str (cutS z lo hi))
  | .lst ds, lo, hi => some (true, .lst (cutA ds lo hi))
  | .tup ds, lo, hi => some (false, .tup (cutA ds lo hi))
  | .scr ns, lo, hi => some (true, .lst ((cutA ns lo hi).map .int))
  | _, _, _ => none
inductive PR where
  | ok (i : Option Int) (r : Env) | ex (e : Val) (r : Env) | bad
abbrev PF := Env → PR
def pNo : PF := fun r => .ok none r
def pInt (f : EF) : PF := fun r => match f r with
  | .ok _ v r' => match v with
    | .int i => .ok (some i) r'
    | _ => .bad
  | .ex e r' => .ex e r'
  | .bad => .bad
def tP (A : Act) (W : WX) (f : PF) : TO := fun σ H Q => ∃ r G, Ok A G H σ r ∧ match f r with
  | .ok i r' => ∀ G' H', Ok A G' H' σ r' → Step σ r G H r' G' H' → Q i H'
  | .ex e r' => ExP A W G σ e r'
  | .bad => False
theorem PO.imp {X : Cx} {e : Option Expr} {t t' : TO} (h : PO X e t) (hi : ∀ σ H Q, t' σ H Q → t σ H Q) : PO X e t' := ⟨fun pins s σ H Q I q => h.run pins s σ H Q I (hi _ _ _ q)⟩
def slc (fo : OF) (fl fu : PF) : EF := fun r => match fo r with
  | .ok h r1 => match fl r1 with
    | .ok lo r2 => match fu r2 with
      | .ok hi r3 => match h.get r3 with
        | some v => match Psl v lo hi with
          | some (o, z) => .ok o z r3
          | none => .bad
        | none => .bad
      | .ex e r3 => .ex e r3
      | .bad => .bad
    | .ex e r2 => .ex e r2
    | .bad => .bad
  | .ex e r1 => .ex e r1
  | .bad => .bad
section
variable {X : Cx} {A : Act} {W : WX} {e : Expr} {f : EF} {fo : OF} {fl fu : PF} {lo hi : Option Expr} {p2 pos : Pos}
theorem po_pNo : PO X none (tP A W pNo) := PO.imp po_none fun σ H Q ⟨r, G, k, m⟩ => m G H k Step.refl
theorem po_pInt (h : PE X e (tE A W f)) : PO X (some e) (tP A W (pInt f)) := PO.imp (po_some h) fun σ H Q ⟨r, G, k, m⟩ => ⟨r, G, k, by
  unfold pInt at m
  cases hf : f r with
  | bad => rw [hf] at m; exact m.elim
  | ex e r' => rw [hf] at m; exact m
  | ok o v r' =>
    simp only [hf] at m
    intro x G1 H1 R
    cases v with
    | int i =>
      have ex : x = .int i := by
        have t := R.tr
        cases o with
        | true => obtain ⟨_, _, ro, _⟩ := t; exact ro.elim
        | false => exact rep_int.mp (show Rep A.w G1 (.int i) x from t)
      exact ⟨i, ex, m G1 H1 R.ok R.st⟩
    | _ => exact False.elim m⟩
theorem reps_cut {w : Wd} {G : Hp} {ds : List Val} {xs : List V} (r : Reps w G ds xs) (lo hi : Option Int) : Reps w G (cutA ds lo hi) (cutV xs lo hi) := by
  unfold cutA cutV
  rw [reps_length r]
  exact reps_take _ (reps_drop _ r)
theorem cut_whole {α : Type} (xs : List α) {lo hi : Option Int} (h : HT.sIx xs.length 0 lo = 0 ∧ HT.sIx xs.length xs.length hi = xs.length) : cutA xs lo hi = xs := by
  unfold cutA
  rw [h.1, h.2]
  simp
/-- HandS's reading of a slice, of values -/
def rSl (w : Wd) : V → Option Int → Option Int → Hp → VK → Prop := fun x lo hi H Q => ∃ G v o z, Le G H ∧ RRep w G H v x ∧ Psl v lo hi = some (o, z) ∧ ∀ u G' H', Grow G H G' H' → NRep w G H G' H' o z u → Q u H'
theorem sl_val {w : Wd} (c : Cal X w) : SlR X (rSl w) := by
  intro pins s σ H x v vl vu lo hi sl Q I rx hs pl pu ⟨G, a, o, z, le, r1, hp, q⟩
  unfold Psl at hp
  split at hp
  · cases hp
    obtain ⟨rfl, hz⟩ := rrep_str r1
    exact sl_str pins s σ H _ v vl vu lo hi sl Q I rx hs pl pu ⟨_, rfl, hz, q _ G H (Grow.refl le) (nrep_f (rep_str.mpr ⟨rfl, Nat.le_trans (cutS_length _ _ _) hz⟩))⟩
  · cases hp
    obtain ⟨a, xs, rfl, h, rs⟩ := rrep_lst le r1
    exact sl_list pins s σ H _ v vl vu lo hi sl Q I rx hs pl pu ⟨a, xs, rfl, .inl (.inl h), fun p hp => new_lst le hp (reps_cut rs lo hi) q⟩
  · cases hp
    have r0 := r1
    obtain ⟨a, xs, rfl, h, rs⟩ := rrep_tup le r1
    have hl := reps_length rs
    rw [c.K] at h
    refine sl_tupA pins s σ H _ v vl vu lo hi sl Q I rx hs pl pu ⟨a, xs, rfl, h, fun hw => ?_, fun hw p hp => ?_⟩
    · refine q _ G H (Grow.refl le) (nrep_f ?_)
      rw [← hl] at hw
      rw [cut_whole _ hw]
      rcases r0 with r0 | ⟨_, _, r0⟩
      · exact r0
      · exact r0.elim
    · have gr := Grow.laidG (o := .tup (cutV xs lo hi)) le hp
      exact q _ _ _ gr (nrep_f (rep_tup.mpr ⟨p, _, rfl, SqT.of upd_same, (reps_cut rs lo hi).mono gr.g⟩))
  · cases hp
    obtain ⟨a, rfl, h⟩ := rrep_scr le r1
    rw [c.K] at h
    rename_i ns
    refine sl_list pins s σ H _ v vl vu lo hi sl Q I rx hs pl pu ⟨a, _, rfl, h, fun p hp => new_lst le hp ?_ q⟩
    have e : cutV (ns.map V.int) lo hi = (cutA ns lo hi).map V.int := by
      unfold cutV cutA
      rw [List.length_map, ← List.map_drop, ← List.map_take]
    rw [e]
    exact reps_of_ints
  · cases hp
theorem pe_slc (c : Cal X A.w) (he : PE X e (tO A W fo)) (hl : PO X lo (tP A W fl)) (hu : PO X hi (tP A W fu)) : PE X (.Subscript e (.Slice lo hi none p2) pos) (tE A W (slc fo fl fu)) :=
  PE.imp (pe_slice (sl_val c) he hl hu) fun σ H Q ⟨r, G, k, m⟩ => ⟨r, G, k, by
    unfold slc at m
    cases hf : fo r with
    | bad => rw [hf] at m; exact m.elim
    | ex e r' => rw [hf] at m; exact m
    | ok h r1 =>
      simp only [hf] at m
      intro x G1 H1 k1 st1 t1
      refine ⟨r1, G1, k1, ?_⟩
      cases hg : fl r1 with
      | bad => simp only [hg] at m
      | ex e r2 => simp only [hg] at m ⊢; exact m.mono st1.ex
      | ok l r2 =>
        simp only [hg] at m ⊢
        intro G2 H2 k2 st2
        refine ⟨r2, G2, k2, ?_⟩
        cases hu' : fu r2 with
        | bad => simp only [hu'] at m
        | ex e r3 => simp only [hu'] at m ⊢; exact (m.mono st1.ex).mono st2.ex
        | ok u r3 =>
          simp only [hu'] at m ⊢
          intro G3 H3 k3 st3
          have st := (st1.trans st2).trans st3
          cases hv : h.get r3 with
          | none => simp only [hv] at m
          | some v =>
            simp only [hv] at m
            cases hp : Psl v l u with
            | none => simp only [hp] at m
            | some oz =>
              obtain ⟨o, z⟩ := oz
              simp only [hp] at m
              refine ⟨G3, v, o, z, k3.sub, ((t1.step st2).step st3).get k3 hv, hp, fun u' G4 H4 gr nr => ?_⟩
              refine m u' G4 H4 ⟨k3.grow gr, st.trans (gr.step k3), nr.trep k3 (Ok.growK gr), fun eo a ea b hb => ?_⟩
              subst eo
              obtain ⟨c, e1, _, n⟩ := nr
              rw [ea] at e1; cases e1
              exact st.fresh (n b hb).2⟩
end

def signs (z : Str) : List Val := z.cps.toList.map fun c => .str ⟨#[c]⟩
def itemsOf : Val → Option (List Val)
  | .lst ds => some ds
  | .tup ds => some ds
  | .scr ns => some (ns.map .int)
  | .str z => some (signs z)
  | .dct false kvs => some (kvs.map (·.1))
  | _ => none
def itV (f : EF) : IF := fun r => match frz f r with
  | .ok _ v r' => match itemsOf v with
    | some vs => .ok vs r'
    | none => .bad
  | .ex e r' => .ex e r'
  | .bad => .bad
def upTo (lo : Int) (n : Nat) : List Val := (List.range n).map fun (k : Nat) => Val.int (lo + (k : Int))
def rng1 : List Val → Option (List Val)
  | [.int j] => if smallI 4000000000000000000 j = true then some (upTo 0 j.toNat) else none
  | _ => none
def itR (q : List Val → Option (List Val)) (g : AF) : IF := fun r => match g r with
  | .ok vs r' => match q vs with
    | some us => .ok us r'
    | none => .bad
  | .ex e r' => .ex e r'
  | .bad => .bad
section
variable {w : Wd} {K : PySem.W.Frag} {G : Hp}
theorem itok_list {a : Addr} {ds : List Val} {xs : List V} (h : SqL K G a xs) (r : Reps w G ds xs) : ItOk w (Itl K a) G ds where
  go := fun G' H i le le' hi => by
    have : i < xs.length := by rw [← reps_length r]; exact hi
    exact ⟨xs, xs[i], sql_mono (le.trans le') h, by simp [this]⟩
  stop := fun G' H i le le' hi => ⟨xs, sql_mono (le.trans le') h, by rw [← reps_length r]; exact hi⟩
  yld := fun G' H i v x H' le le' hv ⟨e, hx⟩ => by
    subst e
    obtain ⟨y, e1, e2⟩ := reps_get r hv
    have := hx xs (sql_mono (le.trans le') h)
    rw [e1] at this; cases this
    exact ⟨G', Grow.refl le', e2.mono le⟩
theorem itok_tup {a : Addr} {ds : List Val} {xs : List V} (h : SqT K G a xs) (r : Reps w G ds xs) : ItOk w (Itt K a) G ds where
  go := fun G' H i le le' hi => by
    have : i < xs.length := by rw [← reps_length r]; exact hi
    exact ⟨xs, xs[i], sqt_mono (le.trans le') h, by simp [this]⟩
  stop := fun G' H i le le' hi => ⟨xs, sqt_mono (le.trans le') h, by rw [← reps_length r]; exact hi⟩
  yld := fun G' H i v x H' le le' hv ⟨e, hx⟩ => by
    subst e
    obtain ⟨y, e1, e2⟩ := reps_get r hv
    have := hx xs (sqt_mono (le.trans le') h)
    rw [e1] at this; cases this
    exact ⟨G', Grow.refl le', e2.mono le⟩
theorem itok_str (z : Str) : ItOk w (Its z) G (signs z) where
  go := fun G' H i le le' hi => by show i < z.cps.size; simpa [signs] using hi
  stop := fun G' H i le le' hi => by show z.cps.size ≤ i; simpa [signs] using hi
  yld := fun G' H i v x H' le le' hv ⟨e, c, hc, hx⟩ => by
    subst e
    subst hx
    have : z.cps.toList[i]? = some c := by rw [Array.getElem?_toList]; exact hc
    simp only [signs, List.getElem?_map, this, Option.map_some, Option.some.injEq] at hv
    subst hv
    exact ⟨G', Grow.refl le', rep_str.mpr ⟨rfl, by show 1 ≤ sizeLine; rw [PySem.sizeLine_eq]; decide⟩⟩
theorem itok_rng (lo : Int) (n : Nat) : ItOk w (Itr lo n) G (upTo lo n) where
  go := fun G' H i le le' hi => by show i < n; simpa [upTo] using hi
  stop := fun G' H i le le' hi => by show n ≤ i; simpa [upTo] using hi
  yld := fun G' H i v x H' le le' hv ⟨e, hx⟩ => by
    subst e
    subst hx
    have hi : i < n := by
      have := (List.getElem?_eq_some_iff.mp hv).1
      simpa [upTo] using this
    simp only [upTo, List.getElem?_map, List.getElem?_range hi, Option.map_some, Option.some.injEq] at hv
    subst hv
    exact ⟨G', Grow.refl le', rep_int.mpr rfl⟩
theorem repK_at : ∀ {ds : List (Val × Val)} {kvs : List (Key × V)} {i : Nat} {q : Key} {x : V}, RepK w G ds kvs → kvs[i]? = some (q, x) → ∃ d, ds[i]? = some (kv q, d) ∧ kb q ∧ Rep w G d x
  | [], _, _, _, _, r, h => by rw [RepK] at r; subst r; simp at h
  | (k, d) :: ds, _, i, q, x, r, h => by
    rw [RepK] at r
    obtain ⟨q', y, ys, rfl, ⟨rfl, hb⟩, r1, r2⟩ := r
    cases i with
    | zero => simp at h; obtain ⟨rfl, rfl⟩ := h; exact ⟨d, rfl, hb, r1⟩
    | succ i => obtain ⟨d', h1, h2⟩ := repK_at r2 (i := i) (by simpa using h); exact ⟨d', by simpa using h1, h2⟩
theorem rep_kv {q : Key} (hb : kb q) : Rep w G (kv q) (kV q) := by
  cases q with
  | inl i => exact rep_int.mpr rfl
  | inr s => exact rep_str.mpr ⟨rfl, hb⟩
theorem itok_keys {a : Addr} {o : Obj} {ds : List (Val × Val)} {kvs : List (Key × V)} (h : G a = some (.frz o (.dK kvs))) (r : RepK w G ds kvs) : ItOk w (Itk a o kvs) G (ds.map (·.1)) where
  go := fun G' H i le le' hi => ⟨le' _ _ (le _ _ h), by rw [← repK_length r]; simpa using hi⟩
  stop := fun G' H i le le' hi => ⟨le' _ _ (le _ _ h), by rw [← repK_length r]; simpa using hi⟩
  yld := fun G' H i v x H' le le' hv ⟨e, q, y, hk, hx⟩ => by
    subst e
    subst hx
    obtain ⟨d, h1, h2, _⟩ := repK_at r hk
    simp only [List.getElem?_map, h1, Option.map_some, Option.some.injEq] at hv
    subst hv
    exact ⟨G', Grow.refl le', rep_kv h2⟩
end
section
variable {X : Cx} {A : Act} {W : WX} {tg e : Expr} {f : EF} {g : AF}
theorem pi_V (hw : A.w.K = X.K) (he : PE X e (tE A W f)) : PI X tg e (tIt A W (itV f)) := by
  refine ⟨fun pins s σ H R I h => ?_⟩
  obtain ⟨r, G, k, m⟩ := h
  have h2 : tE A W (frz f) σ H fun x H1 => ∃ J, R J H1 ∧ ((∃ a xs, x = .ref a ∧ J = Itl X.K a ∧ SqL X.K H1 a xs) ∨ (∃ a xs, x = .ref a ∧ J = Itt X.K a ∧ SqT X.K H1 a xs) ∨ (∃ z, x = .str z ∧ J = Its z) ∨ ∃ a o kvs, x = .ref a ∧ J = Itk a o kvs ∧ H1 a = some (.frz o (.dK kvs))) := by
    refine ⟨r, G, k, ?_⟩
    unfold itV at m
    cases hf : frz f r with
    | bad => simp only [hf] at m
    | ex e r' => simp only [hf] at m ⊢; exact m
    | ok o v r' =>
      have eo := frz_false hf
      subst eo
      simp only [hf] at m ⊢
      intro x G1 H1 R1
      cases hi : itemsOf v with
      | none => simp only [hi] at m
      | some vs =>
        simp only [hi] at m
        have fin : ∀ J, ItOk A.w J G1 vs → R J H1 := fun J io => m J G1 H1 R1.ok R1.st io
        have rp : Rep A.w G1 v x := R1.tr
        have le := R1.ok.sub
        unfold itemsOf at hi
        split at hi
        · cases hi
          obtain ⟨a, xs, rfl, h, rs⟩ := rep_lst.mp rp
          exact ⟨_, fin _ (itok_list (K := X.K) (.inl (.inl h)) rs), .inl ⟨a, xs, rfl, rfl, .inl (.inl (le _ _ h))⟩⟩
        · cases hi
          obtain ⟨a, xs, rfl, h, rs⟩ := rep_tup.mp rp
          rw [hw] at h
          exact ⟨_, fin _ (itok_tup h rs), .inr (.inl ⟨a, xs, rfl, rfl, sqt_mono le h⟩)⟩
        · cases hi
          rw [Rep] at rp
          obtain ⟨a, rfl, h⟩ := rp
          rw [hw] at h
          exact ⟨_, fin _ (itok_list h reps_of_ints), .inl ⟨a, _, rfl, rfl, sql_mono le h⟩⟩
        · cases hi
          obtain ⟨rfl, _⟩ := rep_str.mp rp
          exact ⟨_, fin _ (itok_str _), .inr (.inr (.inl ⟨_, rfl, rfl⟩))⟩
        · cases hi
          rw [Rep] at rp
          obtain ⟨a, rfl, ⟨_, kvs, o, h, rk⟩ | ⟨ht, _⟩⟩ := rp
          · exact ⟨_, fin _ (itok_keys h rk), .inr (.inr (.inr ⟨a, o, kvs, rfl, rfl, le _ _ h⟩))⟩
          · cases ht
        · cases hi
  refine wpAny_mono ((pe_frz he).run pins s σ H _ I h2) (fun v s1 ⟨x, H1, I1, rx, J, hR, hx⟩ => ?_) fun _ _ z => z
  rcases hx with ⟨a, xs, rfl, rfl, h⟩ | ⟨a, xs, rfl, rfl, h⟩ | ⟨z, rfl, rfl⟩ | ⟨a, o, kvs, rfl, rfl, h⟩
  · cases (show v = Value.ref a from rx)
    obtain ⟨its, _, pl, _⟩ := I1.list h
    exact wpAny_pyIter_list pl.isList (pi_one (tk := s1.toks) I1 _ (turn_list a _) ⟨_, Heap.get?_push_size _ rfl, rfl, rfl⟩ hR)
  · cases (show v = Value.ref a from rx)
    obtain ⟨its, _, pl, _⟩ := I1.tuple h
    exact wpAny_pyIter_tuple (show s1.heap.IsTuple a its.toArray from pl) (pi_one (tk := s1.toks) I1 _ (turn_tuple a _) ⟨_, Heap.get?_push_size _ rfl, rfl, rfl⟩ hR)
  · obtain ⟨t, rfl⟩ := rx
    cases ha : z.cps.all (· < 128) with
    | false => exact wpAny_pyIter_wide ha (pi_one (tk := s1.toks) I1 _ (turn_str _ z t "str_iterator" (.inr rfl)) ⟨_, Heap.get?_push_size _ rfl, rfl, rfl⟩ hR)
    | true => exact wpAny_pyIter_ascii ha (pi_one (tk := s1.toks) I1 _ (turn_str _ z t "str_ascii_iterator" (.inl rfl)) ⟨_, Heap.get?_push_size _ rfl, rfl, rfl⟩ hR)
  · cases (show v = Value.ref a from rx)
    obtain ⟨hs, hgd, hx, es, ep, vs, hdt, hsz, _, _⟩ := I1.frzK h
    refine iter_keys hs hgd hx hdt (pi_one (tk := s1.toks) I1 _ (turn_keys _ hdt) ⟨_, Heap.get?_push_size _ rfl, rfl, ?_⟩ hR)
    rw [hsz] <;> rfl
theorem pi_rng1 {a : Expr} {p pos : Pos} (hg : Gl X "range") (hm : X.mg "range" = none) (ha : PA X [a] (tAs A W g)) (hs : starEach [a] X.env = [(false, eval a X.env)] := by rfl) : PI X tg (.Call (.Name "range" p) [a] [] pos) (tIt A W (itR rng1 g)) :=
  PI.imp (pi_range1 hg hm ha hs) fun σ H R ⟨r, G, k, m⟩ => ⟨r, G, k, by
    unfold itR at m
    cases hf : g r with
    | bad => simp only [hf] at m
    | ex e r' => simp only [hf] at m ⊢; exact m
    | ok vs r' =>
      simp only [hf] at m ⊢
      intro xs G1 H1 k1 st1 rs
      cases hq : rng1 vs with
      | none => simp only [hq] at m
      | some us =>
        simp only [hq] at m
        unfold rng1 at hq
        split at hq
        · split at hq
          · rename_i hb
            cases hq
            have hb2 := smallI_iff.mp hb
            exact ⟨_, reps_ints (ns := [_]) rs, by omega, by omega, m _ G1 H1 k1 st1 (itok_rng 0 _)⟩
          · cases hq
        · cases hq⟩
end
end M
namespace M
open PySem L2 PySem.Spec PyProof.Rows

/-- a key that is a tuple -/
def keyT : Val → Option NestedKey
  | .tup ds => match keyN (.tup ds) with
    | some q => if q.depth ≤ 8 then some q else none
    | none => none
  | _ => none
def allT (ds : List (Val × Val)) : Bool := ds.all fun p => (keyT p.1).isSome
def hasX (ds : List (Val × Val)) (q : NestedKey) : Bool := ds.any fun p => decide (keyN p.1 = some q)
def getX (ds : List (Val × Val)) (q : NestedKey) : Option Val := (ds.find? fun p => decide (keyN p.1 = some q)).map (·.2)
def putX (ds : List (Val × Val)) (k : Val) (q : NestedKey) (v : Val) : List (Val × Val) := if hasX ds q = true then ds.map (fun p => if keyN p.1 = some q then (p.1, v) else p) else ds ++ [(k, v)]
/-- one pair more -/
def PputX (ds : List (Val × Val)) (k v : Val) : Option (List (Val × Val)) := match keyT k with
  | some q => if allT ds = true ∧ ds.length < 100000 then some (putX ds k q v) else none
  | none => none
theorem keyT_n {k : Val} {q : NestedKey} (h : keyT k = some q) : keyN k = some q ∧ q.depth ≤ 8 ∧ ∃ ds, k = .tup ds := by
  cases k with
  | tup ds =>
    simp only [keyT] at h
    cases e : keyN (.tup ds) with
    | none => rw [e] at h; cases h
    | some p =>
      rw [e] at h
      simp only at h
      split at h
      · rename_i hd; cases h; exact ⟨rfl, hd, ds, rfl⟩
      · cases h
  | _ => cases h

section
variable {w : Wd} {G H : Hp} {X : Cx} {pins : List (Addr × Obj)} {σ : L2.St} {s : Shared}
mutual
theorem rep_nested (I : Inv X pins σ H s) (le : Le G H) (hK : w.K = X.K) : ∀ {v : Val} {x : V} {u : Value} {q : NestedKey}, Rep w G v x → RelV x u → keyN v = some q → NestedIs s.heap q u
  | .non, x, u, q, r, ru, h => by
    rw [Rep] at r; subst r
    rw [keyN] at h; cases h
    obtain rfl : u = Value.none := ru
    exact .none
  | .bl b, x, u, q, r, ru, h => by
    rw [Rep] at r; subst r
    rw [keyN] at h; cases h
    obtain rfl : u = Value.bool b := ru
    exact .bool rfl
  | .int i, x, u, q, r, ru, h => by
    rw [Rep] at r; subst r
    rw [keyN] at h; cases h
    obtain ⟨t, rfl⟩ : ∃ t, u = Value.int i t := ru
    exact .int i t
  | .str z, x, u, q, r, ru, h => by
    rw [Rep] at r
    obtain ⟨rfl, _⟩ := r
    rw [keyN] at h; cases h
    obtain ⟨t, rfl⟩ : ∃ t, u = Value.str z t := ru
    exact .text z t
  | .tup ds, x, u, q, r, ru, h => by
    rw [Rep] at r
    obtain ⟨a, xs, rfl, hs, rs⟩ := r
    obtain rfl : u = Value.ref a := ru
    rw [keyN] at h
    cases e : keysN ds with
    | none => rw [e] at h; cases h
    | some ks =>
      rw [e] at h; cases h
      have hs := sqt_mono le hs
      rw [hK] at hs
      obtain ⟨its, rv, ⟨o, ho, hc, n, hd⟩, _⟩ := I.tuple hs
      exact .tup ho hc hd (by simpa using reps_nested I le hK rs rv e)
  | .lst _, _, _, _, _, _, h => by simp [keyN] at h
  | .dct _ _, _, _, _, _, _, h => by simp [keyN] at h
  | .obj _ _, _, _, _, _, _, h => by simp [keyN] at h
  | .exc _ _, _, _, _, _, _, h => by simp [keyN] at h
  | .ty _, _, _, _, _, _, h => by simp [keyN] at h
  | .cls _, _, _, _, _, _, h => by simp [keyN] at h
  | .scr _, _, _, _, _, _, h => by simp [keyN] at h
  | .ows _, _, _, _, _, _, h => by simp [keyN] at h
  | .oob _ _, _, _, _, _, _, h => by simp [keyN] at h
theorem reps_nested (I : Inv X pins σ H s) (le : Le G H) (hK : w.K = X.K) : ∀ {ds : List Val} {xs : List V} {us : List Value} {qs : List NestedKey}, Reps w G ds xs → Vals xs us → keysN ds = some qs → NestedAll s.heap qs us
  | [], xs, us, qs, r, ru, h => by
    rw [reps_nil] at r; subst r
    rw [keysN] at h; cases h
    cases ru
    exact .nil
  | d :: ds, xs, us, qs, r, ru, h => by
    obtain ⟨y, ys, rfl, r1, r2⟩ := reps_cons.mp r
    rw [keysN] at h
    cases e : keyN d with
    | none => rw [e] at h; cases h
    | some k =>
      rw [e] at h
      cases e2 : keysN ds with
      | none => rw [e2] at h; cases h
      | some ks =>
        rw [e2] at h; cases h
        cases ru with
        | cons ru1 ru2 => exact .cons (rep_nested I le hK r1 ru1 e) (reps_nested I le hK r2 ru2 e2)
end
end

theorem objOk_dx {P : Program} {w0 w : World} {H : Hp} {h : Heap} {a : Addr} {kbs : List (NestedKey × V × V)} (x : dxP w a kbs h) : ObjOk P w0 H h a (DX w a kbs) := by
  refine ⟨x, ?_, fun h1 h2 ⟨o, es, ep, ho, r⟩ k => ⟨o, es, ep, k o ho, r⟩⟩
  obtain ⟨o, es, ep, ho, _⟩ := x
  exact ⟨o, ho⟩
theorem dx_new {w : World} (h : Heap) (hb : sysModules < h.objs.size) : dxP w h.objs.size [] (h.push { cls := .type "dict", data := .dict #[] }) :=
  ⟨_, #[], 0, Heap.get?_push_size _ rfl, ⟨rfl, rfl, rfl⟩, rfl, .nil, List.nodup_nil, Nat.zero_le _, beq_eq_false_iff_ne.mpr (Ne.symm (Nat.ne_of_lt hb))⟩
theorem repT_length {w : Wd} {G : Hp} : ∀ {ds : List (Val × Val)} {kbs : List (NestedKey × V × V)}, RepT w G ds kbs → ds.length = kbs.length
  | [], _, r => by rw [RepT] at r; subst r; rfl
  | (k, d) :: ds, _, r => by
    rw [RepT] at r
    obtain ⟨q', z, y, ys, rfl, _, _, _, r2⟩ := r
    simp [repT_length r2]
/-- as the library's rules want it -/
def Row (p : NestedKey × V × V) (x : NestedKey × Addr × Value) : Prop := x.1 = p.1 ∧ p.2.1 = .ref x.2.1 ∧ RelV p.2.2 x.2.2
section
variable {w : Wd} {G H : Hp} {X : Cx} {pins : List (Addr × Obj)} {σ : L2.St} {s : Shared}
theorem rows_of (I : Inv X pins σ H s) (le : Le G H) (hK : w.K = X.K) (hW : X.w = w.W) : ∀ {ds : List (Val × Val)} {kbs : List (NestedKey × V × V)} {es : List DictEntry}, RepT w G ds kbs → allT ds = true → Paired (fun (p : NestedKey × V × V) (e : DictEntry) => e.hash = p.1.hash w.W ∧ RelV p.2.1 e.key ∧ RelV p.2.2 e.val) kbs es →
    ∃ xs, es = xs.map (entryOfKey (nestedKind X.prog X.w)) ∧ Paired Row kbs xs ∧ ∀ x ∈ xs, (nestedKind X.prog X.w).is s.heap x.1 x.2.1
  | [], _, _, r, _, p => by
    rw [RepT] at r; subst r
    cases p
    exact ⟨[], rfl, .nil, fun x h => nomatch h⟩
  | (k, d) :: ds, _, _, r, ha, p => by
    rw [RepT] at r
    obtain ⟨q, z, y, ys, rfl, ek, r0, r1, r2⟩ := r
    simp only [allT, List.all_cons, Bool.and_eq_true] at ha
    cases p with
    | @cons _ e _ es' p1 p2 =>
      obtain ⟨xs, e1, e2, e3⟩ := rows_of I le hK hW r2 ha.2 p2
      obtain ⟨q', hq⟩ := Option.isSome_iff_exists.mp ha.1
      obtain ⟨h1, h2, ds', rfl⟩ := keyT_n hq
      rw [ek] at h1; cases h1
      obtain ⟨a, zs, rfl, hs, rs⟩ := rep_tup.mp r0
      obtain ⟨p3, p4, p5⟩ := p1
      have ea : e.key = .ref a := p4
      refine ⟨(q, a, e.val) :: xs, ?_, .cons ⟨rfl, rfl, p5⟩ e2, fun x hx => ?_⟩
      · rw [List.map_cons, ← e1]
        congr 1
        obtain ⟨eh, ekk, ev⟩ := e
        simp only at p3 ea
        subst p3 ea
        rw [entryOfKey, hW]
        rfl
      · rcases List.mem_cons.mp hx with e4 | hx
        · subst e4
          exact ⟨rep_nested I le hK r0 (show RelV (.ref a) (.ref a) from rfl) ek, h2⟩
        · exact e3 x hx
theorem rows_back (hW : X.w = w.W) : ∀ {kbs : List (NestedKey × V × V)} {xs : List (NestedKey × Addr × Value)}, Paired Row kbs xs →
    Paired (fun (p : NestedKey × V × V) (e : DictEntry) => e.hash = p.1.hash w.W ∧ RelV p.2.1 e.key ∧ RelV p.2.2 e.val) kbs (xs.map (entryOfKey (nestedKind X.prog X.w)))
  | _, _, .nil => .nil
  | _, _, .cons ⟨h1, h2, h3⟩ t => by
    rw [List.map_cons]
    exact .cons ⟨by rw [← hW, ← h1]; rfl, by rw [h2]; exact rfl, h3⟩ (rows_back hW t)
theorem rows_keys {kbs : List (NestedKey × V × V)} {xs : List (NestedKey × Addr × Value)} (h : Paired Row kbs xs) : xs.map (·.1) = kbs.map (·.1) := by
  induction h with
  | nil => rfl
  | cons r _ ih => rw [List.map_cons, List.map_cons, ih, r.1]
end

def storedX (kbs : List (NestedKey × V × V)) (q : NestedKey) (z y : V) : List (NestedKey × V × V) :=
  if (kbs.any fun p => decide (p.1 = q)) = true then kbs.map (fun p => if p.1 = q then (p.1, p.2.1, y) else p) else kbs ++ [(q, z, y)]
theorem Paired.app {α β : Type} {F : α → β → Prop} : ∀ {a b : List α} {c d : List β}, Paired F a c → Paired F b d → Paired F (a ++ b) (c ++ d)
  | _, _, _, _, .nil, q => q
  | _, _, _, _, .cons r t, q => .cons r (Paired.app t q)
theorem atKey_any {xs : List (NestedKey × Addr × Value)} {q : NestedKey} : (atKey xs q).isSome = xs.any fun p => decide (p.1 = q) := by
  unfold atKey
  rw [Option.isSome_map]
  induction xs with
  | nil => rfl
  | cons x xs ih =>
    rw [List.find?_cons, List.any_cons]
    cases decide (x.1 = q) with
    | true => rfl
    | false => simpa using ih
theorem rows_any {kbs : List (NestedKey × V × V)} {xs : List (NestedKey × Addr × Value)} (h : Paired Row kbs xs) (q : NestedKey) : (xs.any fun p => decide (p.1 = q)) = kbs.any fun p => decide (p.1 = q) := by
  induction h with
  | nil => rfl
  | cons r _ ih => rw [List.any_cons, List.any_cons, ih, r.1]
theorem rows_map {q : NestedKey} {y : V} {v : Value} (rv : RelV y v) : ∀ {kbs : List (NestedKey × V × V)} {xs : List (NestedKey × Addr × Value)}, Paired Row kbs xs → Paired Row (kbs.map fun p => if p.1 = q then (p.1, p.2.1, y) else p) (xs.map (putAt q v))
  | _, _, .nil => .nil
  | p :: _, x :: _, .cons ⟨r1, r2, r3⟩ t => by
    rw [List.map_cons, List.map_cons]
    refine .cons ?_ (rows_map rv t)
    by_cases e : p.1 = q
    · rw [if_pos e, putAt, if_pos (by rw [r1]; exact e)]
      exact ⟨r1, r2, rv⟩
    · rw [if_neg e, putAt, if_neg (by rw [r1]; exact e)]
      exact ⟨r1, r2, r3⟩
theorem rows_stored {kbs : List (NestedKey × V × V)} {xs : List (NestedKey × Addr × Value)} {q : NestedKey} {a : Addr} {y : V} {v : Value} (h : Paired Row kbs xs) (rv : RelV y v) : Paired Row (storedX kbs q (.ref a) y) (storedH xs q a v) := by
  unfold storedX storedH
  rw [atKey_any, rows_any h]
  split
  · exact rows_map rv h
  · exact Paired.app h (.cons ⟨rfl, rfl, rv⟩ .nil)
theorem storedX_length (kbs : List (NestedKey × V × V)) (q : NestedKey) (z y : V) : (storedX kbs q z y).length ≤ kbs.length + 1 := by
  unfold storedX
  split
  · rw [List.length_map]; omega
  · simp
section
variable {w : Wd} {G : Hp}
theorem repT_any (q : NestedKey) : ∀ {ds : List (Val × Val)} {kbs : List (NestedKey × V × V)}, RepT w G ds kbs → hasX ds q = kbs.any fun p => decide (p.1 = q)
  | [], _, r => by rw [RepT] at r; subst r; rfl
  | (k, d) :: ds, _, r => by
    rw [RepT] at r
    obtain ⟨q', z, y, ys, rfl, ek, _, _, r2⟩ := r
    have ih := repT_any q r2
    unfold hasX at ih ⊢
    rw [List.any_cons, List.any_cons, ih, ek]
    simp
theorem repT_app : ∀ {ds es : List (Val × Val)} {xs ys : List (NestedKey × V × V)}, RepT w G ds xs → RepT w G es ys → RepT w G (ds ++ es) (xs ++ ys)
  | [], _, _, _, r, q => by rw [RepT] at r; subst r; simpa using q
  | (k, d) :: ds, _, _, _, r, q => by
    rw [RepT] at r
    obtain ⟨q', z, y, ys, rfl, ek, r0, r1, r2⟩ := r
    rw [List.cons_append, List.cons_append, RepT]
    exact ⟨q', z, y, _, rfl, ek, r0, r1, repT_app r2 q⟩
theorem repT_map {q : NestedKey} {d : Val} {x : V} (rv : Rep w G d x) : ∀ {ds : List (Val × Val)} {kbs : List (NestedKey × V × V)}, RepT w G ds kbs → RepT w G (ds.map fun p => if keyN p.1 = some q then (p.1, d) else p) (kbs.map fun p => if p.1 = q then (p.1, p.2.1, x) else p)
  | [], _, r => by rw [RepT] at r; subst r; rw [List.map_nil, List.map_nil, RepT]
  | (k, e) :: ds, _, r => by
    rw [RepT] at r
    obtain ⟨q', z, y, ys, rfl, ek, r0, r1, r2⟩ := r
    rw [List.map_cons, List.map_cons]
    by_cases h : q' = q
    · subst h
      simp only [ek, if_true]
      rw [RepT]
      exact ⟨q', z, x, _, rfl, ek, r0, rv, repT_map rv r2⟩
    · simp only [ek, Option.some.injEq, h, if_false]
      rw [RepT]
      exact ⟨q', z, y, _, rfl, ek, r0, r1, repT_map rv r2⟩
theorem repT_put {q : NestedKey} {k d : Val} {z x : V} {ds : List (Val × Val)} {kbs : List (NestedKey × V × V)} (r : RepT w G ds kbs) (ek : keyN k = some q) (rk : Rep w G k z) (rv : Rep w G d x) : RepT w G (putX ds k q d) (storedX kbs q z x) := by
  unfold putX storedX
  rw [repT_any q r]
  split
  · exact repT_map rv r
  · refine repT_app r ?_
    rw [RepT]
    exact ⟨q, z, x, [], rfl, ek, rk, rv, by rw [RepT]⟩
end
end M
namespace M
open PySem L2

abbrev bin (P : List Val → Option (Bool × Val)) (fa fb : OF) : EF := prim P (osCons fa (osCons fb osNil))
section
variable {X : Cx} {A : Act} {W : WX} {x y e : Expr} {es : List Expr} {fa fb fc : OF} {g : OsF} {P P' : List Val → Option (Bool × Val)} {pos p : Pos}
theorem pe_bin {op : Operator} (ho : OpR X (binaryOp op) (r2Of A.w P)) (ha : PE X x (tO A W fa)) (hb : PE X y (tO A W fb)) : PE X (.BinOp x op y pos) (tE A W (bin P fa fb)) := PE.imp (pe_op ho ha hb) fun _ _ _ q => prim_os2 q
theorem pe_cmpV {op : CmpOp} (ho : OpR X (compareOp op) (r2Of A.w P)) (ha : PE X x (tO A W fa)) (hb : PE X y (tO A W fb)) (hm : behindInMarks op y = false := by first | exact nobehind _ (by decide) (by decide) | rfl) : PE X (.Compare x [op] [y] pos) (tE A W (bin P fa fb)) := PE.imp (pe_cmpR ho ha hb hm) fun _ _ _ q => prim_os2 q
theorem pt_cmpV {op : CmpOp} (ho : OpR X (compareOp op) (r2Of A.w P)) (ha : PE X x (tO A W fa)) (hb : PE X y (tO A W fb)) (hm : behindInMarks op y = false := by first | exact nobehind _ (by decide) (by decide) | rfl) : PT X (.Compare x [op] [y] pos) (tBo A W (tst (bin P fa fb))) := pt_cmp' ho ha hb hm
theorem pe_idx (c : Cal X A.w) (ha : PE X x (tO A W fa)) (hb : PE X y (tO A W fb)) (hs : PlainIx y := by intro _ _; rfl) : PE X (.Subscript x y pos) (tE A W (bin Pix fa fb)) := PE.imp (pe_ix (ixr_ix c) ha hb hs) fun _ _ _ q => prim_os2 q
/-- f(e, ..), f a built-in function -/
theorem pe_bi {x : Str} {id : String} (hc : CallR X (.builtin id) (rOf A.w P)) (hg : Gl X x) (hm : X.mg x = none) (hv : bootBuiltins x = some (.builtin id)) (ha : PA X (e :: es) (tOs A W g)) (hn : x ≠ "__name__" := by decide) (hdb : (x == ("__debug__" : Str)) = false := by decide)
    (he : NoStar X e es := by rfl) (hpl : NoStars X es pos := by rfl) : PE X (.Call (.Name x p) (e :: es) [] pos) (tE A W (prim P g)) :=
  PE.imp (pe_callB hc hg hm hv ha hn hdb he hpl) fun _ _ _ q => prim_os (rok_rOf _ _) q
theorem pe_bt {x : Str} {T : String} (hc : CallR X (.type T) (rOf A.w P)) (hg : Gl X x) (hm : X.mg x = none) (hv : bootBuiltins x = some (.type T)) (ha : PA X (e :: es) (tOs A W g)) (hn : x ≠ "__name__" := by decide) (hdb : (x == ("__debug__" : Str)) = false := by decide)
    (he : NoStar X e es := by rfl) (hpl : NoStars X es pos := by rfl) : PE X (.Call (.Name x p) (e :: es) [] pos) (tE A W (prim P g)) :=
  PE.imp (pe_callTy hc hg hm hv ha hn hdb he hpl) fun _ _ _ q => prim_os (rok_rOf _ _) q

def chn (P P' : List Val → Option (Bool × Val)) (fa fb fc : OF) : EF := fun r => match fa r with
  | .ok h1 r1 => match fb r1 with
    | .ok h2 r2 => match getAll r2 [h1, h2] with
      | some vs => match P vs with
        | some (false, .bl true) => match fc r2 with
          | .ok h3 r3 => match getAll r3 [h2, h3] with
            | some us => match P' us with
              | some (false, .bl b) => .ok false (.bl b) r3
              | _ => .bad
            | none => .bad
          | .ex e r3 => .ex e r3
          | .bad => .bad
        | some (false, .bl false) => .ok false (.bl false) r2
        | _ => .bad
      | none => .bad
    | .ex e r2 => .ex e r2
    | .bad => .bad
  | .ex e r1 => .ex e r1
  | .bad => .bad
theorem chn_of {σ : L2.St} {H : Hp} {Q : VK} (h : tE A W (chn P P' fa fb fc) σ H Q) : tChain (r2Of A.w P) (r2Of A.w P') (tO A W fa) (tO A W fb) (tO A W fc) σ H Q := by
  obtain ⟨r, G, k, m⟩ := h
  refine ⟨r, G, k, ?_⟩
  unfold chn at m
  cases hf : fa r with
  | bad => rw [hf] at m; exact m.elim
  | ex e r' => rw [hf] at m; exact m
  | ok h1 r1 =>
    simp only [hf] at m
    intro x G1 H1 k1 st1 t1
    refine ⟨r1, G1, k1, ?_⟩
    cases hg : fb r1 with
    | bad => simp only [hg] at m
    | ex e r2 => simp only [hg] at m ⊢; exact m.mono st1.ex
    | ok h2 r2 =>
      simp only [hg] at m ⊢
      intro y G2 H2 k2 st2 t2
      cases hv : getAll r2 [h1, h2] with
      | none => simp only [hv] at m
      | some vs =>
        simp only [hv] at m
        have rr : RReps A.w G2 H2 vs [x, y] := HReps.get k2 (show HReps A G2 H2 σ r2 [h1, h2] [x, y] from ⟨x, [y], rfl, t1.step st2, y, [], rfl, t2, rfl⟩) hv
        cases hp : P vs with
        | none => simp only [hp] at m
        | some oz =>
          obtain ⟨o, d⟩ := oz
          cases o with
          | true => simp only [hp] at m
          | false =>
            cases d with
            | bl b =>
              cases b with
              | true =>
                simp only [hp] at m
                refine ⟨G2, vs, false, .bl true, k2.sub, rr, hp, fun u G3 H3 gr nr => ?_⟩
                refine ⟨true, rep_bl.mp (show Rep A.w G3 (.bl true) u from nr), ?_⟩
                simp only [if_true]
                refine ⟨r2, G3, k2.grow gr, ?_⟩
                have st3 : Step σ r G H r2 G3 H3 := (st1.trans st2).trans (gr.step k2)
                cases hc : fc r2 with
                | bad => simp only [hc] at m
                | ex e r3 => simp only [hc] at m ⊢; exact m.mono st3.ex
                | ok h3 r3 =>
                  simp only [hc] at m ⊢
                  intro z G4 H4 k4 st4 t4
                  cases hu : getAll r3 [h2, h3] with
                  | none => simp only [hu] at m
                  | some us =>
                    simp only [hu] at m
                    have rr2 : RReps A.w G4 H4 us [y, z] := HReps.get k4 (show HReps A G4 H4 σ r3 [h2, h3] [y, z] from ⟨y, [z], rfl, (t2.step (gr.step k2)).step st4, z, [], rfl, t4, rfl⟩) hu
                    cases hp' : P' us with
                    | none => simp only [hp'] at m
                    | some oz' =>
                      obtain ⟨o', d'⟩ := oz'
                      cases o' with
                      | true => simp only [hp'] at m
                      | false =>
                        cases d' with
                        | bl b =>
                          simp only [hp'] at m
                          exact ⟨G4, us, false, .bl b, k4.sub, rr2, hp', fun u' G5 H5 gr' nr' => m u' G5 H5 ⟨k4.grow gr', (st3.trans st4).trans (gr'.step k4), nr', no_own⟩⟩
                        | _ => simp only [hp'] at m
              | false =>
                simp only [hp] at m
                refine ⟨G2, vs, false, .bl false, k2.sub, rr, hp, fun u G3 H3 gr nr => ?_⟩
                refine ⟨false, rep_bl.mp (show Rep A.w G3 (.bl false) u from nr), ?_⟩
                simp only [Bool.false_eq_true, if_false]
                exact m (.bl false) G3 H3 ⟨k2.grow gr, (st1.trans st2).trans (gr.step k2), trep_f (rep_bl.mpr rfl), no_own⟩
            | _ => simp only [hp] at m
theorem pt_chn {z : Expr} {op op' : CmpOp} (ho : OpR X (compareOp op) (r2Of A.w P)) (ho' : OpR X (compareOp op') (r2Of A.w P')) (ha : PE X x (tO A W fa)) (hb : PE X y (tO A W fb)) (hc : PE X z (tO A W fc)) (hm : lastMarks [op, op'] [y, z] = false := by with_unfolding_all rfl) :
    PT X (.Compare x [op, op'] [y, z] pos) (tBo A W (tst (chn P P' fa fb fc))) := PT.imp (pt_chain ho ho' ha hb hc hm) fun _ _ _ q => chn_of (tst_of q)
end

def oTy (T : String) (fo : OF) : OF := fun r => match fo r with
  | .ok h r1 => match h.get r1 with
    | some v => if tyOf v = some T then .ok h r1 else .bad
    | none => .bad
  | .ex e r1 => .ex e r1
  | .bad => .bad
def TyAt (w : Wd) (T : String) (x : V) (H : Hp) : Prop := ∃ G v, Le G H ∧ RRep w G H v x ∧ tyOf v = some T
section
variable {X : Cx} {A : Act} {W : WX} {o e : Expr} {es : List Expr} {fo : OF} {g : OsF} {P : List Val → Option (Bool × Val)} {cpos apos : Pos} {T id : String} {name : Str}
theorem oTy_of {σ : L2.St} {H : Hp} {Q : V → Hp → Prop} (h : tO A W (oTy T fo) σ H Q) : tO A W fo σ H fun x H1 => TyAt A.w T x H1 ∧ Q x H1 := by
  obtain ⟨r, G, k, m⟩ := h
  refine ⟨r, G, k, ?_⟩
  unfold oTy at m
  cases hf : fo r with
  | bad => rw [hf] at m; exact m.elim
  | ex e r' => rw [hf] at m; exact m
  | ok h r1 =>
    simp only [hf] at m
    intro x G1 H1 k1 st1 t1
    cases hv : h.get r1 with
    | none => simp only [hv] at m
    | some v =>
      simp only [hv] at m
      by_cases ht : tyOf v = some T
      · simp only [if_pos ht] at m
        exact ⟨⟨G1, v, k1.sub, t1.get k1 hv, ht⟩, m x G1 H1 k1 st1 t1⟩
      · simp only [if_neg ht] at m
theorem ty_run (c : Cal X A.w) {pins : List (Addr × Obj)} {s : Shared} {σ : L2.St} {H : Hp} {x : V} {u : Value} (I : Inv X pins σ H s) (rx : RelV x u) (t : TyAt A.w T x H) (hT : T = "str" ∨ T = "list" ∨ T = "dict") :
    s.TypeIs u T ∧ ∀ a, u = .ref a → ∃ ob, s.heap.get? a = some ob ∧ ob.dict = none := by
  obtain ⟨G, v, le, r, ht⟩ := t
  have ls : ∀ {a : Addr} {xs : List V}, x = .ref a → SqL X.K H a xs → s.TypeIs u "list" ∧ ∀ a, u = .ref a → ∃ ob, s.heap.get? a = some ob ∧ ob.dict = none := fun {a xs} e h => by
    subst e
    exact tyV_is I rx (show tyV X.K "list" (.ref a) H from .inl ⟨rfl, xs, h⟩)
  cases v with
  | str z => cases ht; obtain ⟨rfl, _⟩ := rrep_str r; exact tyV_is I rx (show tyV X.K "str" (.str z) H from rfl)
  | lst ds => cases ht; obtain ⟨a, xs, e, h, _⟩ := rrep_lst le r; exact ls e (.inl (.inl h))
  | scr ns => cases ht; obtain ⟨a, e, h⟩ := rrep_scr le r; rw [c.K] at h; exact ls e h
  | dct t kvs =>
    cases ht
    obtain ⟨a, rfl, q⟩ := rrep_dct le r
    cases (show u = Value.ref a from rx)
    have dK : ∀ {kvs : List (Key × V)}, ObjOk X.prog X.w H s.heap a (.dK kvs) → ∃ o, s.heap.get? a = some o ∧ o.ExactDict := fun {kvs} h => by
      obtain ⟨_, _, vs, _, o, es, ep, h1, h2, _⟩ := h
      exact ⟨o, h1, h2⟩
    have dT : ∀ {kvs : List (NestedKey × V × V)}, ObjOk X.prog X.w H s.heap a (DX A.w.W a kvs) → ∃ o, s.heap.get? a = some o ∧ o.ExactDict := fun {kvs} h => by
      obtain ⟨⟨o, es, ep, h1, h2, _⟩, _⟩ := h
      exact ⟨o, h1, h2⟩
    have : ∃ o, s.heap.get? a = some o ∧ o.ExactDict := by
      rcases q with ⟨_, kvs, q | ⟨ob, q⟩, _⟩ | ⟨_, kvs, q, _⟩
      · exact dK (I.hok a _ q)
      · exact dK (I.hok a _ q).2
      · exact dT (I.hok a _ q)
    obtain ⟨ob, h1, h2⟩ := this
    exact ⟨⟨ob, h1, h2.1⟩, fun b e => by cases e; exact ⟨ob, h1, h2.2.1⟩⟩
  | non => cases ht; rcases hT with h | h | h <;> exact absurd h (by decide)
  | bl b => cases ht; rcases hT with h | h | h <;> exact absurd h (by decide)
  | int i => cases ht; rcases hT with h | h | h <;> exact absurd h (by decide)
  | tup ds => cases ht; rcases hT with h | h | h <;> exact absurd h (by decide)
  | _ => cases ht
/-- a method's meaning by values -/
def MtP (X : Cx) (w : Wd) (id : String) (P : List Val → Option (Bool × Val)) : Prop := MtR X id fun x xs H Q => rOf w P (x :: xs) H Q
theorem pe_mt (c : Cal X A.w) (hT : T = "str" ∨ T = "list" ∨ T = "dict") (pa : PlainAttrs T) (slot : PySem.Slot T name id) (hty : typeOf (.builtin id) = pure (.type "method_descriptor")) (hm : MtP X A.w id P) (ho : PE X o (tO A W fo)) (ha : PA X (e :: es) (tOs A W g))
    (hbase : AsItIs X o name := by rfl)
    (hfew : FewPlain X (e :: es) cpos := by rfl)
    (hline : (apos.endLine == cpos.line) = true := by rfl) (hs : NoStar X e es := by rfl) (hplain : NoStars X es cpos := by rfl) :
    PE X (.Call (.Attribute o name apos) (e :: es) [] cpos) (tE A W (prim P (osCons (oTy T fo) g))) := by
  refine ⟨fun pins s σ H Q I h => ?_⟩
  have q0 := oTy_of (os_cons (prim_os (rok_rOf A.w P) h))
  refine wpAny_Call_method_late hbase hfew hline rfl (wpAny_mono (ho.run pins s σ H _ I q0) (fun v s1 ⟨x, H1, I1, r1, ty, q1⟩ => ?_) fun _ _ z => z)
  obtain ⟨t1, t2⟩ := ty_run c I1 r1 ty hT
  refine ⟨T, id, pa, slot, hty, t1, t2, ?_⟩
  have run := ha.run cpos pins s1 σ H1 _ I1 q1
  rw [hs] at run ⊢
  refine Calls.callWith_builtin (by show (false || (backTo cpos (starEach es X.env)).any (·.1)) = false; rw [hplain] <;> rfl) (Calls.evalArgs_plain (wpAny_mono run (fun us s2 ⟨vs, H2, I2, r2, q2⟩ => ?_) fun _ _ z => z))
  exact hm pins s2 σ H2 x vs v us Q I2 r1 r2 q2
end
def Pjoin : List Val → Option (Bool × Val)
  | [.str a, .lst ds] => match asStrs ds with
    | some ys => if (ys.map (·.length)).sum + ys.length * a.length ≤ 16777216 ∧ (Txt.join a ys).length ≤ sizeLine then some (false, .str (Txt.join a ys)) else none
    | none => none
  | _ => none
theorem mtp_join {X : Cx} {w : Wd} : MtP X w "str.join" Pjoin := by
  intro pins s σ H x xs v us Q I rx rxs ⟨G, vs, o, z, le, rr, hp, q⟩
  unfold Pjoin at hp
  split at hp
  · split at hp
    · rename_i ys hy
      split at hp
      · rename_i hb
        cases hp
        obtain ⟨_, _, e, r1, r2⟩ := rreps_two rr
        cases e
        obtain ⟨rfl, _⟩ := rrep_str r1
        obtain ⟨a, zs, rfl, h, rs⟩ := rrep_lst le r2
        rw [asStrs_some hy] at rs
        rw [reps_strs rs] at h
        exact mt_join pins s σ H _ _ v us Q I rx rxs ⟨_, a, ys, rfl, rfl, .inl (.inl (.inl h)), hb.1, str_new le hb.2 q⟩
      · cases hp
    · cases hp
  · cases hp
end M
namespace M
open PySem L2

section
variable {A : Act} {G H : Hp} {σ : L2.St} {r : Env} {i : Nat} {v v' : Val} {a : Addr}
/-- another slot's container when slot i's is rewritten at its own address -/
theorem Ok.mutO {u : HO} (k : Ok A G H σ r) (h : r[i]? = some (some (true, v))) (hσ : σ[i]? = some (some (.ref a))) {s : Slot} {j : Nat} {w : Val} (h1 : (r.set i s)[j]? = some (some (true, w))) :
    (j = i ∧ s = some (true, w)) ∨ (j ≠ i ∧ r[j]? = some (some (true, w)) ∧ ∃ b, σ[j]? = some (some (.ref b)) ∧ Root A.w G (upd H a u) w b ∧ fp (upd H a u) w b = fp H w b ∧ ∀ c ∈ fp H w b, c ≠ a ∧ G c = none ∧ (A.L c ∨ A.H0 c = none)) := by
  rcases set_some h1 rfl with ⟨e1, e2⟩ | ⟨e1, e2⟩
  · exact .inl ⟨e1, e2⟩
  · obtain ⟨b, e, q, nb⟩ := k.ow j w e2
    have ne : ∀ c ∈ fp H w b, c ≠ a := fun c hc z => e1 (k.sep j i w v b a c e2 h e hσ hc (by rw [z]; exact fp_self))
    have q' := q.mono' (H' := upd H a u) (Le.refl _) fun c hc o ho => by rw [upd_ne (ne c hc)]; exact ho
    exact .inr ⟨e1, e2, b, e, q'.1, q'.2, fun c hc => ⟨ne c hc, nb c hc⟩⟩
/-- slot i's container is rewritten -/
theorem Ok.mut {u : HO} (k : Ok A G H σ r) (h : r[i]? = some (some (true, v))) (hσ : σ[i]? = some (some (.ref a))) (hf : flat v' = true) (hr : Root A.w G (upd H a u) v' a) : Ok A G (upd H a u) σ (r.set i (some (true, v'))) := by
  obtain ⟨a', e, ro, n⟩ := k.ow i v h
  rw [hσ] at e; cases e
  obtain ⟨na, l⟩ := n a fp_self
  have il : i < r.length := (List.getElem?_eq_some_iff.mp h).1
  have one : ∀ c ∈ fp (upd H a u) v' a, c = a := flat_all hf rfl
  refine ⟨k.ex0, k.gr0, fun b o hb nl => ?_, tabs_upd k.tk (.inr ro.con) (hr.ne upd_same), k.nt, fun b o hb => ?_, by rw [List.length_set]; exact k.len, fun j w h1 => ?_, fun j w h1 => ?_, fun p q v1 v2 b b2 c h1 h2 h3 h4 h5 h6 => ?_, k.fx⟩
  · have ne : b ≠ a := fun z => by
      subst z
      rcases l with l | l
      · exact nl l
      · rw [l] at hb; cases hb
    rw [upd_ne ne]; exact k.fr0 b o hb nl
  · have ne : b ≠ a := ne_of_none hb na
    rw [upd_ne ne]; exact k.sub b o hb
  · rcases set_some h1 rfl with ⟨e1, e2⟩ | ⟨e1, e2⟩
    · cases e2
    · exact k.fz j w e2
  · rcases k.mutO (u := u) h hσ h1 with ⟨e1, e2⟩ | ⟨e1, e2, b, e3, q, q2, m⟩
    · subst e1; cases e2
      exact ⟨a, hσ, hr, fun c hc => by rw [one c hc]; exact ⟨na, l⟩⟩
    · exact ⟨b, e3, q, fun c hc => by rw [q2] at hc; exact (m c hc).2⟩
  · rcases k.mutO (u := u) h hσ h1 with ⟨e1, e2⟩ | ⟨e1, e2, d1, e3, _, q2, m⟩
    · rcases k.mutO (u := u) h hσ h2 with ⟨g1, g2⟩ | ⟨g1, g2, d2, g3, _, p2, m2⟩
      · rw [e1, g1]
      · exfalso
        subst e1; cases e2
        rw [hσ] at h3; cases h3
        rw [g3] at h4; cases h4
        rw [p2] at h6
        exact (m2 c h6).1 (one c h5)
    · rcases k.mutO (u := u) h hσ h2 with ⟨g1, g2⟩ | ⟨g1, g2, d2, g3, _, p2, m2⟩
      · exfalso
        subst g1; cases g2
        rw [hσ] at h4; cases h4
        rw [e3] at h3; cases h3
        rw [q2] at h5
        exact (m c h5).1 (one c h6)
      · rw [e3] at h3; cases h3
        rw [g3] at h4; cases h4
        rw [q2] at h5; rw [p2] at h6
        exact k.sep p q v1 v2 _ _ c e2 g2 e3 g3 h5 h6
theorem step_mut {u : HO} (k : Ok A G H σ r) (h : r[i]? = some (some (true, v))) (hσ : σ[i]? = some (some (.ref a))) (hf : flat v' = true) : Step σ r G H (r.set i (some (true, v'))) G (upd H a u) :=
  ⟨Le.refl _, fun b o hb nb => by
    have ne : b ≠ a := fun z => nb (by subst z; exact Rt.at h hσ)
    rw [upd_ne ne]; exact KpO.of hb, fun b hb hb' => absurd hb hb', fun b ⟨j, w, c, h1, h2, h3⟩ => by
    rcases k.mutO (u := u) h hσ h1 with ⟨e1, e2⟩ | ⟨e1, e2, d, e3, _, q2, m⟩
    · subst e1; cases e2
      rw [hσ] at h2; cases h2
      have e : b = a := flat_all (P := fun b => b = a) hf rfl b h3
      rw [e]; exact .inl (Rt.at h hσ)
    · rw [e3] at h2; cases h2
      rw [q2] at h3
      exact .inl ⟨j, w, _, e2, e3, h3⟩⟩
end

/-- by values: the container v, the arguments, then the container and the answer (frozen) -/
abbrev MutF := Val → List Val → Option (Val × Val)
def mutE (T : String) (i : Nat) (P : MutF) (g : AF) : EF := fun r => match r[i]? with
  | some (some (true, v0)) => if tyOf v0 = some T then match g r with
      | .ok vs r1 => match r1[i]? with
        | some (some (true, v)) => match P v vs with
          | some (v', z) => .ok false z (r1.set i (some (true, v')))
          | none => .bad
        | _ => .bad
      | .ex e r1 => .ex e r1
      | .bad => .bad
    else .bad
  | _ => .bad
def rMut (w : Wd) (P : MutF) : V → List V → Hp → VK → Prop := fun x xs H Q => ∃ a v vs v' z G, x = .ref a ∧ Le G H ∧ G a = none ∧ Root w G H v a ∧ Reps w G vs xs ∧ P v vs = some (v', z) ∧ ∀ u y, flat v' = true → Root w G (upd H a u) v' a → Rep w G z y → Q y (upd H a u)
def MutP (X : Cx) (w : Wd) (id : String) (P : MutF) : Prop := MtR X id (rMut w P)
theorem root_ty {X : Cx} {w : Wd} {G H : Hp} {v : Val} {a : Addr} (r : Root w G H v a) (h : tyOf v = some "list") : tyV X.K "list" (.ref a) H := by
  cases v with
  | lst ds => cases h; obtain ⟨xs, e, _⟩ := r; exact .inl ⟨rfl, xs, .inl (.inl e)⟩
  | dct t ds => exact absurd (Option.some.inj (show some "dict" = some "list" from h)) (by decide)
  | obj c fs => cases h
  | ows ds => cases h
  | oob c fs => cases h
  | _ => exact r.elim
section
variable {X : Cx} {A : Act} {W : WX} {o e : Expr} {es : List Expr} {g : AF} {P : MutF} {cpos apos : Pos} {T id : String} {name : Str} {i : Nat}
theorem mut_of {σ : L2.St} {H : Hp} {Q : VK} (h : tE A W (mutE "list" i P g) σ H Q) : tVar i σ H fun x H1 => tyV X.K "list" x H1 ∧ tAs A W g σ H1 fun xs H2 => rMut A.w P x xs H2 Q := by
  obtain ⟨r, G, k, m⟩ := h
  rcases q : r[i]? with _ | _ | ⟨_ | _, v0⟩
  · simp only [mutE, q] at m
  · simp only [mutE, q] at m
  · simp only [mutE, q] at m
  · simp only [mutE, q] at m
    by_cases ht : tyOf v0 = some "list"
    · simp only [if_pos ht] at m
      obtain ⟨a, e1, ro, n⟩ := k.ow i v0 q
      refine ⟨.ref a, e1, root_ty ro ht, r, G, k, ?_⟩
      cases hg : g r with
      | bad => simp only [hg] at m
      | ex e r1 => simp only [hg] at m ⊢; exact m
      | ok vs r1 =>
        simp only [hg] at m ⊢
        intro xs G1 H1 k1 st1 rs
        rcases q1 : r1[i]? with _ | _ | ⟨_ | _, v⟩
        · simp only [q1] at m
        · simp only [q1] at m
        · simp only [q1] at m
        · simp only [q1] at m
          cases hp : P v vs with
          | none => simp only [hp] at m
          | some vz =>
            obtain ⟨v', z⟩ := vz
            simp only [hp] at m
            obtain ⟨b, e2, ro1, n1⟩ := k1.ow i v q1
            rw [e1] at e2; cases e2
            exact ⟨a, v, vs, v', z, G1, rfl, k1.sub, (n1 a fp_self).1, ro1, rs, hp, fun u y hf hr hy => m y G1 _ ⟨k1.mut q1 e1 hf hr, st1.trans (step_mut k1 q1 e1 hf), trep_f hy, no_own⟩⟩
    · simp only [if_neg ht] at m
theorem pe_mut (pa : PlainAttrs "list") (slot : PySem.Slot "list" name id) (hty : typeOf (.builtin id) = pure (.type "method_descriptor")) (hm : MutP X A.w id P) (ho : PE X o (tVar i)) (ha : PA X (e :: es) (tAs A W g))
    (hbase : AsItIs X o name := by rfl)
    (hfew : FewPlain X (e :: es) cpos := by rfl)
    (hline : (apos.endLine == cpos.line) = true := by rfl) (hs : NoStar X e es := by rfl) (hplain : NoStars X es cpos := by rfl) :
    PE X (.Call (.Attribute o name apos) (e :: es) [] cpos) (tE A W (mutE "list" i P g)) := PE.imp (pe_bm pa slot hty hm ho ha hbase hfew hline hs hplain) fun _ _ _ q => mut_of q
theorem pe_mut0 (pa : PlainAttrs "list") (slot : PySem.Slot "list" name id) (hty : typeOf (.builtin id) = pure (.type "method_descriptor")) (hm : MutP X A.w id P) (ho : PE X o (tVar i))
    (hbase : AsItIs X o name := by rfl) (hline : (apos.endLine == cpos.line) = true := by rfl) : PE X (.Call (.Attribute o name apos) [] [] cpos) (tE A W (mutE "list" i P asNil)) :=
  PE.imp (pe_bm0 pa slot hty hm ho hbase hline) fun _ _ _ q => by
    obtain ⟨x, e, t, r, G, k, m⟩ := mut_of (X := X) q
    exact ⟨x, e, t, m [] G _ k Step.refl (reps_nil.mpr rfl)⟩
end
def Mappend : MutF
  | .lst ds, [v] => if ds.length < 100000 then some (.lst (ds ++ [v]), .non) else none
  | _, _ => none
def Mextend : MutF
  | .lst ds, [.lst es] => if ds.length + es.length ≤ 100000 then some (.lst (ds ++ es), .non) else none
  | _, _ => none
def Mpop : MutF
  | .lst ds, [] => match ds[ds.length - 1]? with
    | some d => some (.lst ds.dropLast, d)
    | none => none
  | _, _ => none
def MpopAt : MutF
  | .lst ds, [.int i] => match ixN ds.length i with
    | some j => match ds[j]? with
      | some d => if ds.length ≤ 100000 then some (.lst (ds.eraseIdx j), d) else none
      | none => none
    | none => none
  | _, _ => none
theorem reps_dropLast {w : Wd} {G : Hp} {ds : List Val} {xs : List V} (r : Reps w G ds xs) : Reps w G ds.dropLast xs.dropLast := by
  rw [List.dropLast_eq_take, List.dropLast_eq_take, reps_length r]
  exact reps_take _ r
section
variable {X : Cx} {w : Wd}
theorem root_l {G H : Hp} {ds : List Val} {a : Addr} {xs : List V} (r : Reps w G ds xs) : Root w G (upd H a (.lst xs)) (.lst ds) a := ⟨xs, upd_same, r⟩
theorem mutp_append : MutP X w "list.append" Mappend := by
  intro pins s σ H x xs v us Q I rx rxs ⟨a, d, vs, d', z, G, ex, le, n, ro, rs, hp, q⟩
  subst ex
  unfold Mappend at hp
  split at hp
  · split at hp
    · rename_i hl
      cases hp
      obtain ⟨ys, e, r⟩ := ro
      obtain ⟨y, _, rfl, r1, r2⟩ := reps_cons.mp rs
      rw [reps_nil] at r2; subst r2
      exact mt_append pins s σ H _ _ v us Q I rx rxs ⟨a, ys, y, rfl, rfl, e, by rw [← reps_length r]; exact Nat.lt_of_lt_of_le hl (by decide), q _ _ rfl (root_l (reps_append r (reps_one r1))) (rep_non.mpr rfl)⟩
    · cases hp
  · cases hp
theorem mutp_extend : MutP X w "list.extend" Mextend := by
  intro pins s σ H x xs v us Q I rx rxs ⟨a, d, vs, d', z, G, ex, le, n, ro, rs, hp, q⟩
  subst ex
  unfold Mextend at hp
  split at hp
  · split at hp
    · rename_i hl
      cases hp
      obtain ⟨ys, e, r⟩ := ro
      obtain ⟨y, _, rfl, r1, r2⟩ := reps_cons.mp rs
      rw [reps_nil] at r2; subst r2
      obtain ⟨b, zs, rfl, hb, rz⟩ := rep_lst.mp r1
      exact mt_extend pins s σ H _ _ v us Q I rx rxs ⟨a, b, ys, zs, rfl, rfl, e, le _ _ hb, by rw [← reps_length r, ← reps_length rz]; exact Nat.le_trans hl (by decide), q _ _ rfl (root_l (reps_append r rz)) (rep_non.mpr rfl)⟩
    · cases hp
  · cases hp
theorem mutp_pop : MutP X w "list.pop" Mpop := by
  intro pins s σ H x xs v us Q I rx rxs ⟨a, d, vs, d', z, G, ex, le, n, ro, rs, hp, q⟩
  subst ex
  unfold Mpop at hp
  split at hp
  · split at hp
    · rename_i d0 hd
      cases hp
      obtain ⟨ys, e, r⟩ := ro
      rw [reps_nil] at rs; subst rs
      obtain ⟨y, hy, ry⟩ := reps_get r hd
      rw [reps_length r] at hy
      exact mt_pop pins s σ H _ _ v us Q I rx rxs ⟨a, ys, y, rfl, rfl, e, hy, q _ _ rfl (root_l (reps_dropLast r)) ry⟩
    · cases hp
  · cases hp
theorem mutp_popAt : MutP X w "list.pop" MpopAt := by
  intro pins s σ H x xs v us Q I rx rxs ⟨a, d, vs, d', z, G, ex, le, n, ro, rs, hp, q⟩
  subst ex
  unfold MpopAt at hp
  split at hp
  · split at hp
    · rename_i j hj
      split at hp
      · rename_i d0 hd
        split at hp
        · rename_i hl
          cases hp
          obtain ⟨ys, e, r⟩ := ro
          have ei := reps_ints (ns := [_]) rs
          subst ei
          obtain ⟨y, hy, ry⟩ := reps_get r hd
          obtain ⟨h1, h2, h3, h4⟩ := ixN_seq hj
          have hlen := reps_length r
          exact mt_popAt pins s σ H _ _ v us Q I rx rxs ⟨a, ys, _, j, y, rfl, rfl, e, by omega, by omega, by rw [← hlen]; exact h1, hy, q _ _ rfl (root_l (reps_erase j r)) ry⟩
        · cases hp
      · cases hp
    · cases hp
  · cases hp
end

def putIx : Val → Val → Val → Option Val
  | .lst ds, .int k, v => (ixN ds.length k).map fun j => .lst (ds.set j v)
  | .dct false kvs, k, v => match keyOf k with
    | some q => if kvs.length < 100000 then some (.dct false (dPut kvs q v)) else none
    | none => none
  | _, _, _ => none
def setIx (i : Nat) (fk fe : EF) : SF := fun r => match frz fe r with
  | .ok _ v r1 => match r1[i]? with
    | some (some (true, _)) => match frz fk r1 with
      | .ok _ k r2 => match r2[i]? with
        | some (some (true, d)) => match putIx d k v with
          | some d' => .nx (r2.set i (some (true, d')))
          | none => .bad
        | _ => .bad
      | .ex e r2 => .ex e r2
      | .bad => .bad
    | _ => .bad
  | .ex e r1 => .ex e r1
  | .bad => .bad
def rPut (w : Wd) : V → V → V → Hp → (Hp → Prop) → Prop := fun o k x H Q => ∃ a d kd v d' G, o = .ref a ∧ Le G H ∧ G a = none ∧ Root w G H d a ∧ Rep w G kd k ∧ Rep w G v x ∧ putIx d kd v = some d' ∧ ∀ u, flat d' = true → Root w G (upd H a u) d' a → Q (upd H a u)
theorem set_put {X : Cx} {w : Wd} (c : Cal X w) : PSet X (rPut w) := by
  intro pins s σ H o k x ov kvv u Q I ro rk rx ⟨a, d, kd, v, d', G, eo, le, n, rt, rpk, rpx, hp, q⟩
  subst eo
  unfold putIx at hp
  split at hp
  · rw [Option.map_eq_some_iff] at hp
    obtain ⟨j, hj, e⟩ := hp
    subst e
    obtain ⟨ys, e, r⟩ := rt
    obtain rfl := rep_int.mp rpk
    exact set_list pins s σ H _ _ _ ov kvv u Q I ro rk rx ⟨a, ys, _, j, rfl, rfl, e, by rw [← reps_length r]; exact hj, q _ rfl (root_l (reps_set rpx j r))⟩
  · split at hp
    · rename_i qk hk
      split at hp
      · rename_i hl
        cases hp
        obtain ⟨_, kvs, e, r⟩ | ⟨ht, _⟩ := rt
        · obtain ⟨rfl, hb⟩ := rrep_key (H := H) (.inl rpk) hk
          have g : DPut H a (kV qk) x (upd H a (.dK (putK kvs qk x))) := DPut.k e (by rw [← repK_length r]; exact Nat.lt_of_lt_of_le hl (by decide))
          cases (show ov = Value.ref a from ro)
          exact d_setItem (by have := c.un; omega) I g rk rx fun s' I' => ⟨_, I', q _ rfl (.inl ⟨rfl, _, upd_same, repK_put r hb rpx⟩)⟩
        · cases ht
      · cases hp
    · cases hp
  · cases hp
theorem ps_setIx {X : Cx} {A : Act} {W : WX} {o ke e : Expr} {i : Nat} {fk fe : EF} {pos pos' : Pos} (c : Cal X A.w) (ho : PE X o (tVar i)) (hk : PE X ke (tE A W fk)) (he : PE X e (tE A W fe))
    (hs : swapsWithSole [.Subscript o ke pos'] e pos.line X.env = pure false := by rfl) (hw : swappedStores [.Subscript o ke pos'] e X.env = pure none := by rfl)
    (h1 : (assignEach [.Subscript o ke pos'] X.env).map (·.2) = [assign (.Subscript o ke pos') X.env] := by rfl)
    (ha : ∀ v, assign (.Subscript o ke pos') X.env v = (do
      let ov ← holding [v] (eval o X.env)
      let iv ← holding [v, ov] (eval ke X.env)
      standAt pos'
      holding [v, ov, iv] (setItem ov iv v)
      release [v, ov, iv] []) := by intro _; rfl) : PS X (.Assign [.Subscript o ke pos'] e pos) (tSt A W (setIx i fk fe)) := by
  refine PS.imp (ps_asg (pe_frz he) (pg_sub ho (pe_frz hk) (set_put c) ha) hs hw h1) fun D σ H h => ?_
  obtain ⟨r, G, k, m⟩ := tSt_iff.mp h
  refine ⟨r, G, k, ?_⟩
  unfold setIx at m
  cases hf : frz fe r with
  | bad => rw [hf] at m; exact m.elim
  | ex e r' => rw [hf] at m; exact m σ
  | ok o0 v r1 =>
    have eo := frz_false hf
    subst eo
    simp only [hf] at m ⊢
    intro x G1 H1 R1
    have k1 := R1.ok
    rcases q1 : r1[i]? with _ | _ | ⟨_ | _, d0⟩
    · simp only [q1] at m; exact m.elim
    · simp only [q1] at m; exact m.elim
    · simp only [q1] at m; exact m.elim
    · simp only [q1] at m
      obtain ⟨a, e1, ro, n⟩ := k1.ow i d0 q1
      refine ⟨.ref a, e1, r1, G1, k1, ?_⟩
      cases hk' : frz fk r1 with
      | bad => simp only [hk'] at m; exact m.elim
      | ex e r2 => simp only [hk'] at m ⊢; exact (show ExP A W G σ e r2 from m σ).mono R1.st.ex
      | ok o1 kd r2 =>
        have eo := frz_false hk'
        subst eo
        simp only [hk'] at m ⊢
        intro y G2 H2 R2
        have k2 := R2.ok
        rcases q2 : r2[i]? with _ | _ | ⟨_ | _, d⟩
        · simp only [q2] at m; exact m.elim
        · simp only [q2] at m; exact m.elim
        · simp only [q2] at m; exact m.elim
        · simp only [q2] at m
          cases hp : putIx d kd v with
          | none => simp only [hp] at m; exact m.elim
          | some d' =>
            simp only [hp] at m
            obtain ⟨b, e2, ro2, n2⟩ := k2.ow i d q2
            rw [e1] at e2; cases e2
            exact ⟨a, d, kd, v, d', G2, rfl, k2.sub, (n2 a fp_self).1, ro2, R2.tr, Rep.mono R2.st.ex R1.tr, hp, fun u hf hr => m σ G2 _ (k2.mut q2 e1 hf hr) (R1.st.ex.trans R2.st.ex)⟩

inductive DR where
  | ok (kvs : List (Val × Val)) (r : Env) | ex (e : Val) (r : Env) | bad
def dspL : List (EF × EF) → Env → DR
  | [], r => .ok [] r
  | (fk, fv) :: l, r => match frz fk r with
    | .ok _ k r1 => match frz fv r1 with
      | .ok _ v r2 => match dspL l r2 with
        | .ok kvs r3 => .ok ((k, v) :: kvs) r3
        | x => x
      | .ex e r2 => .ex e r2
      | .bad => .bad
    | .ex e r1 => .ex e r1
    | .bad => .bad
def putAll (acc : List (Val × Val)) : List (Val × Val) → Option (List (Val × Val))
  | [] => some acc
  | (k, v) :: kvs => match keyOf k with
    | some q => putAll (dPut acc q v) kvs
    | none => none
def dsp (l : List (EF × EF)) : EF := fun r => match dspL l r with
  | .ok kvs r1 => if kvs.length ≤ 15 then match putAll [] kvs with
      | some ds => .ok true (.dct false ds) r1
      | none => .bad
    else .bad
  | .ex e r1 => .ex e r1
  | .bad => .bad
def dNew (t : Bool) : EF := fun r => .ok true (.dct t []) r
theorem reps_pairs {w : Wd} {G : Hp} : ∀ {kvs ds : List (Val × Val)} {acc : List (Val × Val)} {ks : List (Key × V)} {ps : List (V × V)}, putAll acc kvs = some ds → RepK w G acc ks → (Paired (fun (p : Val × Val) (q : V × V) => Rep w G p.1 q.1 ∧ Rep w G p.2 q.2) kvs ps) →
    ∃ qs : List (Key × V), ps = qs.map (fun kv => (kV kv.1, kv.2)) ∧ qs.length = kvs.length ∧ RepK w G ds (mergeK ks qs)
  | [], ds, acc, ks, _, h, r, .nil => by
    simp only [putAll, Option.some.injEq] at h
    subst h
    exact ⟨[], rfl, rfl, r⟩
  | (k, v) :: kvs, ds, acc, ks, _ :: _, h, r, .cons (b := b) hb t => by
    simp only [putAll] at h
    split at h
    · rename_i q hq
      obtain ⟨e1, e2⟩ := rrep_key (H := G) (.inl hb.1) hq
      obtain ⟨qs, e3, e4, e5⟩ := reps_pairs h (repK_put r e2 hb.2) t
      refine ⟨(q, b.2) :: qs, ?_, by simp [e4], e5⟩
      rw [List.map_cons, e3, ← e1]
    · cases h
section
variable {X : Cx} {A : Act} {W : WX} {pos : Pos}
theorem Ok.other {G H : Hp} {σ : L2.St} {r : Env} {p : Addr} {u : HO} (k : Ok A G H σ r) (n : G p = none) (hc : H p = none ∨ ∃ u, H p = some u ∧ Con u) (nr : ¬ Rt H r σ p) (l : A.L p ∨ A.H0 p = none) (ho : ∀ ps, u ≠ .tbl ps := by intro _ z; cases z) : Ok A G (upd H p u) σ r := k.tmp n hc nr l ho
theorem pe_dNewK : PE X (.Dict [] [] pos) (tE A W (dNew false)) := PE.imp pe_dnewK fun σ H Q ⟨r, G, k, m⟩ p hp => by
  have gr := Grow.laidH (o := .dK []) k.sub hp
  exact m _ G _ ⟨k.grow gr, gr.step k, trep_t (.inl ⟨rfl, _, upd_same, by rw [RepK]⟩) (k.sub.back hp) (fun z => k.notRt hp ((k.rtK (Ok.growK gr) p).mp z)) (k.fresh hp), fr_one (.inl hp)⟩
end
end M
namespace M
open PySem PySem.Spec PyProof.Rows L2

/-- what stood in h stands in h' -/
abbrev Below (h h' : Heap) : Prop := ∀ b o, b < h.objs.size → h.get? b = some o → h'.get? b = some o
def metS (ss : List Str) : Nat → List Str
  | 0 => []
  | i + 1 => match ss[i]? with
    | some x => if (metS ss i).any (· == x) = true then metS ss i else metS ss i ++ [x]
    | none => metS ss i
theorem metS_le (ss : List Str) : ∀ i, (metS ss i).length ≤ i
  | 0 => Nat.le_refl _
  | i + 1 => by
    have ih := metS_le ss i
    rw [metS]
    split
    · split
      · omega
      · simp; omega
    · omega
theorem metS_any {ss : List Str} {i : Nat} {x : Str} (h : ss[i]? = some x) (k : Str) : (metS ss (i + 1)).any (· == k) = ((metS ss i).any (· == k) || decide (k = x)) := by
  rw [metS, h]
  simp only
  by_cases hx : (metS ss i).any (· == x) = true
  · rw [if_pos hx]
    by_cases e : k = x
    · rw [e, hx]; simp
    · simp [e]
  · rw [if_neg hx, List.any_append]
    by_cases e : k = x
    · rw [e]; simp
    · have : (x == k) = false := beq_eq_false_iff_ne.mpr fun z => e z.symm
      simp [this, e]
theorem metS_len {ss : List Str} {i : Nat} {x : Str} (h : ss[i]? = some x) : (metS ss (i + 1)).length = if (metS ss i).any (· == x) = true then (metS ss i).length else (metS ss i).length + 1 := by
  rw [metS, h]
  simp only
  split <;> simp

section
variable {P : Program} {w : World} {A : Around} {J : Addr} {fp wr : List Addr} {G : Array GenState → Array GenState → Prop} {items : Array Value} {St : Nat → Shared → Prop} {ss : List Str}
theorem set_grow {R : Result → Shared → Prop} (W : WalksS P w A.in1 J fp wr G items.size (fun i v => items[i]? = some v) St) (S : Addr) (out : S ∉ fp) (hz : items.size = ss.length)
    (tx : ∀ (i : Nat) (v : Value), items[i]? = some v → ∃ x t, ss[i]? = some x ∧ v = .str x t) (few : ss.length + 1 < scanBound) :
    ∀ (left i : Nat) (s : Shared), items.size - i = left → i ≤ items.size → St i s → s.heap.SetOf (PySem.strKind P w) S (fun k => (metS ss i).any (· == k)) (metS ss i).length →
      (∀ s', Moved (S :: wr) G s s' → s'.heap.SetOf (PySem.strKind P w) S (fun k => (metS ss ss.length).any (· == k)) (metS ss ss.length).length → R (.ok (.ret .none)) s') →
      codeAny (model P w) A (.builtin "set.update.loop" ⟨[.ref S, .ref J], []⟩) R s := by
  have sw : S ∉ wr := fun z => out (W.sub _ z)
  have wide : ∀ b ∈ wr, b ∈ S :: wr := fun b z => List.mem_cons_of_mem _ z
  have same : ∀ {s1 s2 : Shared} {T : Str → Bool} {n : Nat}, Moved wr G s1 s2 → s1.heap.SetOf (PySem.strKind P w) S T n → s2.heap.SetOf (PySem.strKind P w) S T n := by
    rintro s1 s2 T n mv ⟨o, es, ep, tb, ho, rest⟩
    exact ⟨o, es, ep, tb, mv.heap S _ sw ho, rest⟩
  intro left
  induction left with
  | zero =>
    intro i s hk hi st hS fin
    have hin : i = items.size := by omega
    subst hin
    refine codeAny_builtin F.entry_set_update_loop ?_
    rw [Around.under_plainId F.plain_set_update_loop _]
    show wpAny _ A.in1 (pyNext (.ref J) >>= _) _ _ s
    refine wpAny_bind (W.done s _ _ st fun s' mv => ?_)
    show wpAny _ A.in1 (PySem.ret Value.none) _ _ s'
    rw [hz] at hS
    exact wpAny_pure (fin s' (mv.mono wide) (same mv hS))
  | succ left ih =>
    intro i s hk hi st hS fin
    have lt : i < items.size := by omega
    refine codeAny_builtin F.entry_set_update_loop ?_
    rw [Around.under_plainId F.plain_set_update_loop _]
    show wpAny _ A.in1 (pyNext (.ref J) >>= _) _ _ s
    refine wpAny_bind (W.item i s _ _ lt st fun v s' hv st' mv => ?_)
    obtain ⟨x, t, hx, rfl⟩ := tx i v hv
    have hS' := same mv hS
    show wpAny _ A.in1 (holding [Value.str x t] (setAdd S (.str x t)) >>= _) _ _ s'
    refine wpAny_bind (wpAny_holding ?_)
    unfold setAdd
    refine wpAny_holding ?_
    refine wpAny_bind ((PySem.strKind P w).pyHash (k := x) (strKind_is _ _ _ _) ?_)
    have room : (metS ss i).length + 1 < scanBound := by
      have := metS_le ss i
      omega
    refine wpAny_setAddHashed_of (knd := PySem.strKind P w) (s := { s' with toks := s'.toks + 1 }) (strKind_is _ _ _ _) rfl hS' room fun h' sb hS2 => ?_
    have hS3 : h'.SetOf (PySem.strKind P w) S (fun k => (metS ss (i + 1)).any (· == k)) (metS ss (i + 1)).length :=
      SetOf_congr hS2 (fun k => (metS_any hx k).symm) (metS_len hx).symm
    refine wpAny_pure ⟨plainId_quiet F.plain_set_update_loop _, ih (i + 1) _ (by omega) lt (W.frame _ s' _ _ st' (Nat.le_succ _) fun b hb o e => ?_) hS3 fun s2 mv2 hS4 => ?_⟩
    · rw [sb.2 b (fun z : b = S => out (by rw [← z]; exact hb))]
      exact e
    · refine fin s2 (Moved.trans W.gtrans ((mv.mono wide).then_heap (Nat.le_succ _) fun b o hb e => ?_) mv2) hS4
      rw [sb.2 b (fun z : b = S => hb (by rw [z]; exact List.mem_cons_self))]
      exact e
end
end M
namespace PySem
set_option maxHeartbeats 8000000 in
/-- set(t) -/
theorem set_tupTexts {prog : Program} {w : World} {A : Around} {E : Value → Shared → Prop} {s : Shared} {t : Addr} {items : Array Value} {ss : List Str} {Q : Value → Shared → Prop}
    (calm : A.handled = none) (ht : s.heap.IsTuple t items) (hz : items.size = ss.length) (tx : ∀ (i : Nat) (v : Value), items[i]? = some v → ∃ x k, ss[i]? = some x ∧ v = .str x k) (few : ss.length + 1 < scanBound)
    (fin : ∀ (h' : Heap) (tk : Nat), h'.SetOf (PySem.strKind prog w) s.heap.objs.size (fun k => (M.metS ss ss.length).any (· == k)) (M.metS ss ss.length).length →
      M.Below s.heap h' → Q (.ref s.heap.objs.size) { s with heap := h', toks := tk }) :
    wpAny (model prog w) A (call (.type "set") [.ref t]) Q E s := by
  obtain ⟨c, tl, hmro⟩ := F.called_set.mro
  have made := F.called_set.made
  have subs := F.called_set.sub
  refine wpAny_call (codeAny_of_tree ?_)
  show wpAny _ _ (callAny (.type "set") _) _ _ _
  refine wpAny_pure ⟨Code.quiet_builtin _ (by decide +kernel), codeAny_builtin F.entry_type_call ?_⟩
  rw [Around.under_plain (weight_type_call_type "set" [.ref t] []) rfl]
  have nt := F.called_set.notType
  have cc := F.called_set.canCreate
  have tc := F.typeCall_set_1 (.ref t)
  repeat (any_goals (first | assumption | wp_step))
  let fresh : Bool → Obj := fun led => { cls := .type "set", dict := none, data := .set #[] 0 (.fresh 0 0 led) }
  refine codeAny_mono (code_set_new_1 (.ref t) (E := E) (Q₁ := fun ob s₁ => ∃ led : Bool, ob = .ref s.heap.objs.size ∧ s₁ = { s with heap := s.heap.push (fresh led) }) fun led => ⟨led, rfl, rfl⟩) fun r s₁ hr => ?_
  cases r with
  | error e => exact hr
  | ok fl =>
    cases fl with
    | ret ob =>
      obtain ⟨led, rfl, rfl⟩ := hr
      have hS : (s.heap.push (fresh led)).get? s.heap.objs.size = some (fresh led) := Heap.get?_push_size _ rfl
      have hT : Shared.TypeIs { s with heap := s.heap.push (fresh led) } (.ref s.heap.objs.size) "set" := ⟨_, hS, rfl⟩
      have il := F.called_set.init.lookup
      have ib := F.called_set.init.bind (.ref s.heap.objs.size)
      repeat (any_goals (first | assumption | wp_step))
      refine codeAny_mono (codeAny_call_builtin (R := wants (fun r s₂ => r = .none ∧ ∃ h' tk, s₂ = { s with heap := h', toks := tk } ∧
          h'.SetOf (PySem.strKind prog w) s.heap.objs.size (fun k => (M.metS ss ss.length).any (· == k)) (M.metS ss ss.length).length ∧
          M.Below s.heap h') E) F.called_set.init.plain F.entry_set_init (check_set_init_1 hT ?_)) fun r₂ s₂ hr₂ => ?_
      · obtain ⟨ot, hot, hct, nt', hdt⟩ := ht
        obtain ⟨ocls, odict, odata, oslots⟩ := ot
        simp only at hct hdt
        subst hct; subst hdt
        have tt : (s.heap.push (fresh led)).get? t = some { cls := .type "tuple", dict := odict, data := .seq items nt', slots := oslots } := Heap.get?_push_of_some _ hot
        have u1 := F.sub_tuple_set
        have u2 := F.sub_tuple_frozenset
        have ne : (Value.type "tuple" == Value.type "dict") = false := by decide
        have tup1 : (s.heap.push (fresh led)).IsTuple t items := ⟨_, tt, rfl, nt', rfl⟩
        unfold Builtin.«set.__init__» noKeywords Builtin.Frozenset.updateFrom
        generalize hPI : pyIter = PI
        wp_walk
        subst hPI
        refine wpAny_pyIter_tuple tup1 ?_
        refine wpAny_bind (wpAny_runValue ?_)
        have below : t < s.heap.objs.size := Heap.lt_size hot
        have calm3 : A.in1.in1.in1.handled = none := by simp [calm]
        have z1 : (s.heap.push (fresh led)).objs.size = s.heap.objs.size + 1 := Heap.size_push ..
        have away : t ≠ (s.heap.push (fresh led)).objs.size := by
          rw [z1]
          exact Nat.ne_of_lt (Nat.lt_succ_of_lt below)
        have out : s.heap.objs.size ∉ [(s.heap.push (fresh led)).objs.size, t] := by
          rw [z1]
          simp only [List.mem_cons, List.not_mem_nil, or_false, not_or]
          exact ⟨Nat.ne_of_lt (Nat.lt_succ_self _), Nat.ne_of_gt below⟩
        refine M.set_grow ((Walks.tuple calm3 _ t away items).toS) s.heap.objs.size out hz tx few (items.size - 0) 0 _ (by omega) (Nat.zero_le _) ⟨⟨_, Heap.get?_push_size _ rfl, rfl, rfl⟩, (tup1.push _)⟩ ?start ?stop
        case start =>
          have got : ((s.heap.push (fresh led)).push { cls := .type "tuple_iterator", data := .fields #[.ref t, .int 0 0] }).get? s.heap.objs.size = some (fresh led) := Heap.get?_push_of_some _ hS
          exact PyProof.Rows.SetOf_congr ((PyProof.Rows.setObjOf_fresh (knd := PySem.strKind prog w) led).setOf got (by unfold scanBound; omega)) (fun _ => rfl) rfl
        case stop =>
          intro s' mv hS'
          obtain ⟨h', g', d', tk', os'⟩ := s'
          have e1 : g' = s.gens := mv.gens
          have e2 : d' = s.drawn := mv.drawn
          have e3 : os' = s.os := mv.os
          subst e1 e2 e3
          show wpAny _ _ _ _ _ _
          refine wpAny_pure ?_
          show wpAny _ _ (ret Value.none) _ _ _
          refine wpAny_pure ⟨rfl, h', tk', rfl, hS', fun b o hb e => ?_⟩
          refine mv.heap b o ?_ (Heap.get?_push_of_some _ (Heap.get?_push_of_some _ e))
          simp only [List.mem_cons, List.not_mem_nil, or_false, not_or]
          rw [z1]
          exact ⟨Nat.ne_of_lt hb, Nat.ne_of_lt (Nat.lt_succ_of_lt hb)⟩
      · cases r₂ with
        | error e => exact hr₂
        | ok fl₂ =>
          cases fl₂ with
          | ret r =>
            obtain ⟨rfl, h', tk, rfl, hS', hk'⟩ := hr₂
            repeat (any_goals (first | assumption | wp_step))
            exact fin _ _ hS' hk'
          | _ => exact hr₂.elim
    | _ => exact hr.elim
end PySem
namespace M
open PySem L2
def lenSet (f : EF) : EF := fun r => match frz f r with
  | .ok _ v r' => match v with
    | .tup ds => match asStrs ds with
      | some ss => if ss.length ≤ 1000 then .ok false (.int (metS ss ss.length).length) r' else .bad
      | none => .bad
    | _ => .bad
  | .ex e r' => .ex e r'
  | .bad => .bad
section
variable {X : Cx} {A : Act} {W : WX} {a : Expr} {f : EF} {p p2 q pos : Pos}
theorem vals_texts : ∀ {ss : List Str} {us : List Value}, Vals (ss.map V.str) us → ∀ (i : Nat) (v : Value), us[i]? = some v → ∃ x k, ss[i]? = some x ∧ v = .str x k
  | [], _, .nil, i, v, h => by simp at h
  | s :: ss, _ :: _, .cons r rs, 0, v, h => by
    obtain ⟨t, rfl⟩ := r
    simp at h
    exact ⟨s, t, rfl, h.symm⟩
  | s :: ss, _ :: _, .cons r rs, i + 1, v, h => by
    obtain ⟨x, k, h1, h2⟩ := vals_texts rs i v (by simpa using h)
    exact ⟨x, k, by simpa using h1, h2⟩
theorem pe_lenSet (c : Cal X A.w) (hg : Gl X "len") (hm : X.mg "len" = none) (hg2 : Gl X "set") (hm2 : X.mg "set" = none) (ha : PE X a (tE A W f)) (na : starEach [a] X.env = (false, eval a X.env) :: starEach [] X.env := by rfl) :
    PE X (.Call (.Name "len" p) [.Call (.Name "set" p2) [a] [] q] [] pos) (tE A W (lenSet f)) := by
  refine ⟨fun pins s σ H Q I h => ?_⟩
  have h2 : tE A W (frz f) σ H fun x H1 => ∃ (t : Addr) (ss : List Str), x = .ref t ∧ SqT X.K H1 t (ss.map V.str) ∧ ss.length ≤ 1000 ∧ Q (.int ((metS ss ss.length).length : Nat)) H1 := by
    obtain ⟨r, G, k, m⟩ := h
    refine ⟨r, G, k, ?_⟩
    unfold lenSet at m
    cases hf : frz f r with
    | bad => simp only [hf] at m
    | ex e r' => simp only [hf] at m ⊢; exact m
    | ok o v r' =>
      have eo := frz_false hf
      subst eo
      simp only [hf] at m ⊢
      intro x G1 H1 R
      cases v with
      | tup ds =>
        simp only at m
        cases hs : asStrs ds with
        | none => simp only [hs] at m
        | some ss =>
          simp only [hs] at m
          by_cases hl : ss.length ≤ 1000
          · simp only [if_pos hl] at m
            obtain ⟨t, xs, rfl, sq, rs⟩ := rep_tup.mp (show Rep A.w G1 (.tup ds) x from R.tr)
            rw [asStrs_some hs] at rs
            rw [reps_strs rs, c.K] at sq
            exact ⟨t, ss, rfl, sqt_mono R.ok.sub sq, hl, m _ G1 H1 ⟨R.ok, R.st, trep_f (rep_int.mpr rfl), no_own⟩⟩
          · simp only [if_neg hl] at m
      | _ => exact m.elim
  refine PyProof.Rows.Call_ (ld_blt I hg hm PySem.boot_len ?_)
  refine PyProof.Rows.callWith_builtin1 (PyProof.Rows.args_cons ?_ rfl) rfl rfl
  refine PyProof.Rows.Call_ (ld_blt I hg2 hm2 PyProof.Rows.boot_set ?_)
  refine PyProof.Rows.callWith_type1 (PyProof.Rows.args_cons (wpAny_mono ((pe_frz ha).run pins s σ H _ I h2) (fun v s1 ⟨x, H1, I1, r1, t, ss, ex, sq, hl, q1⟩ => PyProof.Rows.args_nil ?_) fun _ _ z => z) na) na rfl
  subst ex
  cases r1
  obtain ⟨its, rv, pl, _⟩ := I1.tuple sq
  have hz : its.toArray.size = ss.length := by
    rw [List.size_toArray, ← rv.length, List.length_map]
  refine PySem.set_tupTexts (ss := ss) (I1.ok.hd c.calm) (show s1.heap.IsTuple t its.toArray from pl) hz (fun i v hv => vals_texts rv i v (by simpa using hv)) (by unfold scanBound; omega) fun h' tk hS hk => ?_
  refine PyProof.Rows.args_nil ?_
  obtain ⟨o, es, ep, tb, ho, hex, hd, _, _, _, hfr, hn⟩ := hS
  have I2 : Inv X pins σ H1 { s1 with heap := h', toks := tk } := I1.kept fun b o e => hk b o (Heap.lt_size e) e
  have le := metS_le ss ss.length
  exact call_len_set ho hex hd hfr (by rw [hn]; omega) ⟨.int _, H1, I2.tok _, ⟨_, by rw [hn]⟩, q1⟩
end
end M
namespace M
open PySem L2

def orP (P P' : List Val → Option (Bool × Val)) : List Val → Option (Bool × Val) := fun vs => match P vs with
  | some r => some r
  | none => P' vs
theorem rOf_or {w : Wd} {P P' : List Val → Option (Bool × Val)} {xs : List V} {H : Hp} {Q : VK} (h : rOf w (orP P P') xs H Q) : rOf w P xs H Q ∨ rOf w P' xs H Q := by
  obtain ⟨G, vs, o, z, le, rr, hp, q⟩ := h
  unfold orP at hp
  cases e : P vs with
  | none => rw [e] at hp; exact .inr ⟨G, vs, o, z, le, rr, hp, q⟩
  | some r => rw [e] at hp; exact .inl ⟨G, vs, o, z, le, rr, by rw [e]; exact hp, q⟩
section
variable {X : Cx} {w : Wd}
theorem opr_or {f : Value → Value → Sem Value} {P P' : List Val → Option (Bool × Val)} (h : OpR X f (r2Of w P)) (h' : OpR X f (r2Of w P')) : OpR X f (r2Of w (orP P P')) := fun pins s σ H x y v u Q I rx ry q =>
  (rOf_or (xs := [x, y]) q).elim (fun q => h pins s σ H x y v u Q I rx ry q) fun q => h' pins s σ H x y v u Q I rx ry q
theorem cr_or {f : Value} {P P' : List Val → Option (Bool × Val)} (h : CallR X f (rOf w P)) (h' : CallR X f (rOf w P')) : CallR X f (rOf w (orP P P')) := fun pins s σ H xs us Q I r q =>
  (rOf_or q).elim (fun q => h pins s σ H xs us Q I r q) fun q => h' pins s σ H xs us Q I r q

def PinD : List Val → Option (Bool × Val)
  | [k, .dct false kvs] => match keyOf k with
    | some q => some (false, .bl (dGet kvs q).isSome)
    | none => none
  | _ => none
def PnotInD : List Val → Option (Bool × Val)
  | [k, .dct false kvs] => match keyOf k with
    | some q => some (false, .bl (!(dGet kvs q).isSome))
    | none => none
  | _ => none
theorem dget_rel {G H : Hp} {a : Addr} {q : Key} {ds : List (Val × Val)} {kvs : List (Key × V)} (h : Rd H a (.dK kvs)) (rk : RepK w G ds kvs) : ∃ o, DGet H a (kV q) o ∧ o.isSome = (dGet ds q).isSome := by
  obtain ⟨g1, g2⟩ := repK_get (w := w) (G := G) q rk
  refine ⟨valV kvs q, .inl ⟨kvs, q, h, rfl, rfl⟩, ?_⟩
  cases e : dGet ds q with
  | none => rw [g2 e]; rfl
  | some d => obtain ⟨x, e1, _⟩ := g1 d e; rw [e1]; rfl
theorem opr_inD (c : Cal X w) : OpR X (compareOp .In) (r2Of w PinD) := by
  intro pins s σ H x y v u Q I rx ry ⟨G, vs, o, z, le, rr, hp, q⟩
  unfold PinD at hp
  split at hp
  · obtain ⟨_, _, e, r1, r2⟩ := rreps_two rr
    cases e
    split at hp
    · rename_i qk hk
      cases hp
      obtain ⟨rfl, _⟩ := rrep_key r1 hk
      obtain ⟨a, rfl, ⟨_, kvs, h, rk⟩ | ⟨ht, _⟩⟩ := rrep_dct le r2
      · obtain ⟨ov, g, e⟩ := dget_rel (q := qk) h rk
        cases (show u = Value.ref a from ry)
        exact d_in (by have := c.un; omega) I g rx fun s3 I3 => ⟨.bl ov.isSome, H, I3, rfl, by rw [e]; exact bl_new le q⟩
      · cases ht
    · cases hp
  · cases hp
theorem opr_notInD (c : Cal X w) : OpR X (compareOp .NotIn) (r2Of w PnotInD) := by
  intro pins s σ H x y v u Q I rx ry ⟨G, vs, o, z, le, rr, hp, q⟩
  unfold PnotInD at hp
  split at hp
  · obtain ⟨_, _, e, r1, r2⟩ := rreps_two rr
    cases e
    split at hp
    · rename_i qk hk
      cases hp
      obtain ⟨rfl, _⟩ := rrep_key r1 hk
      obtain ⟨a, rfl, ⟨_, kvs, h, rk⟩ | ⟨ht, _⟩⟩ := rrep_dct le r2
      · obtain ⟨ov, g, e⟩ := dget_rel (q := qk) h rk
        cases (show u = Value.ref a from ry)
        exact d_notIn (by have := c.un; omega) I g rx fun s3 I3 => ⟨.bl (!ov.isSome), H, I3, rfl, by rw [e]; exact bl_new le q⟩
      · cases ht
    · cases hp
  · cases hp
def PinX := orP PinD Pin
def PnotInX := orP PnotInD PnotIn
theorem opr_inX (c : Cal X w) : OpR X (compareOp .In) (r2Of w PinX) := opr_or (opr_inD c) (opr_in c)
theorem opr_notInX (c : Cal X w) : OpR X (compareOp .NotIn) (r2Of w PnotInX) := opr_or (opr_notInD c) (opr_notIn c)

def Pindex : List Val → Option (Bool × Val)
  | [.lst ds, v] => match toDs ds, toD v with
    | some es, some d => if shp (.list es) = true ∧ shp d = true then (es.findIdx? fun z => PyData.eqv z d).map fun j => (false, .int (j : Nat)) else none
    | _, _ => none
  | _ => none
theorem mtp_index (c : Cal X w) : MtP X w "list.index" Pindex := by
  intro pins s σ H x xs v us Q I rx rxs ⟨G, vs, o, z, le, rr, hp, q⟩
  unfold Pindex at hp
  split at hp
  · obtain ⟨_, _, e, r1, r2⟩ := rreps_two rr
    cases e
    split at hp
    · rename_i es d h1 h2
      split at hp
      · rename_i hs
        rw [Option.map_eq_some_iff] at hp
        obtain ⟨j, hj, e⟩ := hp
        cases e
        obtain ⟨a, ys, rfl, h, rs⟩ := rrep_lst le r1
        have hl : Dp X.K H (.ref a) (.list es) := .lst (.inl (.inl h)) (dps_of c.K le rs h1)
        obtain ⟨jl, e1, e2⟩ := List.findIdx?_eq_some_iff_getElem.mp hj
        exact mt_indexD (by have := c.un; omega) pins s σ H _ _ v us Q I rx rxs ⟨a, _, d, es, j, es[j], rfl, rfl, hl, dp_rrep c.K le r2 h2, hs.1, hs.2, by simp [jl], e1, fun m z' hm hz => by
          have hm' : m < es.length := Nat.lt_trans hm jl
          rw [List.getElem?_eq_getElem hm'] at hz
          cases hz
          exact Bool.eq_false_iff.mpr (e2 m hm), int_new le q⟩
      · cases hp
    · cases hp
  · cases hp
end

def Prev : List Val → Option (Bool × Val)
  | [.lst ds] => some (true, .lst ds.reverse)
  | _ => none
section
variable {X : Cx} {A : Act} {W : WX} {x : Expr} {fo : OF} {k0 : Nat} {p1 p2 p3 pos : Pos}
end

def asg2 (i j : Nat) (g : AF) : SF := fun r => match g r with
  | .ok [v, u] r1 => .nx ((r1.set i (some (false, v))).set j (some (false, u)))
  | .ok _ _ => .bad
  | .ex e r1 => .ex e r1
  | .bad => .bad
def asgT (t : TF) (f : EF) : SF := fun r => match frz f r with
  | .ok _ v r1 => match t v r1 with
    | some r2 => .nx r2
    | none => .bad
  | .ex e r1 => .ex e r1
  | .bad => .bad
section
variable {X : Cx} {A : Act} {W : WX} {e tg a b : Expr} {f : EF} {g : AF} {t : TF} {sl : List Nat} {pos px py pt : Pos} {i j : Nat} {x y : Str} {kt k2 : Nat} {pt2 : Pos}
theorem ps_asgT (he : PE X e (tE A W f)) (hg : PG X tg (tTg A sl t)) (hs : swapsWithSole [tg] e pos.line X.env = pure false := by rfl) (hw : swappedStores [tg] e X.env = pure none := by rfl) (h1 : (assignEach [tg] X.env).map (·.2) = [assign tg X.env] := by rfl) :
    PS X (.Assign [tg] e pos) (tSt A W (asgT t f)) :=
  PS.imp (ps_asg (pe_frz he) hg hs hw h1) fun D σ H h => by
    obtain ⟨r, G, k, m⟩ := tSt_iff.mp h
    refine ⟨r, G, k, ?_⟩
    unfold asgT at m
    cases hf : frz f r with
    | bad => rw [hf] at m; exact m.elim
    | ex e r' => rw [hf] at m; exact m σ
    | ok o v r1 =>
      have eo := frz_false hf
      subst eo
      simp only [hf] at m ⊢
      intro x G1 H1 R
      refine ⟨r1, G1, v, R.ok, R.tr, ?_⟩
      cases ht : t v r1 with
      | none => simp only [ht] at m; exact m.elim
      | some r2 => simp only [ht] at m ⊢; exact fun σ' k' _ _ => m σ' G1 H1 k' R.st.ex
end

def asStar (f : EF) (g : AF) : AF := fun r => match frz f r with
  | .ok _ v r1 => match Plist [v] with
    | some (true, .lst ds) => match g r1 with
      | .ok vs r2 => .ok (ds ++ vs) r2
      | .ex e r2 => .ex e r2
      | .bad => .bad
    | _ => .bad
  | .ex e r1 => .ex e r1
  | .bad => .bad
section
variable {X : Cx} {A : Act} {W : WX} {e : Expr} {es : List Expr} {f : EF} {g : AF} {p : Pos}
theorem pa_asStar (c : Cal X A.w) (he : PE X e (tE A W f)) (hr : PA X es (tAs A W g)) (hs : starEach (.Starred e p :: es) X.env = (true, eval e X.env) :: starEach es X.env := by rfl) : PA X (.Starred e p :: es) (tAs A W (asStar f g)) :=
  PA.imp (StX.pa_star (pe_frz he) hr hs) fun σ H Q ⟨r, G, k, m⟩ => ⟨r, G, k, by
    unfold asStar at m
    cases hf : frz f r with
    | bad => simp only [hf] at m
    | ex e r' => simp only [hf] at m ⊢; exact m
    | ok o v r1 =>
      have eo := frz_false hf
      subst eo
      simp only [hf] at m ⊢
      intro x G1 H1 R1
      cases hp : Plist [v] with
      | none => simp only [hp] at m
      | some oz =>
        obtain ⟨o, z⟩ := oz
        cases o with
        | false => simp only [hp] at m
        | true =>
          cases z with
          | lst ds =>
            simp only [hp] at m
            obtain ⟨a, xs, rfl, hsq, rs⟩ := rrep_seq c R1.ok.sub (.inl R1.tr) hp
            refine ⟨a, xs, rfl, hsq.symm, r1, G1, R1.ok, ?_⟩
            cases hg : g r1 with
            | bad => simp only [hg] at m
            | ex e r2 => simp only [hg] at m ⊢; exact m.mono R1.st.ex
            | ok vs r2 =>
              simp only [hg] at m ⊢
              intro ys G2 H2 k2 st2 rs2
              exact m (xs ++ ys) G2 H2 k2 (R1.st.trans st2) (reps_append (rs.mono st2.ex) rs2)
          | _ => simp only [hp] at m⟩
end

def zipV : List Val → List Val → List Val
  | u :: us, v :: vs => .tup [u, v] :: zipV us vs
  | _, _ => []
def zipOf : List Val → Option (List Val)
  | [.tup us, .tup vs] => some (zipV us vs)
  | [.lst us, .lst vs] => some (zipV us vs)
  | _ => none
def itZip (g : AF) : IF := itR zipOf g
section
variable {w : Wd} {K : PySem.W.Frag} {G : Hp} {us vs : List Val} {xs ys : List V} {a b : Addr}
end
section
variable {X : Cx} {A : Act} {W : WX} {e e2 : Expr} {g : AF} {p pos tpos : Pos} {elts : List Expr} {kk : Nat}
end

mutual
def noLst : PyData → Bool
  | .none => true
  | .bool _ => true
  | .int _ => true
  | .str _ => true
  | .tuple xs => noLsts xs
  | _ => false
def noLsts : List PyData → Bool
  | [] => true
  | x :: xs => noLst x && noLsts xs
end
mutual
theorem reads_free {h : Heap} : ∀ {d : PyData} {u : Value} {as : List Addr}, noLst d = true → Reads h u d as → as = []
  | .none, _, _, _, r => by cases r; rfl
  | .bool _, _, _, _, r => by cases r; rfl
  | .int _, _, _, _, r => by cases r; rfl
  | .str _, _, _, _, r => by cases r; rfl
  | .tuple xs, _, _, f, r => by
    cases r with
    | tuple _ _ _ ra => exact reads_frees (by simpa [noLst] using f) ra
  | .list _, _, _, f, _ => by simp [noLst] at f
  | .dict _, _, _, f, _ => by simp [noLst] at f
theorem reads_frees {h : Heap} : ∀ {ds : List PyData} {us : List Value} {as : List Addr}, noLsts ds = true → ReadsAll h us ds as → as = []
  | [], _, _, _, r => by cases r; rfl
  | d :: ds, _, _, f, r => by
    rw [noLsts, Bool.and_eq_true] at f
    cases r with
    | cons r1 r2 => rw [reads_free f.1 r1, reads_frees f.2 r2]; rfl
end
def keyD : Val → Option PyData
  | .int i => some (.int i)
  | .str s => some (.str s)
  | _ => none
def toDkv : List (Val × Val) → Option (List (PyData × PyData))
  | [] => some []
  | (k, v) :: kvs => match keyD k, toD v, toDkv kvs with
    | some a, some b, some r => some ((a, b) :: r)
    | _, _, _ => none
def PreprD : List Val → Option (Bool × Val)
  | [.dct false kvs] => match toDkv kvs with
    | some ds => if (ds.all fun p => noLst p.2) = true ∧ PyData.showable (.dict ds) = true ∧ (PyData.dict ds).depth ≤ 60 ∧ (PyData.dict ds).shown.length ≤ sizeLine then some (false, .str (PyData.dict ds).shown) else none
    | none => none
  | _ => none
theorem kv_reads {X : Cx} {w : Wd} (c : Cal X w) {pins : List (Addr × Obj)} {s : Shared} {σ : L2.St} {G H : Hp} (I : Inv X pins σ H s) (le : Le G H) : ∀ {kvs : List (Val × Val)} {ds : List (PyData × PyData)} {ks : List (Key × V)} {vs : List (Key × Value)} {es : List DictEntry},
    toDkv kvs = some ds → (ds.all fun p => noLst p.2) = true → RepK w G kvs ks → KV ks vs → PySem.Pairs (mixKind X.prog X.w) es vs → ReadsAll s.heap (es.map (·.key)) (ds.map (·.1)) [] ∧ ReadsAll s.heap (es.map (·.val)) (ds.map (·.2)) []
  | [], ds, ks, vs, es, h, _, r, rel, pr => by
    simp only [toDkv, Option.some.injEq] at h
    subst h
    rw [RepK] at r
    subst r
    cases rel
    cases pr
    exact ⟨.nil, .nil⟩
  | (k, v) :: kvs, ds, ks, vs, es, h, f, r, rel, pr => by
    simp only [toDkv] at h
    split at h
    · rename_i a b rest h1 h2 h3
      cases h
      rw [RepK] at r
      obtain ⟨q, y, ys, rfl, ⟨rfl, _⟩, r1, r2⟩ := r
      rw [List.all_cons, Bool.and_eq_true] at f
      cases rel with
      | @cons _ kvp _ vs' h4 t =>
        cases pr with
        | @cons e _ es' _ hk hv pr' =>
          obtain ⟨i1, i2⟩ := kv_reads c I le h3 f.2 r2 t pr'
          obtain ⟨e4, e5⟩ := h4
          have hk' : L2.keyIs kvp.1 e.key = true := hk
          have rk : Reads s.heap e.key a [] := by
            have e4' : q = kvp.1 := e4
            rw [← e4'] at hk'
            rcases keyIs_shape hk' with ⟨i, t, rfl, e6⟩ | ⟨x, t, rfl, e6⟩
            · rw [e6]
              simp only [kv, keyD, Option.some.injEq] at h1
              subst h1
              exact .int i t
            · rw [e6]
              simp only [kv, keyD, Option.some.injEq] at h1
              subst h1
              exact .str x t
          obtain ⟨as, rv⟩ := Dp.reads I b y e.val (dp_of c.K le r1 h2) (by rw [hv]; exact e5)
          have ea := reads_free f.1 rv
          subst ea
          exact ⟨.cons rk i1, .cons rv i2⟩
    · cases h
theorem bi_reprD {X : Cx} {w : Wd} (c : Cal X w) : CallR X (.builtin "repr") (rOf w PreprD) := by
  intro pins s σ H xs us Q I r ⟨G, vs, o, z, le, rr, hp, q⟩
  unfold PreprD at hp
  split at hp
  · obtain ⟨x, e, r1⟩ := rreps_one rr
    subst e
    split at hp
    · rename_i ds hd
      split at hp
      · rename_i hc
        cases hp
        obtain ⟨h1, h2, h3, h4⟩ := hc
        obtain ⟨a, rfl, ⟨_, ks, hks, rk⟩ | ⟨ht, _⟩⟩ := rrep_dct le r1
        · obtain ⟨u, rfl, ru⟩ := vals1 r
          cases (show u = Value.ref a from ru)
          obtain ⟨_, hsys, vs, rel, ob, es, ep, ho, hx, hdat, _, pr, _⟩ := dk_rd I.hok hks
          obtain ⟨i1, i2⟩ := kv_reads c I le hd h1 rk rel pr
          have rd : Reads s.heap (.ref a) (.dict ds) (a :: [] ++ []) := .dict ho hx.1 hdat i1 i2
          refine PySem.repr_of_reads' rd h2 (fun _ hm => ?_) c.gs (by have := c.un; omega) (fun b o e => e) (fun h' u tk hk => ⟨.str _, H, I.kept (t' := tk) hk, ⟨_, rfl⟩, str_new le h4 q⟩) h4
          have e : sysModules = a := by simpa using hm
          subst e
          simp at hsys
        · cases ht
      · cases hp
    · cases hp
  · cases hp
mutual
def toE : Val → Option PyData
  | .non => some .none
  | .bl b => some (.bool b)
  | .int i => some (.int i)
  | .str s => some (.str s)
  | .tup ds => (toEs ds).map .tuple
  | .lst ds => (toEs ds).map .list
  | .dct false kvs => (toEk kvs).map .dict
  | _ => none
def toEs : List Val → Option (List PyData)
  | [] => some []
  | v :: vs => match toE v, toEs vs with
    | some d, some ds => some (d :: ds)
    | _, _ => none
def toEk : List (Val × Val) → Option (List (PyData × PyData))
  | [] => some []
  | (k, v) :: kvs => match keyD k, toE v, toEk kvs with
    | some a, some b, some r => some ((a, b) :: r)
    | _, _, _ => none
end
theorem Cal.noSys {X : Cx} {w : Wd} {pins : List (Addr × Obj)} {s : Shared} {σ : L2.St} {H : Hp} (c : Cal X w) (I : Inv X pins σ H s) {a : Addr} {o : HO} (h : H a = some o) : sysModules ≠ a := fun e => by
  subst e
  obtain ⟨ob, e⟩ := Option.isSome_iff_exists.mp c.sy
  have := (I.bs _ _ (I.mod.kin _ _ e)).2
  rw [h] at this; cases this
section
variable {X : Cx} {w : Wd} {pins : List (Addr × Obj)} {s : Shared} {σ : L2.St} {G H : Hp}
mutual
theorem reads_e (c : Cal X w) (I : Inv X pins σ H s) (le : Le G H) : ∀ {v : Val} {x : V} {d : PyData} {u : Value}, toE v = some d → Rep w G v x → RelV x u → ∃ as, Reads s.heap u d as ∧ sysModules ∉ as
  | .non, _, _, _, e, r, ru => by rw [toE] at e; cases e; rw [rep_non.mp r] at ru; cases ru; exact ⟨_, .none, by simp⟩
  | .bl b, _, _, _, e, r, ru => by rw [toE] at e; cases e; rw [rep_bl.mp r] at ru; cases ru; exact ⟨_, .bool b, by simp⟩
  | .int i, _, _, _, e, r, ru => by rw [toE] at e; cases e; rw [rep_int.mp r] at ru; obtain ⟨t, rfl⟩ := ru; exact ⟨_, .int i t, by simp⟩
  | .str y, _, _, _, e, r, ru => by rw [toE] at e; cases e; rw [(rep_str.mp r).1] at ru; obtain ⟨t, rfl⟩ := ru; exact ⟨_, .str y t, by simp⟩
  | .tup ds, _, _, _, e, r, ru => by
    rw [toE, Option.map_eq_some_iff] at e
    obtain ⟨es, e, rfl⟩ := e
    obtain ⟨a, xs, rfl, q, r⟩ := rep_tup.mp r
    cases ru
    obtain ⟨its, rv, ⟨o, ho, hc, n, hd⟩, _⟩ := I.tuple (by rw [← c.K]; exact sqt_mono le q)
    obtain ⟨as, hr, hs⟩ := reads_es c I le e r rv
    exact ⟨_, .tuple ho hc hd hr, hs⟩
  | .lst ds, _, _, _, e, r, ru => by
    rw [toE, Option.map_eq_some_iff] at e
    obtain ⟨es, e, rfl⟩ := e
    obtain ⟨a, xs, rfl, q, r⟩ := rep_lst.mp r
    cases ru
    obtain ⟨its, rv, ⟨o, n, ho, hc, _, hd⟩, _⟩ := I.list (.inl (.inl (le _ _ q)))
    obtain ⟨as, hr, hs⟩ := reads_es c I le e r rv
    exact ⟨_, .list ho hc hd hr, by rw [List.mem_cons, not_or]; exact ⟨c.noSys I (le _ _ q), hs⟩⟩
  | .dct true _, _, _, _, e, _, _ => by simp [toE] at e
  | .dct false kvs, _, _, _, e, r, ru => by
    rw [toE, Option.map_eq_some_iff] at e
    obtain ⟨es, e, rfl⟩ := e
    rw [Rep] at r
    obtain ⟨a, rfl, ⟨_, ks, oo, hks, rk⟩ | ⟨ht, _⟩⟩ := r
    · cases ru
      obtain ⟨_, hsys, vs, rel, ob, es, ep, ho, hx, hdat, _, pr, _⟩ := dk_rd I.hok (.inr ⟨oo, le _ _ hks⟩)
      obtain ⟨as, bs, i1, i2, n1, n2⟩ := reads_ek c I le e rk rel pr
      refine ⟨_, .dict ho hx.1 hdat i1 i2, ?_⟩
      rw [List.mem_append, List.mem_cons]
      rintro ((z | z) | z)
      · subst z; simp at hsys
      · exact n1 z
      · exact n2 z
    · cases ht
  | .scr _, _, _, _, e, _, _ => by simp [toE] at e
  | .obj _ _, _, _, _, e, _, _ => by simp [toE] at e
  | .ty _, _, _, _, e, _, _ => by simp [toE] at e
  | .cls _, _, _, _, e, _, _ => by simp [toE] at e
  | .exc _ _, _, _, _, e, _, _ => by simp [toE] at e
theorem reads_es (c : Cal X w) (I : Inv X pins σ H s) (le : Le G H) : ∀ {ds : List Val} {xs : List V} {es : List PyData} {us : List Value}, toEs ds = some es → Reps w G ds xs → Vals xs us → ∃ as, ReadsAll s.heap us es as ∧ sysModules ∉ as
  | [], _, _, _, e, r, ru => by
    rw [toEs] at e; cases e
    rw [reps_nil] at r; subst r
    cases ru
    exact ⟨_, .nil, by simp⟩
  | v :: vs, _, _, _, e, r, ru => by
    rw [toEs] at e
    split at e
    · rename_i d ds h1 h2
      cases e
      obtain ⟨y, ys, rfl, r1, r2⟩ := reps_cons.mp r
      cases ru with
      | cons q1 q2 =>
        obtain ⟨as, i1, n1⟩ := reads_e c I le h1 r1 q1
        obtain ⟨bs, i2, n2⟩ := reads_es c I le h2 r2 q2
        exact ⟨_, .cons i1 i2, by rw [List.mem_append]; rintro (z | z); exact n1 z; exact n2 z⟩
    · cases e
theorem reads_ek (c : Cal X w) (I : Inv X pins σ H s) (le : Le G H) : ∀ {kvs : List (Val × Val)} {ds : List (PyData × PyData)} {ks : List (Key × V)} {vs : List (Key × Value)} {es : List DictEntry},
    toEk kvs = some ds → RepK w G kvs ks → KV ks vs → PySem.Pairs (mixKind X.prog X.w) es vs → ∃ as bs, ReadsAll s.heap (es.map (·.key)) (ds.map (·.1)) as ∧ ReadsAll s.heap (es.map (·.val)) (ds.map (·.2)) bs ∧ sysModules ∉ as ∧ sysModules ∉ bs
  | [], ds, ks, vs, es, h, r, rel, pr => by
    rw [toEk, Option.some.injEq] at h
    subst h
    rw [RepK] at r
    subst r
    cases rel
    cases pr
    exact ⟨_, _, .nil, .nil, by simp, by simp⟩
  | (k, v) :: kvs, ds, ks, vs, es, h, r, rel, pr => by
    rw [toEk] at h
    split at h
    · rename_i a b rest h1 h2 h3
      cases h
      rw [RepK] at r
      obtain ⟨q, y, ys, rfl, ⟨rfl, _⟩, r1, r2⟩ := r
      cases rel with
      | @cons _ kvp _ vs' h4 t =>
        cases pr with
        | @cons e _ es' _ hk hv pr' =>
          obtain ⟨as, bs, i1, i2, n1, n2⟩ := reads_ek c I le h3 r2 t pr'
          obtain ⟨e4, e5⟩ := h4
          have hk' : L2.keyIs kvp.1 e.key = true := hk
          have rk : Reads s.heap e.key a [] := by
            have e4' : q = kvp.1 := e4
            rw [← e4'] at hk'
            rcases keyIs_shape hk' with ⟨i, t, rfl, e6⟩ | ⟨x, t, rfl, e6⟩
            · rw [e6]
              simp only [kv, keyD, Option.some.injEq] at h1
              subst h1
              exact .int i t
            · rw [e6]
              simp only [kv, keyD, Option.some.injEq] at h1
              subst h1
              exact .str x t
          obtain ⟨cs, rv, n3⟩ := reads_e c I le (u := e.val) h2 r1 (by rw [hv]; exact e5)
          exact ⟨_, _, .cons rk i1, .cons rv i2, by simpa using n1, by rw [List.mem_append]; rintro (z | z); exact n3 z; exact n2 z⟩
    · cases h
end
end
def isBox : Val → Bool
  | .tup _ => true
  | .lst _ => true
  | .dct _ _ => true
  | _ => false
def PreprG : List Val → Option (Bool × Val)
  | [v] => match toE v with
    | some d => if isBox v = true ∧ d.showable = true ∧ d.depth ≤ 60 ∧ d.shown.length ≤ sizeLine then some (false, .str d.shown) else none
    | none => none
  | _ => none
/-- what can be read, may be read as frozen -/
theorem reads_r {X : Cx} {w : Wd} {pins : List (Addr × Obj)} {s : Shared} {σ : L2.St} {G H : Hp} (c : Cal X w) (I : Inv X pins σ H s) (le : Le G H) {v : Val} {x : V} {d : PyData} {u : Value} (hb : isBox v = true) (e : toE v = some d) (r : RRep w G H v x) (ru : RelV x u) : ∃ a as, u = .ref a ∧ Reads s.heap (.ref a) d as ∧ sysModules ∉ as := by
  cases v with
  | tup ds =>
    have r' : Rep w G (.tup ds) x := r.elim id fun ⟨_, _, z⟩ => z.elim
    obtain ⟨as, q, n⟩ := reads_e c I le e r' ru
    obtain ⟨a, xs, rfl, _⟩ := rep_tup.mp r'
    cases ru
    exact ⟨a, as, rfl, q, n⟩
  | lst ds =>
    rw [toE, Option.map_eq_some_iff] at e
    obtain ⟨es, e, rfl⟩ := e
    obtain ⟨a, xs, rfl, q, r⟩ := rrep_lst le r
    cases ru
    obtain ⟨its, rv, ⟨o, n, ho, hc, _, hd⟩, _⟩ := I.list (.inl (.inl q))
    obtain ⟨as, hr, hs⟩ := reads_es c I le e r rv
    exact ⟨a, _, rfl, .list ho hc hd hr, by rw [List.mem_cons, not_or]; exact ⟨c.noSys I q, hs⟩⟩
  | dct t kvs =>
    cases t with
    | true => simp [toE] at e
    | false =>
      rw [toE, Option.map_eq_some_iff] at e
      obtain ⟨es, e, rfl⟩ := e
      obtain ⟨a, rfl, ⟨_, ks, hks, rk⟩ | ⟨ht, _⟩⟩ := rrep_dct le r
      · cases ru
        obtain ⟨_, hsys, vs, rel, ob, es, ep, ho, hx, hdat, _, pr, _⟩ := dk_rd I.hok hks
        obtain ⟨as, bs, i1, i2, n1, n2⟩ := reads_ek c I le e rk rel pr
        refine ⟨a, _, rfl, .dict ho hx.1 hdat i1 i2, ?_⟩
        rw [List.mem_append, List.mem_cons]
        rintro ((z | z) | z)
        · subst z; simp at hsys
        · exact n1 z
        · exact n2 z
      · cases ht
  | _ => cases hb
theorem bi_reprG {X : Cx} {w : Wd} (c : Cal X w) : CallR X (.builtin "repr") (rOf w PreprG) := by
  intro pins s σ H xs us Q I r ⟨G, vs, o, z, le, rr, hp, q⟩
  unfold PreprG at hp
  split at hp
  · obtain ⟨x, e, r1⟩ := rreps_one rr
    subst e
    split at hp
    · rename_i d hd
      split at hp
      · rename_i hc
        cases hp
        obtain ⟨h0, h1, h3, h4⟩ := hc
        obtain ⟨u, rfl, ru⟩ := vals1 r
        obtain ⟨a, as, rfl, rd, ns⟩ := reads_r c I le h0 hd r1 ru
        exact PySem.repr_of_reads' rd h1 (fun _ => ns) c.gs (by have := c.un; omega) (fun b o e => e) (fun h' u tk hk => ⟨.str _, H, I.kept (t' := tk) hk, ⟨_, rfl⟩, str_new le h4 q⟩) h4
      · cases hp
    · cases hp
  · cases hp
def PreprX := orP PreprD (orP Prepr PreprG)
theorem bi_reprX {X : Cx} {w : Wd} (c : Cal X w) : CallR X (.builtin "repr") (rOf w PreprX) := cr_or (bi_reprD c) (cr_or (bi_repr c) (bi_reprG c))

def PeqS : List Val → Option (Bool × Val)
  | [.str a, .str b] => some (false, .bl (a == b))
  | [.int a, .int b] => some (false, .bl (a == b))
  | _ => none
def PneS : List Val → Option (Bool × Val)
  | [.str a, .str b] => some (false, .bl (!(a == b)))
  | [.int a, .int b] => some (false, .bl (!(a == b)))
  | _ => none
section
variable {X : Cx} {w : Wd}
theorem opr_eqS : OpR X (compareOp .Eq) (r2Of w PeqS) := by
  intro pins s σ H x y v u Q I rx ry ⟨G, vs, o, z, le, rr, hp, q⟩
  unfold PeqS at hp
  split at hp
  · obtain ⟨_, _, e, r1, r2⟩ := rreps_two rr
    cases e; cases hp
    obtain ⟨rfl, _⟩ := rrep_str r1; obtain ⟨rfl, _⟩ := rrep_str r2
    exact op_eq pins s σ H _ _ v u Q I rx ry ⟨rfl, by rw [dec_str]; exact bl_new le q⟩
  · obtain ⟨_, _, e, r1, r2⟩ := rreps_two rr
    cases e; cases hp
    obtain rfl := rrep_int r1; obtain rfl := rrep_int r2
    exact op_eq pins s σ H _ _ v u Q I rx ry ⟨rfl, by rw [dec_int]; exact bl_new le q⟩
  · cases hp
theorem opr_neS : OpR X (compareOp .NotEq) (r2Of w PneS) := by
  intro pins s σ H x y v u Q I rx ry ⟨G, vs, o, z, le, rr, hp, q⟩
  unfold PneS at hp
  split at hp
  · obtain ⟨_, _, e, r1, r2⟩ := rreps_two rr
    cases e; cases hp
    obtain ⟨rfl, _⟩ := rrep_str r1; obtain ⟨rfl, _⟩ := rrep_str r2
    exact op_ne pins s σ H _ _ v u Q I rx ry ⟨rfl, by rw [dec_str]; exact bl_new le q⟩
  · obtain ⟨_, _, e, r1, r2⟩ := rreps_two rr
    cases e; cases hp
    obtain rfl := rrep_int r1; obtain rfl := rrep_int r2
    exact op_ne pins s σ H _ _ v u Q I rx ry ⟨rfl, by rw [dec_int]; exact bl_new le q⟩
  · cases hp
def PeqX := orP PeqS Peq
def PneX := orP PneS Pne
theorem opr_eqX (c : Cal X w) : OpR X (compareOp .Eq) (r2Of w PeqX) := opr_or opr_eqS (opr_eq c)
theorem opr_neX (c : Cal X w) : OpR X (compareOp .NotEq) (r2Of w PneX) := opr_or opr_neS (opr_ne c)
end
end M
namespace M
open PySem L2
theorem toDs_ints : ∀ cs : List Int, toDs (cs.map .int) = some (cs.map .int)
  | [] => rfl
  | c :: cs => by rw [List.map_cons, toDs, toDs_ints cs]; rfl
theorem shp_ints (cs : List Int) : shp (.list (cs.map .int)) = true := by
  have h1 : ∀ cs : List Int, PyData.canLayAll0 (cs.map .int) = true := fun cs => by
    induction cs with
    | nil => simp [PyData.canLayAll0]
    | cons c cs ih => simp [PyData.canLayAll0, PyData.canLay0]; simpa using ih
  have h2 : ∀ cs : List Int, PyData.depthAll (cs.map .int) = 0 := fun cs => by
    induction cs with
    | nil => simp [PyData.depthAll]
    | cons c cs ih => simp [PyData.depthAll, PyData.depth]; simpa using ih
  show SeqAt.shaped _ = true
  unfold SeqAt.shaped
  simp only [PyData.canLay0, PyData.depth, h1, h2]
  decide
theorem pne_nil (cs : List Int) : Pne [.lst (cs.map .int), .lst []] = some (false, .bl (decide (cs ≠ []))) := by
  have h1 := shp_ints cs
  have h2 := shp_ints []
  simp only [List.map_nil] at h2
  cases cs with
  | nil => simp [Pne, toD, toDs, h2, PyData.eqv, PyData.eqvAll]
  | cons c cs =>
    simp only [List.map_cons] at h1
    simp [Pne, toD, toDs, toDs_ints, h1, h2, PyData.eqv, PyData.eqvAll]
theorem ix_mod (cs : List Int) (t : Int) (h : cs ≠ []) (ht : 0 ≤ t) : ∃ c, Pix [.lst (cs.map .int), .int (t % (cs.length : Int))] = some (false, .int c) := by
  have hl : 0 < cs.length := List.length_pos_iff.mpr h
  have h1 : 0 ≤ t % (cs.length : Int) := Int.emod_nonneg _ (by omega)
  have h2 : t % (cs.length : Int) < cs.length := Int.emod_lt_of_pos _ (by omega)
  have h3 : (t % (cs.length : Int)).toNat < cs.length := by omega
  exact ⟨cs[(t % (cs.length : Int)).toNat], by simp [Pix, atI, ixN, h1, h2, h3]⟩
theorem mul_ok {i j : Int} (h0 : 0 ≤ j) (h : j < 2 ^ 64 - 1) : mulOk i j = true := mulOk_iff.mpr (.inr ⟨by omega, h⟩)
theorem mul_okL {i j : Int} (h0 : 0 ≤ i) (h : i < 2 ^ 64 - 1) : mulOk i j = true := mulOk_iff.mpr (.inl ⟨by omega, h⟩)
theorem small_ok {n : Nat} {j : Int} (h0 : 0 ≤ j) (h : j ≤ (n : Int)) : smallI n j = true := smallI_iff.mpr ⟨by omega, h⟩
def good (s : Str) : Prop := s.length ≤ 100000 ∧ ∀ c ∈ s.cps.toList, c < 0x110000
def one (c : Nat) : Str := ⟨#[c]⟩
theorem len_list (s : Str) : s.cps.toList.length = s.length := by rw [Array.length_toList]; rfl
theorem asBls_map : ∀ bs : List Bool, asBls (bs.map Val.bl) = some bs
  | [] => rfl
  | b :: bs => by simp [asBls, asBls_map bs]
theorem asBls_comp {α : Type} (f : α → Bool) (xs : List α) : asBls (xs.map (Val.bl ∘ f)) = some (xs.map f) := by
  rw [← List.map_map, asBls_map]
theorem toDs_strs : ∀ ss : List Str, toDs (ss.map Val.str) = some (ss.map PyData.str)
  | [] => rfl
  | s :: ss => by simp [toDs, toD, toDs_strs ss]
theorem shp_strs (ss : List Str) (h : ∀ s ∈ ss, ∀ c ∈ s.cps.toList, c < 0x110000) : shp (.list (ss.map .str)) = true := by
  have h1 : ∀ ss : List Str, (∀ s ∈ ss, ∀ c ∈ s.cps.toList, c < 0x110000) → PyData.canLayAll0 (ss.map .str) = true := fun ss => by
    induction ss with
    | nil => intro _; simp [PyData.canLayAll0]
    | cons s ss ih =>
      intro h
      have hs : PyData.strOk s = true := by
        unfold PyData.strOk
        rw [Array.all_eq_true_iff_forall_mem]
        intro c hc
        exact decide_eq_true (h s (by simp) c (by simpa using hc))
      simp [PyData.canLayAll0, PyData.canLay0, hs, ih fun s' hs' => h s' (by simp [hs'])]
  have h2 : ∀ ss : List Str, PyData.depthAll (ss.map .str) = 0 := fun ss => by
    induction ss with
    | nil => simp [PyData.depthAll]
    | cons s ss ih => simp [PyData.depthAll, PyData.depth, ih]
  show SeqAt.shaped _ = true
  unfold SeqAt.shaped
  simp only [PyData.canLay0, PyData.depth, h1 ss h, h2]
  decide
theorem signs_one (s : Str) : signs s = s.cps.toList.map fun c => .str (one c) := rfl
end M
namespace M
open PySem L2

def osApp (f g : OsF) : OsF := fun r => match f r with
  | .ok hs r1 => match g r1 with
    | .ok ks r2 => .ok (hs ++ ks) r2
    | .ex e r2 => .ex e r2
    | .bad => .bad
  | .ex e r1 => .ex e r1
  | .bad => .bad
/-- the places ix of a list -/
def pick {α : Type} (ix : List Nat) (l : List α) : Option (List α) := match ix with
  | [] => some []
  | i :: ix => match l[i]?, pick ix l with
    | some x, some xs => some (x :: xs)
    | _, _ => none
def osN (n : Nat) (f : OsF) : OsF := fun r => match f r with
  | .ok hs r1 => if hs.length = n then .ok hs r1 else .bad
  | .ex e r1 => .ex e r1
  | .bad => .bad
def osPick (ix : List Nat) (f : OsF) : OsF := fun r => match f r with
  | .ok hs r1 => match pick ix hs with
    | some ks => .ok ks r1
    | none => .bad
  | .ex e r1 => .ex e r1
  | .bad => .bad
section
variable {A : Act} {W : WX} {G H : Hp} {σ : L2.St} {r : Env} {f g : OsF}
theorem hreps_get : ∀ {hs : List Hd} {xs : List V} {i : Nat} {h : Hd}, HReps A G H σ r hs xs → hs[i]? = some h → ∃ x, xs[i]? = some x ∧ HRep A G H σ r h x
  | [], _, _, _, _, e => by simp at e
  | h :: hs, _, 0, _, ⟨y, zs, e, a, b⟩, q => by subst e; simp at q; subst q; exact ⟨y, rfl, a⟩
  | h :: hs, _, i + 1, _, ⟨y, zs, e, a, b⟩, q => by subst e; obtain ⟨x, h1, h2⟩ := hreps_get b (i := i) (by simpa using q); exact ⟨x, by simpa using h1, h2⟩
theorem hreps_pick {hs : List Hd} {xs : List V} (q : HReps A G H σ r hs xs) : ∀ {ix : List Nat} {ks : List Hd}, pick ix hs = some ks → ∃ ys, pick ix xs = some ys ∧ HReps A G H σ r ks ys
  | [], ks, e => by simp only [pick, Option.some.injEq] at e; subst e; exact ⟨[], rfl, rfl⟩
  | i :: ix, ks, e => by
    simp only [pick] at e
    split at e
    · rename_i h hs' h1 h2
      cases e
      obtain ⟨x, e1, e2⟩ := hreps_get q h1
      obtain ⟨ys, e3, e4⟩ := hreps_pick q h2
      exact ⟨x :: ys, by simp only [pick, e1, e3], x, ys, rfl, e2, e4⟩
    · cases e
theorem hreps_len : ∀ {hs : List Hd} {xs : List V}, HReps A G H σ r hs xs → xs.length = hs.length
  | [], _, h => by have h' : _ = [] := h; subst h'; rfl
  | h :: hs, _, ⟨y, zs, e, a, b⟩ => by subst e; simp [hreps_len b]
theorem os_N {n : Nat} {H : Hp} {Q : List V → Hp → Prop} (h : tOs A W (osN n f) σ H Q) : tOs A W f σ H fun xs H1 => xs.length = n ∧ Q xs H1 := by
  obtain ⟨r, G, k, m⟩ := h
  refine ⟨r, G, k, ?_⟩
  unfold osN at m
  cases hf : f r with
  | bad => rw [hf] at m; exact m.elim
  | ex e r' => rw [hf] at m; exact m
  | ok hs r1 =>
    simp only [hf] at m
    by_cases hn : hs.length = n
    · simp only [if_pos hn] at m
      intro xs G1 H1 k1 st1 t1
      exact ⟨(hreps_len t1).trans hn, m xs G1 H1 k1 st1 t1⟩
    · simp only [if_neg hn] at m
theorem os_pick {ix : List Nat} {H : Hp} {Q : List V → Hp → Prop} (h : tOs A W (osPick ix f) σ H Q) : tOs A W f σ H fun xs H1 => ∃ ys, pick ix xs = some ys ∧ Q ys H1 := by
  obtain ⟨r, G, k, m⟩ := h
  refine ⟨r, G, k, ?_⟩
  unfold osPick at m
  cases hf : f r with
  | bad => rw [hf] at m; exact m.elim
  | ex e r' => rw [hf] at m; exact m
  | ok hs r1 =>
    simp only [hf] at m
    intro xs G1 H1 k1 st1 t1
    cases hp : pick ix hs with
    | none => simp only [hp] at m
    | some ks =>
      simp only [hp] at m
      obtain ⟨ys, e, q⟩ := hreps_pick t1 hp
      exact ⟨ys, e, m ys G1 H1 k1 st1 q⟩
end

/-- how the keywords ks go to the parameters: the values us of the positional ones and ws of the keywords, picked by ix -/
structure BindK (K : PySem.W.Frag) (fd : FuncData) (ps ks : List Str) (ix : List Nat) (n : Nat) : Prop where
  to : ∀ (s : Shared) (us ws zs : List Value), K.In s.heap → us.length = n → pick ix (us ++ ws) = some zs → zs.length = ps.length → ws.length = ks.length → BindsTo s fd ⟨us, ks.zip ws⟩ (ps.zip zs)

theorem vals_pick : ∀ {ix : List Nat} {xs ys : List V} {us : List Value}, Vals xs us → pick ix xs = some ys → ∃ zs, pick ix us = some zs ∧ Vals ys zs
  | [], _, _, _, _, e => by simp only [pick, Option.some.injEq] at e; subst e; exact ⟨[], rfl, .nil⟩
  | i :: ix, xs, ys, us, r, e => by
    simp only [pick] at e
    split at e
    · rename_i x xs' h1 h2
      cases e
      obtain ⟨zs, e1, e2⟩ := vals_pick r h2
      have : ∀ {xs : List V} {us : List Value} {i : Nat} {x : V}, Vals xs us → xs[i]? = some x → ∃ u, us[i]? = some u ∧ RelV x u := by
        intro xs
        induction xs with
        | nil => intro us i x _ h; simp at h
        | cons y ys ih =>
          intro us i x r h
          cases r with
          | cons a b =>
            cases i with
            | zero => simp at h; subst h; exact ⟨_, rfl, a⟩
            | succ i => obtain ⟨u, e, q⟩ := ih b (i := i) (by simpa using h); exact ⟨u, by simpa using e, q⟩
      obtain ⟨u, e3, e4⟩ := this r h1
      exact ⟨u :: zs, by simp only [pick, e3, e1], .cons e4 e2⟩
    · cases e

section
variable {X : Cx} {A : Act} {W : WX} {k n : Nat} {f : Addr} {fd : FuncData} {ps ks : List Str} {g : GF} {x : Str} {p pos kpos : Pos} {e : Expr} {es : List Expr} {kws : List Keyword} {fo fk : OsF} {fe : OF} {nm : Option Str}
theorem pk_osNil : PK X [] (tOs A W osNil) := ⟨fun pos pins s σ H Q I ⟨r, G, kk, m⟩ => pk_nil.run pos pins s σ H Q I (m [] G H kk Step.refl rfl)⟩
theorem pk_osCons (he : PE X e (tO A W fe)) (hr : PK X kws (tOs A W fk)) : PK X (⟨nm, e, kpos⟩ :: kws) (tOs A W (osCons fe fk)) :=
  ⟨fun pos pins s σ H Q I h => (pk_cons he hr).run pos pins s σ H Q I (os_cons h)⟩
/-- f(e, ..) -/
theorem pe_cG (F : FnG X.prog X.w X.K X.mg X.base (L2.CX X.prog X.w) k f fd ps (spF A.w n g)) (hr : RoomG k X.A) (hg : Gl X x) (hm : X.mg x = some (.ref f)) (hk : PySem.W.keepIn X.K (.ref f) = true) (hb : Binds X.K fd ps []) (tk : Takes X W)
    (ha : PA X (e :: es) (tOs A W fo)) (hdb : (x == ("__debug__" : Str)) = false := by decide) (he : NoStar X e es := by rfl) (hpl : NoStars X es pos := by rfl) :
    PE X (.Call (.Name x p) (e :: es) [] pos) (tE A W (callG n g fo)) := by
  refine ⟨fun pins s σ H Q I h => ?_⟩
  have h2 := call_of h
  refine wpAny_Call_Name_kw (ld_glob I hg hm ?_ hdb)
  refine PySem.W.callWith_K (h₀ := X.base) I.ok.mod.kin hk (wpAny_mono (ha.run pos pins s σ H _ I h2) (fun us s1 ⟨vs, H1, I1, r, q⟩ => ⟨I1.kIn, ?_⟩) fun _ _ z => z) he hpl
  have hl : us.length = ps.length := by rw [← r.length]; exact F.len _ _ _ _ q
  have b0 := hb s1 us I1.kIn (by simpa using hl)
  simp only [List.append_nil] at b0
  exact run_G F hr (fun e s' z => tk e s' (XE.of_call I1 (fun _ _ _ y => y) z)) I1 (args := ⟨us, []⟩) b0 r q
/-- the values of positional arguments and of keywords, bound -/
theorem run_GK {pins : List (Addr × Obj)} {σ : L2.St} {H : Hp} {s : Shared} {Q : VK} {us ws : List Value} {vs zs ys : List V} {ix : List Nat} {m : Nat} (F : FnG X.prog X.w X.K X.mg X.base (L2.CX X.prog X.w) k f fd ps (spF A.w n g)) (hr : RoomG k X.A)
    (hb : BindK X.K fd ps ks ix m) (tk : Takes X W) (I : Inv X pins σ H s) (r : Vals vs us) (rz : Vals zs ws) (hm : us.length = m) (hw : ws.length = ks.length) (hp : pick ix (vs ++ zs) = some ys) (h : spF A.w n g ys H Q fun cls d H2 => W cls d σ H2) :
    wpAny (model X.prog X.w) X.A (call (.ref f) us (ks.zip ws)) (EP X pins σ Q) X.xe s := by
  obtain ⟨us', e, rv⟩ := vals_pick (r.append rz) hp
  have hl : us'.length = ps.length := by rw [← rv.length]; exact F.len _ _ _ _ h
  exact run_G F hr (fun e s' z => tk e s' (XE.of_call I (fun _ _ _ y => y) z)) I (args := ⟨us, ks.zip ws⟩) (hb.to s us ws us' I.kIn hm e hl hw) rv h
/-- f(k = v, ..) -/
theorem pe_cGK0 {ix : List Nat} (F : FnG X.prog X.w X.K X.mg X.base (L2.CX X.prog X.w) k f fd ps (spF A.w n g)) (hr : RoomG k X.A) (hg : Gl X x) (hm : X.mg x = some (.ref f)) (hk : PySem.W.keepIn X.K (.ref f) = true)
    (hb : BindK X.K fd ps ks ix 0) (tk : Takes X W)
    (hkw : PK X kws (tOs A W fk)) (hall : (backToKw pos (keywordEach kws X.env)).all (·.1.isSome) = true := by rfl) (hks : (backToKw pos (keywordEach kws X.env)).filterMap (·.1) = ks := by rfl)
    (hdb : (x == ("__debug__" : Str)) = false := by decide)
    (hpl : KPlain X [] kws pos := by rfl) (hne : KCall X x kws p pos := by rfl) :
    PE X (.Call (.Name x p) [] kws pos) (tE A W (callG n g (osPick ix (osN ks.length fk)))) := by
  refine ⟨fun pins s σ H Q I h => ?_⟩
  have h2 := os_N (os_pick (call_of h))
  rw [hne]
  refine wpAny_bind (ld_glob I hg hm ?_ hdb)
  refine PySem.W.callWith_KW0 (h₀ := X.base) I.ok.mod.kin hk hall (wpAny_mono (hkw.run pos pins s σ H _ I h2) (fun ws s2 ⟨zs, H2, I2, rz, l2, ys, hp, q2⟩ => ⟨I2.kIn, ?_⟩) fun _ _ z => z) hpl
  rw [hks]
  exact run_GK F hr hb tk I2 .nil rz rfl (by rw [← rz.length]; exact l2) hp q2
end
end M
namespace M
open PySem L2 PyProof.Rows

/-- the heap that tracks the script at a, where the written part doesn't hold it -/
def onlyAt (K : PySem.W.Frag) (a : Addr) (o : Obj) (xs : List V) : Hp := fun b => if b = a ∧ K.lookup a = none then some (.frz o (.lst xs)) else none
theorem onlyAt_some {K : PySem.W.Frag} {a b : Addr} {o : Obj} {xs : List V} {u : HO} (h : onlyAt K a o xs b = some u) : b = a ∧ K.lookup a = none ∧ u = .frz o (.lst xs) := by
  unfold onlyAt at h
  split at h
  · rename_i c; cases h; exact ⟨c.1, c.2, rfl⟩
  · cases h
theorem onlyAt_none {K : PySem.W.Frag} {a b : Addr} {o : Obj} {xs : List V} (h : b ≠ a ∨ K.lookup a ≠ none) : onlyAt K a o xs b = none := by
  unfold onlyAt
  rw [if_neg]
  rintro ⟨h1, h2⟩
  exact h.elim (fun z => z h1) fun z => z h2

section
variable {P : Program} {w : World} {K : PySem.W.Frag} {mg mb : Str → Option Value} {CM : Str → Option Addr} {k : Nat} {fa a : Addr} {fd : FuncData} {x : Str} {g : GF} {st : Shared} {us : List Value} {ns : List Int}
theorem law_run (kin : K.In st.heap) (gl : st.heap.Ns mainGlobals mg) (bl : st.heap.Ns builtinsNs mb) (bb : ∀ y : Str, y ≠ "__name__" → mb y = bootBuiltins y) (nl : st.heap.NoLimit) (hg : st.gens = #[])
    (ha : st.heap.get? a = some { cls := .type "list", data := .seq us.toArray }) (hi : IntsAre us ns) (sz : ns.length ≤ sizeLine) (hr : RoomG k callerA)
    (F : ∀ base : Heap, K.In base → base.Ns mainGlobals mg → FnG P w K mg base (L2.CX P w) k fa fd [x] (spF ⟨K, CM, [], w⟩ 1 g)) (hbind : ∀ (s : Shared) (u : Value), BindsTo s fd ⟨[u], []⟩ [(x, u)])
    (hv : g [(false, .scr ns)] = .ok false (.bl true) none) :
    codeAny (model P w) callerA (.call (.ref fa) ⟨[.ref a], []⟩) (fun r s' => r = .ok (.ret (.bool true)) ∧ OldK st.heap s'.heap ∧ s'.os = st.os ∧ AllBare s'.gens) st := by
  have ln := hi.length
  have rv := vals_ints hi
  obtain ⟨ob, hob⟩ : ∃ ob : Obj, ob = { cls := .type "list", data := .seq us.toArray } := ⟨_, rfl⟩
  obtain ⟨H, hH⟩ : ∃ H : Hp, H = onlyAt K a ob (ns.map V.int) := ⟨_, rfl⟩
  have tracked : ∀ {b : Addr} {u : HO}, H b = some u → b = a ∧ K.lookup a = none ∧ u = .frz ob (.lst (ns.map V.int)) := fun {b u} e => by rw [hH] at e; exact onlyAt_some e
  have untracked : ∀ {b : Addr}, (b ≠ a ∨ K.lookup a ≠ none) → H b = none := fun {b} e => by rw [hH]; exact onlyAt_none e
  have hok : HOk P w H st.heap := fun b u e => by
    obtain ⟨rfl, _, rfl⟩ := tracked e
    rw [hob]
    exact ⟨ha, by rw [List.length_map]; exact sz, us, _, rv, ha⟩
  have sq : SqL K H a (ns.map V.int) := by
    cases hk : K.lookup a with
    | none => exact .inl (.inr ⟨ob, by rw [hH]; unfold onlyAt; rw [if_pos ⟨rfl, hk⟩]⟩)
    | some o =>
      have e := kin a o hk
      rw [ha] at e
      cases e
      exact .inr ⟨_, us.toArray, _, hk, rfl, rfl, rfl, by rw [List.size_toArray, ln]; exact sz, by simpa using rv⟩
  -- what isn't tracked stands in the base
  have nodict : ∀ {b : Addr} {o : Obj} {es : Array DictEntry} {ep : Nat}, st.heap.get? b = some o → o.data = .dict es ep → H b = none := fun {b o es ep} e d => by
    cases q : H b with
    | none => rfl
    | some u =>
      obtain ⟨rfl, _, _⟩ := tracked q
      rw [ha] at e; cases e
      have d' : Data.seq us.toArray _ = Data.dict es ep := d
      cases d'
  have ns' : ∀ {b : Addr} {m : Str → Option Value}, st.heap.Ns b m → (hidT st.heap H).Ns b m := fun {b m} ⟨o, es, ep, e, d, r⟩ => ⟨o, es, ep, hidT_get e (nodict e d), d, r⟩
  have kb : K.In (hidT st.heap H) := fun b o e => hidT_get (kin b o e) (by
    cases q : H b with
    | none => rfl
    | some u =>
      obtain ⟨rfl, z, _⟩ := tracked q
      rw [z] at e; cases e)
  have md : Mod K mg (hidT st.heap H) := ⟨kb, ns' gl, ⟨mb, ns' bl, bb⟩, let ⟨mc, h1, h2⟩ := nl; ⟨mc, ns' h1, h2⟩⟩
  have nof : ∀ {b : Addr}, b ∉ frs [] := fun {b} z => absurd (show b ∈ ([] : List Addr) from z) (by simp)
  have e0 : Env0 P w K mg (hidT st.heap H) callerA [] st H := ⟨rfl, md, fun b o e => of_hidT e, Nat.le_of_eq (hidT_size _ _), trivial, fun b hb => absurd hb nof, hok, .of_eq hg⟩
  have pre : spF ⟨K, CM, [], w⟩ 1 g [.ref a] H (fun v _ => v = .bl true) (fun _ _ _ => False) := by
    refine ⟨H, [(false, .scr ns)], rfl, ⟨Le.refl _, ⟨(fun p hp => nomatch hp), (fun b ps e => nomatch (tracked e).2.2)⟩, fun b ps e => nomatch (tracked e).2.2⟩, ⟨_, [], rfl, ?_, rfl⟩, by simp [lents], ?_⟩
    · rw [Rep]; exact ⟨a, rfl, sq⟩
    · rw [hv]; exact fun u G' H' _ nr _ => rep_bl.mp (show Rep ⟨K, CM, [], w⟩ G' (.bl true) u from nr)
  refine codeAny_mono ((F _ kb (ns' gl)).go callerA [] st H ⟨[.ref a], []⟩ [.ref a] [.ref a] _ _ hr e0 (hbind st (.ref a)) (.cons rfl .nil) pre) fun r s' h => ?_
  match r, h with
  | .error e, h =>
    obtain ⟨_, _, _, _, _, _, _, _, _, _, _, _, z⟩ := h
    exact z.elim
  | .ok .next, h => exact False.elim h
  | .ok .brk, h => exact False.elim h
  | .ok .cont, h => exact False.elim h
  | .ok (.ret u), h =>
    obtain ⟨v, H', os, bare, un, hok', r', q⟩ := h
    obtain rfl : v = .bl true := q
    obtain rfl : u = Value.bool true := r'
    refine ⟨rfl, OldK.of_keep fun b o e => ?_, os, bare⟩
    cases q : H b with
    | none => exact un.keep b o e q nof (by simp)
    | some t =>
      obtain ⟨rfl, _, rfl⟩ := tracked q
      have z := (hok b _ q).1
      rw [e] at z; cases z
      exact (hok' b _ (un.frzs b ob _ q)).1
end

/-- the goal that a head leaves, from the law's promise -/
theorem walk_end {l : PySem.W.OpenLaw} {n k : Nat} {q : Program} {loose : List Str} {XP : (Str → Option Value) → Heap → Prop} {YP : World → Heap → Prop} {d : DefRec} {x : Str}
    (hn : l.most = some n) (hn2 : n ≤ sizeLine) (hdf : d.params.defaults = []) (hr : RoomG k callerA)
    (F : ∀ (w : World) (mg : Str → Option Value) (fa : Addr) (h : Heap), YP w h → h.Ns mainGlobals mg → mg d.name = some (.ref fa) →
      ∃ (K : PySem.W.Frag) (CM : Str → Option Addr) (fd : FuncData) (g : GF), K.In h ∧ (∀ (s : Shared) (u : Value), BindsTo s fd ⟨[u], []⟩ [(x, u)]) ∧ (∀ ns : List Int, ns.length ≤ n → g [(false, .scr ns)] = .ok false (.bl true) none) ∧
        ∀ base : Heap, K.In base → base.Ns mainGlobals mg → FnG l.prog w K mg base (L2.CX l.prog w) k fa fd [x] (spF ⟨K, CM, [], w⟩ 1 g)) :
    PySem.W.WalkO q loose XP YP l.row.toRowW d [] (fun f vs => PySem.call f vs) := by
  refine Att.attach_call hn hdf fun w s₀ st mg mb fa o pm cd doc a us ns G Y ho hd hcd hmg hobj hints hlen hg => ?_
  obtain ⟨K, CM, fd, g, kin, hb, hv, hF⟩ := F w mg fa _ Y G.T.g hmg
  exact law_run kin G.T.g G.T.b G.T.builtins G.T.nolimit hg hobj hints (Nat.le_trans hlen hn2) hr hF hb (hv ns hlen)
theorem roomG_top : RoomG 12 callerA := ⟨⟨rfl, by decide, by decide⟩, rfl⟩
end M
namespace M
open PySem L2

section
variable {X : Cx} {A : Act} {W : WX} {elt tg iter : Expr} {ifs : List Expr} {scope : Scope} {own : List (Str × Nat)} {pos spos : Pos} {fi : IF} {t : TF} {c : BF} {f : EF} {st' sl : List Nat}
abbrev W0 : WX := fun _ _ _ _ => False
theorem PTs.imp {ifs : List Expr} {t t' : TT} (h : PTs X ifs t) (hi : ∀ σ H Q, t' σ H Q → t σ H Q) : PTs X ifs t' := ⟨fun pins s σ H Q I q => h.run pins s σ H Q I (hi _ _ _ q)⟩
theorem pts_no : PTs X [] (tBo A W yesB) := PTs.imp pts_nil fun σ H Q ⟨r, G, k, m⟩ => m G H k Step.refl
theorem pts_1 {x : Expr} (h : PT X x (tBo A W c)) : PTs X [x] (tBo A W c) := pts_one h
theorem pe_lcM (hc : X.calm = true) (hN : X.N.Nodup) (hi : PI X tg iter (tIt A W fi)) (ok : BlkOk X.N X.env.scope scope own)
    (hg : ∀ (s : Shared) (H : Hp) (C : Addr) (cl : List (Str × Addr)) (fp : List Addr), PG (X.blk s H scope (compEnvC scope cl C X.env) fp) tg (tTg A st' t))
    (ht : ∀ (s : Shared) (H : Hp) (C : Addr) (cl : List (Str × Addr)) (fp : List Addr), PTs (X.blk s H scope (compEnvC scope cl C X.env) fp) ifs (tBo A W0 c))
    (he : ∀ (s : Shared) (H : Hp) (C : Addr) (cl : List (Str × Addr)) (fp : List Addr), PE (X.blk s H scope (compEnvC scope cl C X.env) fp) elt (tE A W0 f))
    (tok : TOk st' t) (hs' : ∀ j ∈ st', j ∈ sl) (hio : ∀ i ∈ A.io, i ∉ sl) (hsl : own.map (·.2) = sl := by rfl) (hs : ∀ x, foldedSetIterable iter X.env x = pure x := by intro _; rfl) :
    PE X (.ListComp elt [⟨tg, iter, ifs, 0⟩] scope pos) (tE A W (lc fi t c f sl)) := by
  subst hsl
  exact PE.imp (pe_lc hc hN hi ok hg ht (fun s H C cl fp => pe_frz (he s H C cl fp)) hs) fun _ _ _ q => lc_of tok hs' hio q
/-- name = [..] on one line -/
theorem ps_asgLc {i : Nat} {y : Str} {py : Pos} (hc : X.calm = true) (hN : X.N.Nodup) (hy : X.N[i]? = some y) (hyl : X.env.scope.names.lookup y = some .local) (hyi : i ∉ A.io)
    (hsw : swapsWith (.ListComp elt [⟨tg, iter, ifs, 0⟩] scope pos) (some (.Name y py)) spos.line X.env = pure true) (hi : PI X tg iter (tIt A W fi)) (ok : BlkOk X.N X.env.scope scope own)
    (hg : ∀ (s : Shared) (H : Hp) (C : Addr) (cl : List (Str × Addr)) (fp : List Addr), PG (X.blk s H scope (compEnvC scope cl C X.env) fp) tg (tTg A st' t))
    (ht : ∀ (s : Shared) (H : Hp) (C : Addr) (cl : List (Str × Addr)) (fp : List Addr), PTs (X.blk s H scope (compEnvC scope cl C X.env) fp) ifs (tBo A W0 c))
    (he : ∀ (s : Shared) (H : Hp) (C : Addr) (cl : List (Str × Addr)) (fp : List Addr), PE (X.blk s H scope (compEnvC scope cl C X.env) fp) elt (tE A W0 f))
    (tok : TOk st' t) (hs' : ∀ j ∈ st', j ∈ sl) (hio : ∀ i ∈ A.io, i ∉ sl) (hsl : own.map (·.2) = sl := by rfl) (hs : ∀ x, foldedSetIterable iter X.env x = pure x := by intro _; rfl) :
    PS X (.Assign [.Name y py] (.ListComp elt [⟨tg, iter, ifs, 0⟩] scope pos) spos) (tSt A W (asg i (lc fi t c f sl))) := by
  subst hsl
  exact PS.imp (ps_setLc hc hN hy hyl hsw hi ok hg ht (fun s H C cl fp => pe_frz (he s H C cl fp)) hs) fun D σ H h => by
    obtain ⟨r, G, k, m⟩ := tSt_iff.mp h
    refine lc_of tok hs' hio ⟨r, G, k, ?_⟩
    unfold asg at m
    cases hf : lc fi t c f (own.map (·.2)) r with
    | bad => rw [hf] at m; exact m.elim
    | ex e r' => simp only [hf] at m ⊢; exact m σ
    | ok o v r' => simp only [hf] at m ⊢; exact fun x G' H' R => m _ G' H' (R.ok.store R.tr hyi) R.st.ex
end

section
variable {P : Program} {w : World} {K : PySem.W.Frag} {mg : Str → Option Value} {base : Heap}
abbrev FunP (K : PySem.W.Frag) (x : Str) (st : Stmt) (f : Addr) (fd : FuncData) : Prop := FunD K x x (defArgs st) (defBody st) (defScope st) [] [] f fd
/-- the def of the module named x keeps its promise g -/
structure DefP (P : Program) (w : World) (K : PySem.W.Frag) (mg : Str → Option Value) (base : Heap) (wd : Wd) (lvl : Nat) (x : Str) (st : Stmt) (ps : List Str) (g : GF) : Prop where
  ex : ∃ f fd, mg x = some (.ref f) ∧ FunP K x st f fd ∧ Binds K fd ps [] ∧ FnG P w K mg base (L2.CX P w) lvl f fd ps (spF wd ps.length g)
theorem def_mk {x : Str} {st : Stmt} {f : Addr} {fd : FuncData} {N ps : List Str} {k : Nat} {wd : Wd} {ios : List Nat} {body : SF} (hm : mg x = some (.ref f)) (F : FunP K x st f fd) (S : FnScope N ps (defScope st))
    (hb : ∀ (cdv : Value) (A : Around) (outer : List PySem.Env) (s : Shared) (H : Hp) (E : XK), RoomG k (A.deeper (PyProof.Rows.envOfC x (defScope st) s.heap.objs.size f cdv)) →
      SV (cxOf (L2.CX P w) P w K mg base N x (defScope st) f cdv A outer s H E) wd ios (defBody st) body)
    (hbind : ∀ (kV doc pm : Value) (an : Option Addr) (cdv ct : Value) (us : List Value), us.length = ps.length → bindArgs (PySem.W.fnOf x x (defArgs st) (defBody st) (defScope st) .none kV doc pm an cdv ct) ⟨us, []⟩ = pure (ps.zip us)) :
    DefP P w K mg base wd (k + 1) x st ps (runDef ios ps.length N.length body) := by
  refine ⟨f, fd, hm, F, FunD.bindsN F hbind, ?_⟩
  obtain ⟨oc, od, dV, kV, doc, pm, an, cdv, ct, osl, e, lk, hcd, hD, _⟩ := F.ex
  have F' : Fun K x x st f fd := by
    refine ⟨⟨oc, od, kV, doc, pm, an, cdv, ct, osl, ?_, lk, hcd⟩, F.kp⟩
    rcases hD with ⟨_, rfl⟩ | ⟨z, _⟩
    · exact e
    · exact absurd rfl z
  exact def_ok F' S hb fun as => .inr rfl
end
section
variable {X : Cx} {A : Act} {W : WX} {lvl : Nat} {x : Str} {st : Stmt} {ps ks : List Str} {g : GF} {p pos : Pos} {e : Expr} {es : List Expr} {kws : List Keyword} {fo fk : OsF}
theorem pe_cD {n : Nat} (d : DefP X.prog X.w X.K X.mg X.base A.w lvl x st ps g) (hr : RoomG lvl X.A) (hg : Gl X x) (tk : Takes X W) (ha : PA X (e :: es) (tOs A W fo)) (hn : ps.length = n := by rfl) (hdb : (x == ("__debug__" : Str)) = false := by decide)
    (he : NoStar X e es := by rfl) (hpl : NoStars X es pos := by rfl) : PE X (.Call (.Name x p) (e :: es) [] pos) (tE A W (callG n g fo)) := by
  subst hn
  obtain ⟨f, fd, hm, F, hb, G⟩ := d.ex
  exact pe_cG G hr hg hm F.kp hb tk ha hdb he hpl
/-- how a call with keywords binds: seen of the text -/
def KwB (x : Str) (st : Stmt) (ps ks : List Str) (ix : List Nat) (n : Nat) : Prop := ∀ (kV doc pm : Value) (an : Option Addr) (cdv ct : Value) (us ws zs : List Value), us.length = n → ws.length = ks.length → pick ix (us ++ ws) = some zs → zs.length = ps.length →
  bindArgs (PySem.W.fnOf x x (defArgs st) (defBody st) (defScope st) .none kV doc pm an cdv ct) ⟨us, ks.zip ws⟩ = pure (ps.zip zs)
theorem bindK_of {K : PySem.W.Frag} {f : Addr} {fd : FuncData} {ix : List Nat} {n : Nat} (F : FunP K x st f fd) (h : KwB x st ps ks ix n) : BindK K fd ps ks ix n := by
  obtain ⟨oc, od, dV, kV, doc, pm, an, cdv, ct, osl, rfl, lk, hcd, hD, _⟩ := F.ex
  rcases hD with ⟨_, rfl⟩ | ⟨z, _⟩
  · exact ⟨fun s us ws zs _ h1 h2 h3 h4 => .of_eq (h kV doc pm an cdv ct us ws zs h1 h4 h2 h3)⟩
  · exact absurd rfl z
theorem pe_cDK0 {n n2 : Nat} {ix : List Nat} (d : DefP X.prog X.w X.K X.mg X.base A.w lvl x st ps g) (hr : RoomG lvl X.A) (hg : Gl X x) (tk : Takes X W) (hb : KwB x st ps ks ix 0) (hkw : PK X kws (tOs A W fk)) (hn : ps.length = n := by rfl) (hn2 : ks.length = n2 := by rfl)
    (hall : (backToKw pos (keywordEach kws X.env)).all (·.1.isSome) = true := by rfl) (hks : (backToKw pos (keywordEach kws X.env)).filterMap (·.1) = ks := by rfl)
    (hdb : (x == ("__debug__" : Str)) = false := by decide)
    (hpl : KPlain X [] kws pos := by rfl) (hne : KCall X x kws p pos := by rfl) :
    PE X (.Call (.Name x p) [] kws pos) (tE A W (callG n g (osPick ix (osN n2 fk)))) := by
  subst hn hn2
  obtain ⟨f, fd, hm, F, _, G⟩ := d.ex
  exact pe_cGK0 G hr hg hm F.kp (bindK_of F hb) tk hkw hall hks hdb hpl hne
end
/-- constants of the text and of the module -/
theorem pe_ci {X : Cx} {A : Act} {W : WX} {i : Int} {j : Nat} {pos : Pos} : PE X (.Constant (.int i) j pos) (tE A W (cst (.int i))) := pe_cst pe_int fun _ => rep_int.mpr rfl
theorem pe_cs {X : Cx} {A : Act} {W : WX} {x : Str} {j : Nat} {pos : Pos} (hx : x.length ≤ sizeLine := by decide +kernel) : PE X (.Constant (.str x) j pos) (tE A W (cst (.str x))) := pe_cst pe_str fun _ => rep_str.mpr ⟨rfl, hx⟩
theorem pe_gs {X : Cx} {A : Act} {W : WX} {x z : Str} {pos : Pos} (hg : Gl X x) (hm : ∃ t, X.mg x = some (.str z t)) (hz : z.length ≤ sizeLine := by decide +kernel) (hd : (x == ("__debug__" : Str)) = false := by decide) : PE X (.Name x pos) (tE A W (cst (.str z))) := by
  obtain ⟨t, h⟩ := hm
  exact pe_cst (pe_glob (v := .str z) hg h ⟨t, rfl⟩ hd) fun _ => rep_str.mpr ⟨rfl, hz⟩
theorem pe_gi {X : Cx} {A : Act} {W : WX} {x : Str} {z : Int} {pos : Pos} (hg : Gl X x) (hm : ∃ t, X.mg x = some (.int z t)) (hd : (x == ("__debug__" : Str)) = false := by decide) : PE X (.Name x pos) (tE A W (cst (.int z))) := by
  obtain ⟨t, h⟩ := hm
  exact pe_cst (pe_glob (v := .int z) hg h ⟨t, rfl⟩ hd) fun _ => rep_int.mpr rfl
theorem pe_tyN {X : Cx} {A : Act} {W : WX} {x : Str} {T : String} {pos : Pos} (hg : Gl X x) (hm : X.mg x = none) (hv : bootBuiltins x = some (.type T)) (hn : x ≠ "__name__" := by decide) (hd : (x == ("__debug__" : Str)) = false := by decide) : PE X (.Name x pos) (tE A W (cst (.ty T))) :=
  pe_cst (pe_bltn hg hm hv (v := .ty T) rfl hn hd) fun _ => rep_ty.mpr rfl
theorem Cal.blk {X : Cx} {w : Wd} {s : Shared} {H : Hp} {scope : Scope} {ce : PySem.Env} {fp : List Addr} (c : Cal X w) : Cal (X.blk s H scope ce fp) w := ⟨c.K, c.calm, c.un, c.gs, c.sy, c.W⟩
theorem cal_of {CXx : CXT} {P : Program} {w : World} {K : PySem.W.Frag} {mg : Str → Option Value} {base : Heap} {N : List Str} {qual : Str} {scope : Scope} {f : Addr} {cdv : Value} {A : Around} {outer : List PySem.Env} {s : Shared} {H : Hp} {E : XK} {k : Nat} {Tb : List (Addr × Str)} {CM : Str → Option Addr}
    (hr : RoomG k (A.deeper (PyProof.Rows.envOfC qual scope s.heap.objs.size f cdv))) (hs : (K.lookup sysModules).isSome = true) : Cal (cxOf CXx P w K mg base N qual scope f cdv A outer s H E) ⟨K, CM, Tb, w⟩ :=
  ⟨rfl, rfl, by have := hr.room.un; show (A.deeper (PyProof.Rows.envOfC qual scope s.heap.objs.size f cdv)).units + 100 < cLine; omega, hr.gs, hs, rfl⟩
theorem tl_nil : ∀ (vs : List Val) (r r' : Env), tgNil vs r = some r' → vs.length = 0 := fun vs r r' h => by
  cases vs with
  | nil => rfl
  | cons _ _ => cases h
theorem tl_cons {n : Nat} {t : TF} {u : List Val → Env → Option Env} (hu : ∀ (vs : List Val) (r r' : Env), u vs r = some r' → vs.length = n) : ∀ (vs : List Val) (r r' : Env), tgCons t u vs r = some r' → vs.length = n + 1 := fun vs r r' h => by
  cases vs with
  | nil => cases h
  | cons v vs =>
    simp only [tgCons] at h
    cases ht : t v r with
    | none => simp only [ht] at h; cases h
    | some r1 => simp only [ht] at h; simp [hu vs r1 r' h]
theorem bt_str : bootBuiltins "str" = some (.type "str") := by decide +kernel
theorem bt_int : bootBuiltins "int" = some (.type "int") := by decide +kernel
theorem bt_list : bootBuiltins "list" = some (.type "list") := by decide +kernel
theorem bt_tuple : bootBuiltins "tuple" = some (.type "tuple") := by decide +kernel
theorem bt_dict : bootBuiltins "dict" = some (.type "dict") := by decide +kernel
theorem bf_isinstance : bootBuiltins "isinstance" = some (.builtin "isinstance") := by decide +kernel
theorem bf_len : bootBuiltins "len" = some (.builtin "len") := by decide +kernel
theorem bf_abs : bootBuiltins "abs" = some (.builtin "abs") := by decide +kernel
theorem bf_repr : bootBuiltins "repr" = some (.builtin "repr") := by decide +kernel
theorem bf_all : bootBuiltins "all" = some (.builtin "all") := by decide +kernel
theorem bf_any : bootBuiltins "any" = some (.builtin "any") := by decide +kernel
def Pneg : List Val → Option (Bool × Val)
  | [.int i] => some (false, .int (-i))
  | _ => none
theorem pe_neg {X : Cx} {A : Act} {W : WX} {x : Expr} {fo : OF} {pos : Pos} (h : PE X x (tO A W fo)) : PE X (.UnaryOp .USub x pos) (tE A W (prim Pneg (osCons fo osNil))) :=
  PE.imp (pe_un un_neg h) fun σ H Q q => by
    have q1 := prim_os1 q
    obtain ⟨r, G, k, m⟩ := q1
    refine ⟨r, G, k, ?_⟩
    cases hf : fo r with
    | bad => simp only [hf] at m
    | ex e r' => simp only [hf] at m ⊢; exact m
    | ok h r1 =>
      simp only [hf] at m ⊢
      intro x G1 H1 k1 st1 t1
      obtain ⟨G2, vs, o, z, le, rr, hp, q2⟩ := m x G1 H1 k1 st1 t1
      unfold Pneg at hp
      split at hp
      · obtain ⟨y, e, r1⟩ := rreps_one rr
        cases e; cases hp
        obtain rfl := rrep_int r1
        exact ⟨_, rfl, int_new le q2⟩
      · cases hp
/-- the promise of the def at f, found by its name -/
theorem DefP.at {P : Program} {w : World} {K : PySem.W.Frag} {mg : Str → Option Value} {base : Heap} {wd : Wd} {lvl k : Nat} {x : Str} {st : Stmt} {ps : List Str} {g : GF} {f : Addr} {fd : FuncData} (d : DefP P w K mg base wd lvl x st ps g) (hm : mg x = some (.ref f)) (F : FunP K x st f fd) (hk : lvl ≤ k) :
    FnG P w K mg base (L2.CX P w) k f fd ps (spF wd ps.length g) := by
  obtain ⟨f', fd', hm', F', _, G⟩ := d.ex
  rw [hm] at hm'
  cases hm'
  obtain ⟨_, _, _, _, _, _, _, _, _, _, _, l1, _⟩ := F.ex
  obtain ⟨_, _, _, _, _, _, _, _, _, _, _, l2, _⟩ := F'.ex
  rw [l1] at l2
  cases l2
  exact G.up hk
end M
namespace M
open PySem L2

def wE (f : EF) (r : Env) (Q : ER → Prop) : Prop := Q (f r)
def wO (f : OF) (r : Env) (Q : OR → Prop) : Prop := Q (f r)
def wOs (f : OsF) (r : Env) (Q : OsR → Prop) : Prop := Q (f r)
def wB (f : BF) (r : Env) (Q : BR → Prop) : Prop := Q (f r)
def wA (f : AF) (r : Env) (Q : AR → Prop) : Prop := Q (f r)
def wI (f : IF) (r : Env) (Q : IR → Prop) : Prop := Q (f r)
def wP (f : PF) (r : Env) (Q : PR → Prop) : Prop := Q (f r)
def wS (f : SF) (r : Env) (Q : SR → Prop) : Prop := Q (f r)
def wD (l : List (EF × EF)) (r : Env) (Q : DR → Prop) : Prop := Q (dspL l r)
def wG (g : GF) (as : List (Bool × Val)) (Q : GR → Prop) : Prop := Q (g as)
def wL (t : TF) (b : SF) (vs : List Val) (r : Env) (Q : SR → Prop) : Prop := Q (forL t b vs r)
def wC (t : TF) (c : BF) (f : EF) (sl : List Nat) (vs acc : List Val) (r : Env) (Q : AR → Prop) : Prop := Q (lcL t c f sl vs acc r)
section
variable {r : Env} {i j n : Nat} {v : Val} {f f' : EF} {fo fo' : OF} {fs fs' : OsF} {c c' : BF} {g : AF} {b b' : SF} {t : TF}
theorem wE_cst {Q : ER → Prop} : wE (cst v) r Q = Q (.ok false v r) := rfl
def kvar (i : Nat) (r : Env) (Q : ER → Prop) : Option Slot → Prop
  | some (some (false, v)) => Q (.ok false v r)
  | some (some (true, v)) => Q (.ok false v (r.set i (some (false, v))))
  | _ => Q .bad
theorem wE_var {Q : ER → Prop} : wE (var i) r Q = kvar i r Q r[i]? := by
  unfold wE var
  rcases r[i]? with _ | _ | ⟨_ | _, v⟩ <;> rfl
def kmv (i : Nat) (r : Env) (Q : ER → Prop) : Option Slot → Prop
  | some (some (o, v)) => Q (.ok o v (r.set i none))
  | _ => Q .bad
theorem wE_mv {Q : ER → Prop} : wE (mv i) r Q = kmv i r Q r[i]? := by
  unfold wE mv
  rcases r[i]? with _ | _ | ⟨o, v⟩ <;> rfl
def kfrz (Q : ER → Prop) : ER → Prop
  | .ok _ v r' => Q (.ok false v r')
  | .ex e r' => Q (.ex e r')
  | .bad => Q .bad
theorem wE_frz {Q : ER → Prop} : wE (frz f) r Q = wE f r (kfrz Q) := by unfold wE frz; cases f r <;> rfl
def koV (Q : OR → Prop) : ER → Prop
  | .ok o v r' => Q (.ok (.tmp o v) r')
  | .ex e r' => Q (.ex e r')
  | .bad => Q .bad
theorem wO_V {Q : OR → Prop} : wO (oV f) r Q = wE f r (koV Q) := by unfold wO wE oV; cases f r <;> rfl
def koS (i : Nat) (r : Env) (Q : OR → Prop) : Option Slot → Prop
  | some (some _) => Q (.ok (.sl i) r)
  | _ => Q .bad
theorem wO_S {Q : OR → Prop} : wO (oS i) r Q = koS i r Q r[i]? := by
  unfold wO oS
  rcases r[i]? with _ | _ | _ <;> rfl
theorem wOs_nil {Q : OsR → Prop} : wOs osNil r Q = Q (.ok [] r) := rfl
def kcons2 (h : Hd) (Q : OsR → Prop) : OsR → Prop
  | .ok hs r2 => Q (.ok (h :: hs) r2)
  | .ex e r2 => Q (.ex e r2)
  | .bad => Q .bad
def kcons (fs : OsF) (Q : OsR → Prop) : OR → Prop
  | .ok h r1 => wOs fs r1 (kcons2 h Q)
  | .ex e r1 => Q (.ex e r1)
  | .bad => Q .bad
theorem wOs_cons {Q : OsR → Prop} : wOs (osCons fo fs) r Q = wO fo r (kcons fs Q) := by
  unfold wOs wO osCons
  cases fo r with
  | ok h r1 => simp only [kcons, wOs]; cases fs r1 <;> rfl
  | _ => rfl
def kp2 (Q : ER → Prop) (r : Env) : Option (Bool × Val) → Prop
  | some (o, z) => Q (.ok o z r)
  | none => Q .bad
def kp1 (P : List Val → Option (Bool × Val)) (Q : ER → Prop) (r : Env) : Option (List Val) → Prop
  | some vs => kp2 Q r (P vs)
  | none => Q .bad
def kprim (P : List Val → Option (Bool × Val)) (Q : ER → Prop) : OsR → Prop
  | .ok hs r1 => kp1 P Q r1 (getAll r1 hs)
  | .ex e r1 => Q (.ex e r1)
  | .bad => Q .bad
theorem wE_prim {P : List Val → Option (Bool × Val)} {Q : ER → Prop} : wE (prim P fs) r Q = wOs fs r (kprim P Q) := by
  unfold wE wOs prim
  cases fs r with
  | ok hs r1 =>
    simp only [kprim]
    cases getAll r1 hs with
    | none => rfl
    | some vs => simp only [kp1]; rcases P vs with _ | ⟨o, z⟩ <;> rfl
  | _ => rfl
def ktst (Q : BR → Prop) : ER → Prop
  | .ok _ (.bl b) r' => Q (.ok b r')
  | .ok _ _ _ => Q .bad
  | .ex e r' => Q (.ex e r')
  | .bad => Q .bad
theorem wB_tst {Q : BR → Prop} : wB (tst f) r Q = wE f r (ktst Q) := by
  unfold wB wE tst
  cases f r with
  | ok o v r' => cases v <;> rfl
  | _ => rfl
def kand (c' : BF) (Q : BR → Prop) : BR → Prop
  | .ok true r' => wB c' r' Q
  | x => Q x
theorem wB_and {Q : BR → Prop} : wB (andB c c') r Q = wB c r (kand c' Q) := by
  unfold wB andB
  rcases c r with ⟨_ | _, r'⟩ | _ | _ <;> rfl
def kor (c' : BF) (Q : BR → Prop) : BR → Prop
  | .ok false r' => wB c' r' Q
  | x => Q x
theorem wB_or {Q : BR → Prop} : wB (orB c c') r Q = wB c r (kor c' Q) := by
  unfold wB orB
  rcases c r with ⟨_ | _, r'⟩ | _ | _ <;> rfl
def knot (Q : BR → Prop) : BR → Prop
  | .ok b r' => Q (.ok (!b) r')
  | x => Q x
theorem wB_not {Q : BR → Prop} : wB (notB c) r Q = wB c r (knot Q) := by
  unfold wB notB
  cases c r <;> rfl
theorem wB_yes {Q : BR → Prop} : wB yesB r Q = Q (.ok true r) := rfl
def kandV (f' : EF) (Q : ER → Prop) : ER → Prop
  | .ok _ (.bl true) r' => wE f' r' Q
  | .ok _ (.bl false) r' => Q (.ok false (.bl false) r')
  | .ok _ _ _ => Q .bad
  | x => Q x
theorem wE_andV {Q : ER → Prop} : wE (andV f f') r Q = wE f r (kandV f' Q) := by
  unfold wE andV
  cases f r with
  | ok o v r' =>
    cases v with
    | bl b => cases b <;> rfl
    | _ => rfl
  | _ => rfl
def korV (f' : EF) (Q : ER → Prop) : ER → Prop
  | .ok _ (.bl true) r' => Q (.ok false (.bl true) r')
  | .ok _ (.bl false) r' => wE f' r' Q
  | .ok _ _ _ => Q .bad
  | x => Q x
theorem wE_orV {Q : ER → Prop} : wE (orV f f') r Q = wE f r (korV f' Q) := by
  unfold wE orV
  cases f r with
  | ok o v r' =>
    cases v with
    | bl b => cases b <;> rfl
    | _ => rfl
  | _ => rfl
def knotV (Q : ER → Prop) : ER → Prop
  | .ok _ (.bl b) r' => Q (.ok false (.bl (!b)) r')
  | .ok _ _ _ => Q .bad
  | x => Q x
theorem wE_notV {Q : ER → Prop} : wE (notV f) r Q = wE f r (knotV Q) := by
  unfold wE notV
  cases f r with
  | ok o v r' => cases v <;> rfl
  | _ => rfl
def kite (f f' : EF) (Q : ER → Prop) : BR → Prop
  | .ok true r' => wE f r' Q
  | .ok false r' => wE f' r' Q
  | .ex e r' => Q (.ex e r')
  | .bad => Q .bad
theorem wE_ite {Q : ER → Prop} : wE (ite c f f') r Q = wB c r (kite f f' Q) := by
  unfold wE wB ite
  rcases c r with ⟨_ | _, r'⟩ | _ | _ <;> rfl
theorem wA_nil {Q : AR → Prop} : wA asNil r Q = Q (.ok [] r) := rfl
def kac2 (v : Val) (Q : AR → Prop) : AR → Prop
  | .ok vs r2 => Q (.ok (v :: vs) r2)
  | .ex e r2 => Q (.ex e r2)
  | .bad => Q .bad
def kac (g : AF) (Q : AR → Prop) : ER → Prop
  | .ok _ v r1 => wA g r1 (kac2 v Q)
  | .ex e r1 => Q (.ex e r1)
  | .bad => Q .bad
theorem wA_cons {Q : AR → Prop} : wA (asCons f g) r Q = wE f r (kac g Q) := by
  unfold wA wE asCons frz
  cases f r with
  | ok o v r1 => simp only [kac, wA]; cases g r1 <;> rfl
  | _ => rfl
def kstar2 (ds : List Val) (Q : AR → Prop) : AR → Prop
  | .ok vs r2 => Q (.ok (ds ++ vs) r2)
  | .ex e r2 => Q (.ex e r2)
  | .bad => Q .bad
def kstar1 (g : AF) (r : Env) (Q : AR → Prop) : Option (Bool × Val) → Prop
  | some (true, .lst ds) => wA g r (kstar2 ds Q)
  | _ => Q .bad
def kstar (g : AF) (Q : AR → Prop) : ER → Prop
  | .ok _ v r1 => kstar1 g r1 Q (Plist [v])
  | .ex e r1 => Q (.ex e r1)
  | .bad => Q .bad
theorem wA_star {Q : AR → Prop} : wA (asStar f g) r Q = wE f r (kstar g Q) := by
  unfold wA wE asStar frz
  cases f r with
  | ok o v r1 =>
    simp only [kstar]
    rcases Plist [v] with _ | ⟨_ | _, w⟩
    · rfl
    · rfl
    · cases w <;> try rfl
      simp only [kstar1, wA]; cases g r1 <;> rfl
  | _ => rfl
def ktup (Q : ER → Prop) : AR → Prop
  | .ok vs r1 => (if vs.length ≤ 100000 then Q (.ok false (.tup vs) r1) else Q .bad)
  | .ex e r1 => Q (.ex e r1)
  | .bad => Q .bad
theorem wE_tup {Q : ER → Prop} : wE (tup g) r Q = wA g r (ktup Q) := by
  unfold wE wA tup
  cases g r with
  | ok vs r1 => simp only [ktup]; split <;> rfl
  | _ => rfl
def klst (Q : ER → Prop) : AR → Prop
  | .ok vs r1 => (if vs.length ≤ 100000 then Q (.ok true (.lst vs) r1) else Q .bad)
  | .ex e r1 => Q (.ex e r1)
  | .bad => Q .bad
theorem wE_lst {Q : ER → Prop} : wE (lst g) r Q = wA g r (klst Q) := by
  unfold wE wA lst
  cases g r with
  | ok vs r1 => simp only [klst]; split <;> rfl
  | _ => rfl
def kback (r : Env) (ix : Option Nat) (Q : ER → Prop) : GR → Prop
  | .ok o z out => Q (.ok o z (back r ix out))
  | .ex e out => Q (.ex e (back r ix out))
  | .bad => Q .bad
def kc1 (n : Nat) (g : GF) (Q : ER → Prop) (r : Env) (ix : Option Nat) : Option (List (Bool × Val)) → Prop
  | some as => (if lents as ≤ 1 ∧ as.length = n then wG g as (kback r ix Q) else Q .bad)
  | none => Q .bad
def kcall (n : Nat) (g : GF) (Q : ER → Prop) : OsR → Prop
  | .ok hs r1 => kc1 n g Q r1 (lentIx r1 hs) (lend r1 hs)
  | .ex e r1 => Q (.ex e r1)
  | .bad => Q .bad
theorem wE_call {g : GF} {Q : ER → Prop} : wE (callG n g fs) r Q = wOs fs r (kcall n g Q) := by
  unfold wE wOs callG
  cases fs r with
  | ok hs r1 =>
    simp only [kcall]
    cases lend r1 hs with
    | none => rfl
    | some as =>
      simp only [kc1, wG]
      split
      · cases g as <;> rfl
      · rfl
  | _ => rfl
def kd1 (Q : GR → Prop) : Option (Option (Bool × Val)) → Prop
  | some out => Q (.ok false .non out)
  | none => Q .bad
def kd2 (Q : GR → Prop) (o : Bool) (v : Val) : Option (Option (Bool × Val)) → Prop
  | some out => (if o = true ∧ out.map (·.1) = some false then Q .bad else Q (.ok o v out))
  | none => Q .bad
def kd3 (Q : GR → Prop) (e : Val) : Option (Option (Bool × Val)) → Prop
  | some out => Q (.ex e out)
  | none => Q .bad
def kdef (as : List (Bool × Val)) (Q : GR → Prop) : SR → Prop
  | .nx r => kd1 Q (outOf as r)
  | .rt o v r => kd2 Q o v (outOf as r)
  | .ex e r => kd3 Q e (outOf as r)
  | _ => Q .bad
theorem wG_run {ios : List Nat} {np N : Nat} {as : List (Bool × Val)} {Q : GR → Prop} (h1 : as.length = np) (h2 : ∀ i ∈ ownIx as, i ∈ ios) : wG (runDef ios np N b) as Q = wS b (as.map some ++ List.replicate (N - np) none) (kdef as Q) := by
  unfold wG wS runDef
  rw [if_pos ⟨h1, h2⟩]
  cases b (as.map some ++ List.replicate (N - np) none) with
  | nx r => simp only [kdef]; cases outOf as r <;> rfl
  | rt o v r =>
    simp only [kdef]
    cases outOf as r with
    | none => rfl
    | some out => simp only [kd2]; split <;> rfl
  | ex e r => simp only [kdef]; cases outOf as r <;> rfl
  | _ => rfl
def kseq (b' : SF) (Q : SR → Prop) : SR → Prop
  | .nx r' => wS b' r' Q
  | x => Q x
theorem wS_seq {Q : SR → Prop} : wS (seq b b') r Q = wS b r (kseq b' Q) := by
  unfold wS seq
  cases b r <;> rfl
theorem wS_skip {Q : SR → Prop} : wS skip r Q = Q (.nx r) := rfl
theorem wS_brk {Q : SR → Prop} : wS brk r Q = Q (.bk r) := rfl
theorem wS_cont {Q : SR → Prop} : wS cont r Q = Q (.ct r) := rfl
def kasg (i : Nat) (Q : SR → Prop) : ER → Prop
  | .ok o v r' => Q (.nx (r'.set i (some (o, v))))
  | .ex e r' => Q (.ex e r')
  | .bad => Q .bad
theorem wS_asg {Q : SR → Prop} : wS (asg i f) r Q = wE f r (kasg i Q) := by unfold wS wE asg; cases f r <;> rfl
def kdrop (Q : SR → Prop) : ER → Prop
  | .ok _ _ r' => Q (.nx r')
  | .ex e r' => Q (.ex e r')
  | .bad => Q .bad
theorem wS_drop {Q : SR → Prop} : wS (drop f) r Q = wE f r (kdrop Q) := by unfold wS wE drop; cases f r <;> rfl
def kret (Q : SR → Prop) : ER → Prop
  | .ok o v r' => Q (.rt o v r')
  | .ex e r' => Q (.ex e r')
  | .bad => Q .bad
theorem wS_ret {Q : SR → Prop} : wS (ret f) r Q = wE f r (kret Q) := by unfold wS wE ret; cases f r <;> rfl
def kif (b b' : SF) (Q : SR → Prop) : BR → Prop
  | .ok true r' => wS b r' Q
  | .ok false r' => wS b' r' Q
  | .ex e r' => Q (.ex e r')
  | .bad => Q .bad
theorem wS_if {Q : SR → Prop} : wS (ifS c b b') r Q = wB c r (kif b b' Q) := by
  unfold wS wB ifS
  rcases c r with ⟨_ | _, r'⟩ | _ | _ <;> rfl
def kaug2 (i : Nat) (P : Int → Int → Int) (a : Int) (Q : SR → Prop) : ER → Prop
  | .ok _ (.int b) r' => Q (.nx (r'.set i (some (false, .int (P a b)))))
  | .ok _ _ _ => Q .bad
  | .ex e r' => Q (.ex e r')
  | .bad => Q .bad
def kaug (i : Nat) (P : Int → Int → Int) (f : EF) (r : Env) (Q : SR → Prop) : Option Slot → Prop
  | some (some (false, .int a)) => wE f r (kaug2 i P a Q)
  | _ => Q .bad
theorem wS_aug {P : Int → Int → Int} {Q : SR → Prop} : wS (aug i P f) r Q = kaug i P f r Q r[i]? := by
  unfold wS aug
  rcases r[i]? with _ | _ | ⟨_ | _, v⟩
  · rfl
  · rfl
  · cases v with
    | int a =>
      simp only [kaug, wE]
      cases f r with
      | ok o v r' => cases v <;> rfl
      | _ => rfl
    | _ => rfl
  · rfl
def kitV1 (r : Env) (Q : IR → Prop) : Option (List Val) → Prop
  | some vs => Q (.ok vs r)
  | none => Q .bad
def kitV (Q : IR → Prop) : ER → Prop
  | .ok _ v r' => kitV1 r' Q (itemsOf v)
  | .ex e r' => Q (.ex e r')
  | .bad => Q .bad
theorem wI_V {Q : IR → Prop} : wI (itV f) r Q = wE f r (kitV Q) := by
  unfold wI wE itV frz
  cases f r with
  | ok o v r' => simp only [kitV]; cases itemsOf v <;> rfl
  | _ => rfl
def kitR (q : List Val → Option (List Val)) (Q : IR → Prop) : AR → Prop
  | .ok vs r' => kitV1 r' Q (q vs)
  | .ex e r' => Q (.ex e r')
  | .bad => Q .bad
theorem wI_R {q : List Val → Option (List Val)} {Q : IR → Prop} : wI (itR q g) r Q = wA g r (kitR q Q) := by
  unfold wI wA itR
  cases g r with
  | ok vs r' => simp only [kitR]; cases q vs <;> rfl
  | _ => rfl
theorem wI_zip {Q : IR → Prop} : wI (itZip g) r Q = wA g r (kitR zipOf Q) := wI_R
def kfor (t : TF) (b : SF) (Q : SR → Prop) : IR → Prop
  | .ok vs r1 => wL t b vs r1 Q
  | .ex e r1 => Q (.ex e r1)
  | .bad => Q .bad
theorem wS_for {fi : IF} {Q : SR → Prop} : wS (forS fi t b) r Q = wI fi r (kfor t b Q) := by
  unfold wS wI forS
  cases fi r <;> rfl
def kL (t : TF) (b : SF) (vs : List Val) (Q : SR → Prop) : SR → Prop
  | .nx r2 => wL t b vs r2 Q
  | .ct r2 => wL t b vs r2 Q
  | .bk r2 => Q (.nx r2)
  | x => Q x
def kT (b : SF) (Q Q' : SR → Prop) : Option Env → Prop
  | some r1 => wS b r1 Q
  | none => Q' .bad
theorem wL_cons {vs : List Val} {Q : SR → Prop} : wL t b (v :: vs) r Q = kT b (kL t b vs Q) Q (t v r) := by
  unfold wL
  rw [forL]
  rcases ht : t v r with _ | r1
  · simp only [ht, kT]
  · simp only [ht, kT, wS]
    cases hb : b r1 <;> simp only [hb, kL] <;> rfl
/-- one turn of a loop: what is wished behind it -/
def kTurn (I : Env → Prop) (Q : SR → Prop) : SR → Prop
  | .nx r2 => I r2
  | .ct r2 => I r2
  | .bk r2 => Q (.nx r2)
  | x => Q x
theorem wL_inv {Q : SR → Prop} (I : List Val → Env → Prop) (hs : ∀ v vs r, I (v :: vs) r → kT b (kTurn (I vs) Q) Q (t v r)) (he : ∀ r, I [] r → Q (.nx r)) : ∀ vs r, I vs r → wL t b vs r Q
  | [], r, h => he r h
  | v :: vs, r, h => by
    rw [wL_cons]
    have := hs v vs r h
    cases ht : t v r with
    | none => rw [ht] at this; exact this
    | some r1 =>
      rw [ht] at this
      simp only [kT, wS] at this ⊢
      cases hb : b r1 with
      | nx r2 => rw [hb] at this; exact wL_inv I hs he vs r2 this
      | ct r2 => rw [hb] at this; exact wL_inv I hs he vs r2 this
      | bk r2 => rw [hb] at this; exact this
      | rt o v r2 => rw [hb] at this; exact this
      | ex e r2 => rw [hb] at this; exact this
      | bad => rw [hb] at this; exact this
def kW2 (c : BF) (b : SF) (n : Nat) (Q : SR → Prop) : SR → Prop
  | .nx r2 => wS (whl c b n) r2 Q
  | .ct r2 => wS (whl c b n) r2 Q
  | .bk r2 => Q (.nx r2)
  | x => Q x
def kW (c : BF) (b : SF) (n : Nat) (Q : SR → Prop) : BR → Prop
  | .ok true r1 => wS b r1 (kW2 c b n Q)
  | .ok false r1 => Q (.nx r1)
  | .ex e r1 => Q (.ex e r1)
  | .bad => Q .bad
theorem wS_whl {Q : SR → Prop} : wS (whl c b (n + 1)) r Q = wB c r (kW c b n Q) := by
  unfold wB wS
  rw [whl]
  rcases hc : c r with ⟨_ | _, r'⟩ | _ | _
  · simp only [hc, kW]
  · simp only [hc, kW, wS]; cases hb : b r' <;> simp only [hb, kW2] <;> rfl
  · simp only [hc, kW]
  · simp only [hc, kW]
/-- one turn of a while -/
def kTurnW (b : SF) (I : Env → Prop) (Q : SR → Prop) : BR → Prop
  | .ok true r1 => wS b r1 (kTurn I Q)
  | .ok false r1 => Q (.nx r1)
  | .ex e r1 => Q (.ex e r1)
  | .bad => Q .bad
theorem wW_inv {Q : SR → Prop} (I : Nat → Env → Prop) (hs : ∀ m r, I m r → wB c r (kTurnW b (fun r2 => ∃ k, k < m ∧ I k r2) Q)) : ∀ n m r, m < n → I m r → wS (whl c b n) r Q
  | 0, _, _, h, _ => absurd h (by omega)
  | n + 1, m, r, hm, h => by
    rw [wS_whl]
    have := hs m r h
    unfold wB at this ⊢
    rcases hc : c r with ⟨_ | _, r'⟩ | _ | _ <;> rw [hc] at this
    · exact this
    · simp only [kTurnW, kW, wS] at this ⊢
      cases hb : b r' with
      | nx r2 => rw [hb] at this; obtain ⟨k, hk, h2⟩ := this; exact wW_inv I hs n k r2 (by omega) h2
      | ct r2 => rw [hb] at this; obtain ⟨k, hk, h2⟩ := this; exact wW_inv I hs n k r2 (by omega) h2
      | bk r2 => rw [hb] at this; exact this
      | rt o v r2 => rw [hb] at this; exact this
      | ex e r2 => rw [hb] at this; exact this
      | bad => rw [hb] at this; exact this
    · exact this
    · exact this
def klc2 (r1 : Env) (sl : List Nat) (Q : ER → Prop) : AR → Prop
  | .ok ys r2 => Q (.ok true (.lst ys) (restR r1 r2 sl))
  | _ => Q .bad
def klc (t : TF) (c : BF) (f : EF) (sl : List Nat) (Q : ER → Prop) : IR → Prop
  | .ok vs r1 => wC t c f sl vs [] (wipeR r1 sl) (klc2 r1 sl Q)
  | .ex e r1 => Q (.ex e r1)
  | .bad => Q .bad
theorem wE_lc {fi : IF} {sl : List Nat} {Q : ER → Prop} : wE (lc fi t c f sl) r Q = wI fi r (klc t c f sl Q) := by
  unfold wE wI lc
  cases fi r with
  | ok vs r1 => simp only [klc, wC]; cases lcL t c f sl vs [] (wipeR r1 sl) <;> rfl
  | _ => rfl
def kC2 (t : TF) (c : BF) (f : EF) (sl : List Nat) (vs acc : List Val) (Q : AR → Prop) : ER → Prop
  | .ok _ y r3 => (if acc.length < 100000 then wC t c f sl vs (acc ++ [y]) (wipeR r3 sl) Q else Q .bad)
  | _ => Q .bad
def kC1 (t : TF) (c : BF) (f : EF) (sl : List Nat) (vs acc : List Val) (Q : AR → Prop) : BR → Prop
  | .ok true r2 => wE f r2 (kC2 t c f sl vs acc Q)
  | .ok false r2 => wC t c f sl vs acc (wipeR r2 sl) Q
  | _ => Q .bad
def kC0 (t : TF) (c : BF) (f : EF) (sl : List Nat) (vs acc : List Val) (Q : AR → Prop) : Option Env → Prop
  | some r1 => wB c r1 (kC1 t c f sl vs acc Q)
  | none => Q .bad
theorem wC_cons {sl : List Nat} {vs acc : List Val} {Q : AR → Prop} : wC t c f sl (v :: vs) acc r Q = kC0 t c f sl vs acc Q (t v r) := by
  unfold wC
  rw [lcL]
  rcases ht : t v r with _ | r1
  · simp only [ht, kC0]
  · simp only [ht, kC0, wB]
    rcases hc : c r1 with ⟨_ | _, r2⟩ | _ | _
    · simp only [hc, kC1, wC]
    · simp only [hc, kC1, wE, frz]
      cases hf : f r2 with
      | ok o y r3 => simp only [hf, kC2, wC]; split <;> rfl
      | _ => simp only [hf, kC2]
    · simp only [hc, kC1]
    · simp only [hc, kC1]
/-- one turn of a comprehension -/
def kU2 (sl : List Nat) (I : List Val → Env → Prop) (acc : List Val) : ER → Prop
  | .ok _ y r3 => acc.length < 100000 ∧ I (acc ++ [y]) (wipeR r3 sl)
  | _ => False
def kU1 (f : EF) (sl : List Nat) (I : List Val → Env → Prop) (acc : List Val) : BR → Prop
  | .ok true r2 => wE f r2 (kU2 sl I acc)
  | .ok false r2 => I acc (wipeR r2 sl)
  | _ => False
def kU0 (c : BF) (f : EF) (sl : List Nat) (I : List Val → Env → Prop) (acc : List Val) : Option Env → Prop
  | some r1 => wB c r1 (kU1 f sl I acc)
  | none => False
theorem wC_inv {sl : List Nat} {Q : AR → Prop} (I : List Val → List Val → Env → Prop) (hs : ∀ v vs acc r, I (v :: vs) acc r → kU0 c f sl (I vs) acc (t v r)) (he : ∀ acc r, I [] acc r → Q (.ok acc r)) : ∀ vs acc r, I vs acc r → wC t c f sl vs acc r Q
  | [], acc, r, h => he acc r h
  | v :: vs, acc, r, h => by
    rw [wC_cons]
    have := hs v vs acc r h
    cases ht : t v r with
    | none => rw [ht] at this; exact this.elim
    | some r1 =>
      rw [ht] at this
      simp only [kC0, kU0, wB] at this ⊢
      rcases hc : c r1 with ⟨_ | _, r2⟩ | _ | _ <;> rw [hc] at this
      · exact wC_inv I hs he vs acc _ this
      · simp only [kC1, kU1, wE] at this ⊢
        cases hf : f r2 with
        | ok o y r3 => rw [hf] at this; simp only [kC2, kU2] at this ⊢; rw [if_pos this.1]; exact wC_inv I hs he vs _ _ this.2
        | ex e r3 => rw [hf] at this; exact this.elim
        | bad => rw [hf] at this; exact this.elim
      · exact this.elim
      · exact this.elim
theorem wP_no {Q : PR → Prop} : wP pNo r Q = Q (.ok none r) := rfl
def kpInt (Q : PR → Prop) : ER → Prop
  | .ok _ (.int i) r' => Q (.ok (some i) r')
  | .ok _ _ _ => Q .bad
  | .ex e r' => Q (.ex e r')
  | .bad => Q .bad
theorem wP_int {Q : PR → Prop} : wP (pInt f) r Q = wE f r (kpInt Q) := by
  unfold wP wE pInt
  cases f r with
  | ok o v r' => cases v <;> rfl
  | _ => rfl
def ksl4 (lo hi : Option Int) (r : Env) (Q : ER → Prop) : Option Val → Prop
  | some v => kp2 Q r (Psl v lo hi)
  | none => Q .bad
def ksl3 (h : Hd) (lo : Option Int) (Q : ER → Prop) : PR → Prop
  | .ok hi r3 => ksl4 lo hi r3 Q (h.get r3)
  | .ex e r3 => Q (.ex e r3)
  | .bad => Q .bad
def ksl2 (h : Hd) (fu : PF) (Q : ER → Prop) : PR → Prop
  | .ok lo r2 => wP fu r2 (ksl3 h lo Q)
  | .ex e r2 => Q (.ex e r2)
  | .bad => Q .bad
def ksl1 (fl fu : PF) (Q : ER → Prop) : OR → Prop
  | .ok h r1 => wP fl r1 (ksl2 h fu Q)
  | .ex e r1 => Q (.ex e r1)
  | .bad => Q .bad
theorem wE_slc {fl fu : PF} {Q : ER → Prop} : wE (slc fo fl fu) r Q = wO fo r (ksl1 fl fu Q) := by
  unfold wE wO slc
  cases fo r with
  | ok h r1 =>
    simp only [ksl1, wP]
    cases fl r1 with
    | ok lo r2 =>
      simp only [ksl2, wP]
      cases fu r2 with
      | ok hi r3 =>
        simp only [ksl3]
        cases h.get r3 with
        | none => rfl
        | some v => simp only [ksl4]; rcases Psl v lo hi with _ | ⟨o, z⟩ <;> rfl
      | _ => rfl
    | _ => rfl
  | _ => rfl
def kch5 (r : Env) (Q : ER → Prop) : Option (Bool × Val) → Prop
  | some (false, .bl b) => Q (.ok false (.bl b) r)
  | _ => Q .bad
def kch4 (P' : List Val → Option (Bool × Val)) (r : Env) (Q : ER → Prop) : Option (List Val) → Prop
  | some us => kch5 r Q (P' us)
  | none => Q .bad
def kch3b (P' : List Val → Option (Bool × Val)) (h2 : Hd) (Q : ER → Prop) : OR → Prop
  | .ok h3 r3 => kch4 P' r3 Q (getAll r3 [h2, h3])
  | .ex e r3 => Q (.ex e r3)
  | .bad => Q .bad
def kch3 (P' : List Val → Option (Bool × Val)) (fc : OF) (h2 : Hd) (r : Env) (Q : ER → Prop) : Option (Bool × Val) → Prop
  | some (false, .bl true) => wO fc r (kch3b P' h2 Q)
  | some (false, .bl false) => Q (.ok false (.bl false) r)
  | _ => Q .bad
def kch2 (P P' : List Val → Option (Bool × Val)) (fc : OF) (h2 : Hd) (r : Env) (Q : ER → Prop) : Option (List Val) → Prop
  | some vs => kch3 P' fc h2 r Q (P vs)
  | none => Q .bad
def kch1 (P P' : List Val → Option (Bool × Val)) (fc : OF) (h1 : Hd) (Q : ER → Prop) : OR → Prop
  | .ok h2 r2 => kch2 P P' fc h2 r2 Q (getAll r2 [h1, h2])
  | .ex e r2 => Q (.ex e r2)
  | .bad => Q .bad
def kch0 (P P' : List Val → Option (Bool × Val)) (fb fc : OF) (Q : ER → Prop) : OR → Prop
  | .ok h1 r1 => wO fb r1 (kch1 P P' fc h1 Q)
  | .ex e r1 => Q (.ex e r1)
  | .bad => Q .bad
theorem wE_chn {P P' : List Val → Option (Bool × Val)} {fb fc : OF} {Q : ER → Prop} : wE (chn P P' fo fb fc) r Q = wO fo r (kch0 P P' fb fc Q) := by
  unfold wE wO chn
  cases fo r with
  | ok h1 r1 =>
    simp only [kch0, wO]
    cases fb r1 with
    | ok h2 r2 =>
      simp only [kch1]
      cases getAll r2 [h1, h2] with
      | none => rfl
      | some vs =>
        simp only [kch2]
        rcases P vs with _ | ⟨_ | _, z⟩
        · rfl
        · cases z with
          | bl b =>
            cases b with
            | false => rfl
            | true =>
              simp only [kch3, wO]
              cases fc r2 with
              | ok h3 r3 =>
                simp only [kch3b]
                cases getAll r3 [h2, h3] with
                | none => rfl
                | some us =>
                  simp only [kch4]
                  rcases P' us with _ | ⟨_ | _, z⟩
                  · rfl
                  · cases z <;> rfl
                  · rfl
              | _ => rfl
          | _ => rfl
        · rfl
    | _ => rfl
  | _ => rfl
def koTy2 (T : String) (h : Hd) (r : Env) (Q : OR → Prop) : Option Val → Prop
  | some v => (if tyOf v = some T then Q (.ok h r) else Q .bad)
  | none => Q .bad
def koTy (T : String) (Q : OR → Prop) : OR → Prop
  | .ok h r1 => koTy2 T h r1 Q (h.get r1)
  | .ex e r1 => Q (.ex e r1)
  | .bad => Q .bad
theorem wO_Ty {T : String} {Q : OR → Prop} : wO (oTy T fo) r Q = wO fo r (koTy T Q) := by
  unfold wO oTy
  cases fo r with
  | ok h r1 =>
    simp only [koTy]
    cases h.get r1 with
    | none => rfl
    | some v => simp only [koTy2]; split <;> rfl
  | _ => rfl
def kmu3 (i : Nat) (r : Env) (Q : ER → Prop) : Option (Val × Val) → Prop
  | some (v', z) => Q (.ok false z (r.set i (some (true, v'))))
  | none => Q .bad
def kmu2 (P : MutF) (i : Nat) (vs : List Val) (r : Env) (Q : ER → Prop) : Option Slot → Prop
  | some (some (true, v)) => kmu3 i r Q (P v vs)
  | _ => Q .bad
def kmu1 (P : MutF) (i : Nat) (Q : ER → Prop) : AR → Prop
  | .ok vs r1 => kmu2 P i vs r1 Q r1[i]?
  | .ex e r1 => Q (.ex e r1)
  | .bad => Q .bad
def kmu (T : String) (P : MutF) (i : Nat) (g : AF) (r : Env) (Q : ER → Prop) : Option Slot → Prop
  | some (some (true, v0)) => (if tyOf v0 = some T then wA g r (kmu1 P i Q) else Q .bad)
  | _ => Q .bad
theorem wE_mut {T : String} {P : MutF} {Q : ER → Prop} : wE (mutE T i P g) r Q = kmu T P i g r Q r[i]? := by
  unfold wE mutE
  rcases r[i]? with _ | _ | ⟨_ | _, v0⟩
  · rfl
  · rfl
  · rfl
  · simp only [kmu]
    split
    · unfold wA
      cases g r with
      | ok vs r1 =>
        simp only [kmu1]
        rcases r1[i]? with _ | _ | ⟨_ | _, v⟩
        · rfl
        · rfl
        · rfl
        · simp only [kmu2]; rcases P v vs with _ | ⟨v', z⟩ <;> rfl
      | _ => rfl
    · rfl
def ksx4 (i : Nat) (r : Env) (Q : SR → Prop) : Option Val → Prop
  | some d' => Q (.nx (r.set i (some (true, d'))))
  | none => Q .bad
def ksx3 (i : Nat) (k v : Val) (r : Env) (Q : SR → Prop) : Option Slot → Prop
  | some (some (true, d)) => ksx4 i r Q (putIx d k v)
  | _ => Q .bad
def ksx2 (i : Nat) (v : Val) (Q : SR → Prop) : ER → Prop
  | .ok _ k r2 => ksx3 i k v r2 Q r2[i]?
  | .ex e r2 => Q (.ex e r2)
  | .bad => Q .bad
def ksx1 (i : Nat) (fk : EF) (v : Val) (r : Env) (Q : SR → Prop) : Option Slot → Prop
  | some (some (true, _)) => wE fk r (ksx2 i v Q)
  | _ => Q .bad
def ksx (i : Nat) (fk : EF) (Q : SR → Prop) : ER → Prop
  | .ok _ v r1 => ksx1 i fk v r1 Q r1[i]?
  | .ex e r1 => Q (.ex e r1)
  | .bad => Q .bad
theorem wS_setIx {fk : EF} {Q : SR → Prop} : wS (setIx i fk f) r Q = wE f r (ksx i fk Q) := by
  unfold wS wE setIx frz
  cases f r with
  | ok o v r1 =>
    simp only [ksx]
    rcases r1[i]? with _ | _ | ⟨_ | _, d0⟩
    · rfl
    · rfl
    · rfl
    · simp only [ksx1, wE]
      cases fk r1 with
      | ok o k r2 =>
        simp only [ksx2]
        rcases r2[i]? with _ | _ | ⟨_ | _, d⟩
        · rfl
        · rfl
        · rfl
        · simp only [ksx3]; cases putIx d k v <;> rfl
      | _ => rfl
  | _ => rfl
theorem wE_dNew {bb : Bool} {Q : ER → Prop} : wE (dNew bb) r Q = Q (.ok true (.dct bb []) r) := rfl
theorem wD_nil {Q : DR → Prop} : wD [] r Q = Q (.ok [] r) := rfl
def kdp3 (k v : Val) (Q : DR → Prop) : DR → Prop
  | .ok kvs r3 => Q (.ok ((k, v) :: kvs) r3)
  | x => Q x
def kdp2 (l : List (EF × EF)) (k : Val) (Q : DR → Prop) : ER → Prop
  | .ok _ v r2 => wD l r2 (kdp3 k v Q)
  | .ex e r2 => Q (.ex e r2)
  | .bad => Q .bad
def kdp1 (fv : EF) (l : List (EF × EF)) (Q : DR → Prop) : ER → Prop
  | .ok _ k r1 => wE fv r1 (kdp2 l k Q)
  | .ex e r1 => Q (.ex e r1)
  | .bad => Q .bad
theorem wD_cons {fk fv : EF} {l : List (EF × EF)} {Q : DR → Prop} : wD ((fk, fv) :: l) r Q = wE fk r (kdp1 fv l Q) := by
  unfold wD wE
  rw [dspL]
  unfold frz
  cases fk r with
  | ok o k r1 =>
    simp only [kdp1, wE]
    cases fv r1 with
    | ok o v r2 =>
      simp only [kdp2, wD]
      cases dspL l r2 <;> rfl
    | _ => rfl
  | _ => rfl
def kds2 (r : Env) (Q : ER → Prop) : Option (List (Val × Val)) → Prop
  | some ds => Q (.ok true (.dct false ds) r)
  | none => Q .bad
def kds (Q : ER → Prop) : DR → Prop
  | .ok kvs r1 => (if kvs.length ≤ 15 then kds2 r1 Q (putAll [] kvs) else Q .bad)
  | .ex e r1 => Q (.ex e r1)
  | .bad => Q .bad
theorem wE_dsp {l : List (EF × EF)} {Q : ER → Prop} : wE (dsp l) r Q = wD l r (kds Q) := by
  unfold wE wD dsp
  cases dspL l r with
  | ok kvs r1 =>
    simp only [kds]
    split
    · cases putAll [] kvs <;> rfl
    · rfl
  | _ => rfl
def kls2 (r : Env) (Q : ER → Prop) : Option (List Str) → Prop
  | some ss => (if ss.length ≤ 1000 then Q (.ok false (.int (metS ss ss.length).length) r) else Q .bad)
  | none => Q .bad
def kls (Q : ER → Prop) : ER → Prop
  | .ok _ (.tup ds) r' => kls2 r' Q (asStrs ds)
  | .ok _ _ _ => Q .bad
  | .ex e r' => Q (.ex e r')
  | .bad => Q .bad
theorem wE_lenSet {Q : ER → Prop} : wE (lenSet f) r Q = wE f r (kls Q) := by
  unfold wE lenSet frz
  cases f r with
  | ok o v r' =>
    cases v with
    | tup ds =>
      simp only [kls]
      cases asStrs ds with
      | none => rfl
      | some ss => simp only [kls2]; split <;> rfl
    | _ => rfl
  | _ => rfl
def kas2 (i j : Nat) (Q : SR → Prop) : AR → Prop
  | .ok [v, u] r1 => Q (.nx ((r1.set i (some (false, v))).set j (some (false, u))))
  | .ok _ _ => Q .bad
  | .ex e r1 => Q (.ex e r1)
  | .bad => Q .bad
theorem wS_asg2 {Q : SR → Prop} : wS (asg2 i j g) r Q = wA g r (kas2 i j Q) := by
  unfold wS wA asg2
  rcases g r with ⟨_ | ⟨v, _ | ⟨u, _ | ⟨w, vs⟩⟩⟩, r1⟩ | _ | _ <;> rfl
def kasT2 (Q : SR → Prop) : Option Env → Prop
  | some r2 => Q (.nx r2)
  | none => Q .bad
def kasT (t : TF) (Q : SR → Prop) : ER → Prop
  | .ok _ v r1 => kasT2 Q (t v r1)
  | .ex e r1 => Q (.ex e r1)
  | .bad => Q .bad
theorem wS_asgT {Q : SR → Prop} : wS (asgT t f) r Q = wE f r (kasT t Q) := by
  unfold wS wE asgT frz
  cases f r with
  | ok o v r1 => simp only [kasT]; cases t v r1 <;> rfl
  | _ => rfl
def kapp2 (hs : List Hd) (Q : OsR → Prop) : OsR → Prop
  | .ok ks r2 => Q (.ok (hs ++ ks) r2)
  | .ex e r2 => Q (.ex e r2)
  | .bad => Q .bad
def kapp (fs' : OsF) (Q : OsR → Prop) : OsR → Prop
  | .ok hs r1 => wOs fs' r1 (kapp2 hs Q)
  | .ex e r1 => Q (.ex e r1)
  | .bad => Q .bad
theorem wOs_app {Q : OsR → Prop} : wOs (osApp fs fs') r Q = wOs fs r (kapp fs' Q) := by
  unfold wOs osApp
  cases fs r with
  | ok hs r1 => simp only [kapp, wOs]; cases fs' r1 <;> rfl
  | _ => rfl
def kN (n : Nat) (Q : OsR → Prop) : OsR → Prop
  | .ok hs r1 => (if hs.length = n then Q (.ok hs r1) else Q .bad)
  | .ex e r1 => Q (.ex e r1)
  | .bad => Q .bad
theorem wOs_N {Q : OsR → Prop} : wOs (osN n fs) r Q = wOs fs r (kN n Q) := by
  unfold wOs osN
  cases fs r with
  | ok hs r1 => simp only [kN]; split <;> rfl
  | _ => rfl
def kpick2 (r : Env) (Q : OsR → Prop) : Option (List Hd) → Prop
  | some ks => Q (.ok ks r)
  | none => Q .bad
def kpick (ix : List Nat) (Q : OsR → Prop) : OsR → Prop
  | .ok hs r1 => kpick2 r1 Q (pick ix hs)
  | .ex e r1 => Q (.ex e r1)
  | .bad => Q .bad
theorem wOs_pick {ix : List Nat} {Q : OsR → Prop} : wOs (osPick ix fs) r Q = wOs fs r (kpick ix Q) := by
  unfold wOs osPick
  cases fs r with
  | ok hs r1 => simp only [kpick]; cases pick ix hs <;> rfl
  | _ => rfl
end
/-- a comprehension whose turns leave the slots as they are -/
theorem wC_map {α : Type} {t : TF} {c : BF} {f : EF} {sl : List Nat} {env : Env} {Q : AR → Prop} (y z : α → Val) (p : α → Bool) (xs : List α)
    (h : ∀ x ∈ xs, ∃ r1, t (y x) env = some r1 ∧ wB c r1 (fun s => s = .ok (p x) r1) ∧ wipeR r1 sl = env ∧ (p x = true → wE f r1 fun s => ∃ o r3, s = .ok o (z x) r3 ∧ wipeR r3 sl = env)) (hl : xs.length ≤ 100000)
    (q : Q (.ok ((xs.filter p).map z) env)) : wC t c f sl (xs.map y) [] env Q := by
  have : ∀ (xs : List α) (acc : List Val), (∀ x ∈ xs, ∃ r1, t (y x) env = some r1 ∧ wB c r1 (fun s => s = .ok (p x) r1) ∧ wipeR r1 sl = env ∧ (p x = true → wE f r1 fun s => ∃ o r3, s = .ok o (z x) r3 ∧ wipeR r3 sl = env)) → acc.length + xs.length ≤ 100000 →
      lcL t c f sl (xs.map y) acc env = .ok (acc ++ (xs.filter p).map z) env := by
    intro xs
    induction xs with
    | nil => intro acc _ _; simp [lcL]
    | cons x xs ih =>
      intro acc h hl
      obtain ⟨r1, e1, e2, e3, e4⟩ := h x (by simp)
      unfold wB at e2
      rw [List.length_cons] at hl
      rw [List.map_cons, lcL]
      cases hp : p x with
      | false =>
        rw [hp] at e2
        simp only [e1, e2, e3]
        rw [ih acc (fun x' hx' => h x' (List.mem_cons_of_mem _ hx')) (by omega), List.filter_cons_of_neg (by simp [hp])]
      | true =>
        rw [hp] at e2
        obtain ⟨o, r3, e5, e6⟩ := e4 hp
        have ha : acc.length < 100000 := by omega
        simp only [e1, e2, frz, e5, e6, if_pos ha]
        rw [ih (acc ++ [z x]) (fun x' hx' => h x' (List.mem_cons_of_mem _ hx')) (by simp; omega), List.filter_cons_of_pos (by simp [hp])]
        simp
  unfold wC
  rw [this xs [] h (by simpa using hl)]
  simpa using q
def kN_e1 := @kN.eq_1
def kN_e2 := @kN.eq_2
def kN_e3 := @kN.eq_3
def kT_e1 := @kT.eq_1
def kT_e2 := @kT.eq_2
def kTurn_e1 := @kTurn.eq_1
def kTurn_e2 := @kTurn.eq_2
def kTurn_e3 := @kTurn.eq_3
def kTurn_e4 := @kTurn.eq_4
def kTurnW_e1 := @kTurnW.eq_1
def kTurnW_e2 := @kTurnW.eq_2
def kTurnW_e3 := @kTurnW.eq_3
def kTurnW_e4 := @kTurnW.eq_4
def kU0_e1 := @kU0.eq_1
def kU0_e2 := @kU0.eq_2
def kU1_e1 := @kU1.eq_1
def kU1_e2 := @kU1.eq_2
def kU1_e3 := @kU1.eq_3
def kU2_e1 := @kU2.eq_1
def kU2_e2 := @kU2.eq_2
def kac_e1 := @kac.eq_1
def kac_e2 := @kac.eq_2
def kac_e3 := @kac.eq_3
def kac2_e1 := @kac2.eq_1
def kac2_e2 := @kac2.eq_2
def kac2_e3 := @kac2.eq_3
def kand_e1 := @kand.eq_1
def kand_e2 := @kand.eq_2
def kandV_e1 := @kandV.eq_1
def kandV_e2 := @kandV.eq_2
def kandV_e3 := @kandV.eq_3
def kandV_e4 := @kandV.eq_4
def kapp_e1 := @kapp.eq_1
def kapp_e2 := @kapp.eq_2
def kapp_e3 := @kapp.eq_3
def kapp2_e1 := @kapp2.eq_1
def kapp2_e2 := @kapp2.eq_2
def kapp2_e3 := @kapp2.eq_3
def kas2_e1 := @kas2.eq_1
def kas2_e2 := @kas2.eq_2
def kas2_e3 := @kas2.eq_3
def kas2_e4 := @kas2.eq_4
def kasT_e1 := @kasT.eq_1
def kasT_e2 := @kasT.eq_2
def kasT_e3 := @kasT.eq_3
def kasT2_e1 := @kasT2.eq_1
def kasT2_e2 := @kasT2.eq_2
def kasg_e1 := @kasg.eq_1
def kasg_e2 := @kasg.eq_2
def kasg_e3 := @kasg.eq_3
def kaug_e1 := @kaug.eq_1
def kaug_e2 := @kaug.eq_2
def kaug2_e1 := @kaug2.eq_1
def kaug2_e2 := @kaug2.eq_2
def kaug2_e3 := @kaug2.eq_3
def kaug2_e4 := @kaug2.eq_4
def kback_e1 := @kback.eq_1
def kback_e2 := @kback.eq_2
def kback_e3 := @kback.eq_3
def kc1_e1 := @kc1.eq_1
def kc1_e2 := @kc1.eq_2
def kcall_e1 := @kcall.eq_1
def kcall_e2 := @kcall.eq_2
def kcall_e3 := @kcall.eq_3
def kch0_e1 := @kch0.eq_1
def kch0_e2 := @kch0.eq_2
def kch0_e3 := @kch0.eq_3
def kch1_e1 := @kch1.eq_1
def kch1_e2 := @kch1.eq_2
def kch1_e3 := @kch1.eq_3
def kch2_e1 := @kch2.eq_1
def kch2_e2 := @kch2.eq_2
def kch3_e1 := @kch3.eq_1
def kch3_e2 := @kch3.eq_2
def kch3_e3 := @kch3.eq_3
def kch3b_e1 := @kch3b.eq_1
def kch3b_e2 := @kch3b.eq_2
def kch3b_e3 := @kch3b.eq_3
def kch4_e1 := @kch4.eq_1
def kch4_e2 := @kch4.eq_2
def kch5_e1 := @kch5.eq_1
def kch5_e2 := @kch5.eq_2
def kcons_e1 := @kcons.eq_1
def kcons_e2 := @kcons.eq_2
def kcons_e3 := @kcons.eq_3
def kcons2_e1 := @kcons2.eq_1
def kcons2_e2 := @kcons2.eq_2
def kcons2_e3 := @kcons2.eq_3
def kd1_e1 := @kd1.eq_1
def kd1_e2 := @kd1.eq_2
def kd2_e1 := @kd2.eq_1
def kd2_e2 := @kd2.eq_2
def kd3_e1 := @kd3.eq_1
def kd3_e2 := @kd3.eq_2
def kdef_e1 := @kdef.eq_1
def kdef_e2 := @kdef.eq_2
def kdef_e3 := @kdef.eq_3
def kdef_e4 := @kdef.eq_4
def kdp1_e1 := @kdp1.eq_1
def kdp1_e2 := @kdp1.eq_2
def kdp1_e3 := @kdp1.eq_3
def kdp2_e1 := @kdp2.eq_1
def kdp2_e2 := @kdp2.eq_2
def kdp2_e3 := @kdp2.eq_3
def kdp3_e1 := @kdp3.eq_1
def kdp3_e2 := @kdp3.eq_2
def kdrop_e1 := @kdrop.eq_1
def kdrop_e2 := @kdrop.eq_2
def kdrop_e3 := @kdrop.eq_3
def kds_e1 := @kds.eq_1
def kds_e2 := @kds.eq_2
def kds_e3 := @kds.eq_3
def kds2_e1 := @kds2.eq_1
def kds2_e2 := @kds2.eq_2
def kfor_e1 := @kfor.eq_1
def kfor_e2 := @kfor.eq_2
def kfor_e3 := @kfor.eq_3
def kfrz_e1 := @kfrz.eq_1
def kfrz_e2 := @kfrz.eq_2
def kfrz_e3 := @kfrz.eq_3
def kif_e1 := @kif.eq_1
def kif_e2 := @kif.eq_2
def kif_e3 := @kif.eq_3
def kif_e4 := @kif.eq_4
def kitR_e1 := @kitR.eq_1
def kitR_e2 := @kitR.eq_2
def kitR_e3 := @kitR.eq_3
def kitV_e1 := @kitV.eq_1
def kitV_e2 := @kitV.eq_2
def kitV_e3 := @kitV.eq_3
def kitV1_e1 := @kitV1.eq_1
def kitV1_e2 := @kitV1.eq_2
def kite_e1 := @kite.eq_1
def kite_e2 := @kite.eq_2
def kite_e3 := @kite.eq_3
def kite_e4 := @kite.eq_4
def klc_e1 := @klc.eq_1
def klc_e2 := @klc.eq_2
def klc_e3 := @klc.eq_3
def klc2_e1 := @klc2.eq_1
def klc2_e2 := @klc2.eq_2
def kls_e1 := @kls.eq_1
def kls_e2 := @kls.eq_2
def kls_e3 := @kls.eq_3
def kls_e4 := @kls.eq_4
def kls2_e1 := @kls2.eq_1
def kls2_e2 := @kls2.eq_2
def klst_e1 := @klst.eq_1
def klst_e2 := @klst.eq_2
def klst_e3 := @klst.eq_3
def kmu_e1 := @kmu.eq_1
def kmu_e2 := @kmu.eq_2
def kmu1_e1 := @kmu1.eq_1
def kmu1_e2 := @kmu1.eq_2
def kmu1_e3 := @kmu1.eq_3
def kmu2_e1 := @kmu2.eq_1
def kmu2_e2 := @kmu2.eq_2
def kmu3_e1 := @kmu3.eq_1
def kmu3_e2 := @kmu3.eq_2
def kmv_e1 := @kmv.eq_1
def kmv_e2 := @kmv.eq_2
def knot_e1 := @knot.eq_1
def knot_e2 := @knot.eq_2
def knotV_e1 := @knotV.eq_1
def knotV_e2 := @knotV.eq_2
def knotV_e3 := @knotV.eq_3
def koS_e1 := @koS.eq_1
def koS_e2 := @koS.eq_2
def koTy_e1 := @koTy.eq_1
def koTy_e2 := @koTy.eq_2
def koTy_e3 := @koTy.eq_3
def koTy2_e1 := @koTy2.eq_1
def koTy2_e2 := @koTy2.eq_2
def koV_e1 := @koV.eq_1
def koV_e2 := @koV.eq_2
def koV_e3 := @koV.eq_3
def kor_e1 := @kor.eq_1
def kor_e2 := @kor.eq_2
def korV_e1 := @korV.eq_1
def korV_e2 := @korV.eq_2
def korV_e3 := @korV.eq_3
def korV_e4 := @korV.eq_4
def kp1_e1 := @kp1.eq_1
def kp1_e2 := @kp1.eq_2
def kp2_e1 := @kp2.eq_1
def kp2_e2 := @kp2.eq_2
def kpInt_e1 := @kpInt.eq_1
def kpInt_e2 := @kpInt.eq_2
def kpInt_e3 := @kpInt.eq_3
def kpInt_e4 := @kpInt.eq_4
def kpick_e1 := @kpick.eq_1
def kpick_e2 := @kpick.eq_2
def kpick_e3 := @kpick.eq_3
def kpick2_e1 := @kpick2.eq_1
def kpick2_e2 := @kpick2.eq_2
def kprim_e1 := @kprim.eq_1
def kprim_e2 := @kprim.eq_2
def kprim_e3 := @kprim.eq_3
def kret_e1 := @kret.eq_1
def kret_e2 := @kret.eq_2
def kret_e3 := @kret.eq_3
def kseq_e1 := @kseq.eq_1
def kseq_e2 := @kseq.eq_2
def ksl1_e1 := @ksl1.eq_1
def ksl1_e2 := @ksl1.eq_2
def ksl1_e3 := @ksl1.eq_3
def ksl2_e1 := @ksl2.eq_1
def ksl2_e2 := @ksl2.eq_2
def ksl2_e3 := @ksl2.eq_3
def ksl3_e1 := @ksl3.eq_1
def ksl3_e2 := @ksl3.eq_2
def ksl3_e3 := @ksl3.eq_3
def ksl4_e1 := @ksl4.eq_1
def ksl4_e2 := @ksl4.eq_2
def kstar_e1 := @kstar.eq_1
def kstar_e2 := @kstar.eq_2
def kstar_e3 := @kstar.eq_3
def kstar1_e1 := @kstar1.eq_1
def kstar1_e2 := @kstar1.eq_2
def kstar2_e1 := @kstar2.eq_1
def kstar2_e2 := @kstar2.eq_2
def kstar2_e3 := @kstar2.eq_3
def ksx_e1 := @ksx.eq_1
def ksx_e2 := @ksx.eq_2
def ksx_e3 := @ksx.eq_3
def ksx1_e1 := @ksx1.eq_1
def ksx1_e2 := @ksx1.eq_2
def ksx2_e1 := @ksx2.eq_1
def ksx2_e2 := @ksx2.eq_2
def ksx2_e3 := @ksx2.eq_3
def ksx3_e1 := @ksx3.eq_1
def ksx3_e2 := @ksx3.eq_2
def ksx4_e1 := @ksx4.eq_1
def ksx4_e2 := @ksx4.eq_2
def ktst_e1 := @ktst.eq_1
def ktst_e2 := @ktst.eq_2
def ktst_e3 := @ktst.eq_3
def ktst_e4 := @ktst.eq_4
def ktup_e1 := @ktup.eq_1
def ktup_e2 := @ktup.eq_2
def ktup_e3 := @ktup.eq_3
def kvar_e1 := @kvar.eq_1
def kvar_e2 := @kvar.eq_2
def kvar_e3 := @kvar.eq_3
end M
namespace M
open PySem L2

def mk (l : List Nat) : Str := ⟨l.toArray⟩
theorem mk_list (a : List Nat) : (mk a).cps.toList = a := by simp [mk]
theorem mk_eta (s : Str) : mk s.cps.toList = s := by
  show (⟨s.cps.toList.toArray⟩ : Str) = s
  simp
theorem mk_len (a : List Nat) : (mk a).length = a.length := by show a.toArray.size = _; simp
/-- a name of a row -/
def IsName (s : Str) : Prop := ∃ l : List Nat, s = mk l ∧ 1 ≤ l.length ∧ l.length ≤ 8 ∧ ∀ c ∈ l, 97 ≤ c ∧ c ≤ 122
def CpOk (s : Str) : Prop := ∀ c ∈ s.cps.toList, c < 0x110000
theorem IsName.cp {s : Str} (h : IsName s) : CpOk s := by
  obtain ⟨l, rfl, _, _, h⟩ := h
  intro c hc
  rw [mk_list] at hc
  have := h c hc
  omega
theorem IsName.len {s : Str} (h : IsName s) : 1 ≤ s.length ∧ s.length ≤ 8 := by
  obtain ⟨l, rfl, h1, h2, _⟩ := h
  rw [mk_len]; exact ⟨h1, h2⟩
def unstr : Val → Str
  | .str s => s
  | _ => ⟨#[]⟩
def nums (n : Nat) : List Val := (List.range n).map fun k => .int (k : Nat)
theorem upTo_nums (n : Nat) : M.upTo 0 n = nums n := by simp [M.upTo, nums]
theorem rng_nums (j : Int) (h : 0 ≤ j ∧ j < 1000000000) : rng1 [.int j] = some (nums j.toNat) := by
  simp only [rng1]
  rw [if_pos (small_ok h.1 (by omega)), upTo_nums]
theorem drop_step {α : Type} {l : List α} {k : Nat} {v : α} {vs : List α} (e : v :: vs = l.drop k) : ∃ h : k < l.length, v = l[k] ∧ vs = l.drop (k + 1) := by
  have h : k < l.length := by
    rcases Nat.lt_or_ge k l.length with z | z
    · exact z
    · rw [List.drop_eq_nil_of_le z] at e; cases e
  rw [List.drop_eq_getElem_cons h] at e
  cases e
  exact ⟨h, rfl, rfl⟩
theorem drop_end {α : Type} {l : List α} {k : Nat} (e : [] = l.drop k) (hk : k ≤ l.length) : k = l.length := by
  rcases Nat.lt_or_ge k l.length with z | z
  · rw [List.drop_eq_getElem_cons z] at e; cases e
  · omega
theorem nums_len (n : Nat) : (nums n).length = n := by simp [nums]
theorem nums_get {n k : Nat} (h : k < (nums n).length) : (nums n)[k] = .int (k : Nat) := by simp [nums]
theorem perm_erase {α : Type} : ∀ (l : List α) (n : Nat) (h : n < l.length), (l[n] :: l.eraseIdx n).Perm l
  | x :: l, 0, _ => by simp
  | x :: l, n + 1, h => by
    have := perm_erase l n (by simpa using h)
    simp only [List.getElem_cons_succ, List.eraseIdx_cons_succ]
    exact (List.Perm.swap _ _ _).trans (this.cons x)
theorem ixN_ok {n : Nat} {i : Int} (h0 : 0 ≤ i) (h1 : i < n) : ixN n i = some i.toNat := by
  unfold ixN
  rw [if_pos h0, if_pos h1]
theorem ixN_last {n : Nat} (h : 0 < n) : ixN n (-1) = some (n - 1) := by
  unfold ixN
  rw [if_neg (by decide), if_pos (by omega)]
  congr 1
  omega
theorem pix_lst {xs : List Val} {i : Int} (h0 : 0 ≤ i) (h1 : i.toNat < xs.length) : Pix [.lst xs, .int i] = some (false, xs[i.toNat]) := by
  simp only [Pix, atI, ixN_ok h0 (by omega : i < xs.length), Option.bind_some, List.getElem?_eq_getElem h1, Option.map_some]
theorem pix_strs {ss : List Str} {i : Int} (h0 : 0 ≤ i) (h1 : i.toNat < ss.length) : Pix [.lst (ss.map .str), .int i] = some (false, .str ss[i.toNat]) := by
  rw [pix_lst h0 (by simpa using h1)]; simp
theorem pix_last {xs : List Val} (h : 0 < xs.length) : Pix [.lst xs, .int (-1)] = some (false, xs[xs.length - 1]) := by
  simp only [Pix, atI, ixN_last h, Option.bind_some, List.getElem?_eq_getElem (by omega : xs.length - 1 < xs.length), Option.map_some]
theorem mapp {ds : List Val} {v : Val} (h : ds.length < 100000) : Mappend (.lst ds) [v] = some (.lst (ds ++ [v]), .non) := by
  simp only [Mappend]; rw [if_pos h]
def sd (ps : List (Str × Val)) : List (Val × Val) := ps.map fun p => (.str p.1, p.2)
theorem dGet_sd (k : Str) : ∀ ps : List (Str × Val), dGet (sd ps) (.inr k) = ps.lookup k
  | [] => rfl
  | p :: ps => by
    have ih := dGet_sd k ps
    unfold dGet at ih ⊢
    simp only [sd, List.map_cons, List.find?_cons, M.keyIs, List.lookup] at ih ⊢
    cases h : k == p.1 with
    | true => simp
    | false => simpa using ih
theorem sd_any (k : Str) (ps : List (Str × Val)) : ((sd ps).any fun p => M.keyIs (.inr k) p.1) = decide (k ∈ ps.map (·.1)) := by
  rw [Bool.eq_iff_iff]
  simp only [sd, List.any_map, List.any_eq_true, Function.comp, M.keyIs, beq_iff_eq, decide_eq_true_eq, List.mem_map]
  constructor
  · rintro ⟨p, hp, e⟩; exact ⟨p, hp, e.symm⟩
  · rintro ⟨p, hp, e⟩; exact ⟨p, hp, e.symm⟩
theorem dPut_new {k : Str} {v : Val} {ps : List (Str × Val)} (h : k ∉ ps.map (·.1)) : dPut (sd ps) (.inr k) v = sd (ps ++ [(k, v)]) := by
  unfold dPut
  rw [sd_any, decide_eq_false h]
  simp [sd, M.kv]
theorem sd_len (ps : List (Str × Val)) : (sd ps).length = ps.length := by simp [sd]
theorem putIx_new {k : Str} {v : Val} {ps : List (Str × Val)} (h : k ∉ ps.map (·.1)) (hl : ps.length < 100000) : putIx (.dct false (sd ps)) (.str k) v = some (.dct false (sd (ps ++ [(k, v)]))) := by
  simp only [putIx, M.keyOf, sd_len]
  rw [if_pos hl, dPut_new h]
theorem pix_sd (k : Str) (ps : List (Str × Val)) : Pix [.dct false (sd ps), .str k] = (ps.lookup k).map fun d => (false, d) := by
  simp only [Pix, M.keyOf, dGet_sd]
theorem lookup_mem {α : Type} {k : Str} {v : α} : ∀ {ps : List (Str × α)}, ps.lookup k = some v → (k, v) ∈ ps
  | [], h => by cases h
  | (a, b) :: ps, h => by
    rw [List.lookup_cons] at h
    cases e : k == a with
    | true => rw [e] at h; cases h; rw [beq_iff_eq.mp e]; exact List.mem_cons_self
    | false => rw [e] at h; exact List.mem_cons_of_mem _ (lookup_mem h)
theorem lookup_some {α : Type} {k : Str} : ∀ {ps : List (Str × α)}, k ∈ ps.map (·.1) → ∃ v, ps.lookup k = some v
  | [], h => by cases h
  | (a, b) :: ps, h => by
    rw [List.lookup_cons]
    cases e : k == a with
    | true => exact ⟨b, rfl⟩
    | false =>
      refine lookup_some ?_
      rw [List.map_cons] at h
      rcases List.mem_cons.mp h with z | z
      · subst z; simp at e
      · exact z
theorem lookup_none {α : Type} {k : Str} : ∀ {ps : List (Str × α)}, k ∉ ps.map (·.1) → ps.lookup k = none
  | [], _ => rfl
  | (a, b) :: ps, h => by
    rw [List.lookup_cons]
    simp only [List.map_cons, List.mem_cons, not_or] at h
    rw [show (k == a) = false from beq_eq_false_iff_ne.mpr h.1]
    exact lookup_none h.2
theorem lookup_isSome {α : Type} (k : Str) (ps : List (Str × α)) : (ps.lookup k).isSome = decide (k ∈ ps.map (·.1)) := by
  by_cases h : k ∈ ps.map (·.1)
  · obtain ⟨v, e⟩ := lookup_some h
    rw [e, decide_eq_true h]; rfl
  · rw [lookup_none h, decide_eq_false h]; rfl
theorem pin_sd (k : Str) (ps : List (Str × Val)) : PinX [.str k, .dct false (sd ps)] = some (false, .bl (decide (k ∈ ps.map (·.1)))) := by
  simp only [PinX, orP, PinD, M.keyOf, dGet_sd, lookup_isSome]
theorem pnotin_sd (k : Str) (ps : List (Str × Val)) : PnotInX [.str k, .dct false (sd ps)] = some (false, .bl (!decide (k ∈ ps.map (·.1)))) := by
  simp only [PnotInX, orP, PnotInD, M.keyOf, dGet_sd, lookup_isSome]
theorem eqv_str (a b : Str) : PyData.eqv (.str a) (.str b) = (a == b) := by simp [PyData.eqv]
theorem any_strs (x : Str) (ss : List Str) : ((ss.map PyData.str).any fun z => PyData.eqv z (.str x)) = decide (x ∈ ss) := by
  rw [Bool.eq_iff_iff]
  simp only [List.any_map, List.any_eq_true, Function.comp, eqv_str, beq_iff_eq, decide_eq_true_eq]
  constructor
  · rintro ⟨p, hp, e⟩; rw [← e]; exact hp
  · intro h; exact ⟨x, h, rfl⟩
theorem shp_str {s : Str} (h : CpOk s) : shp (.str s) = true := by
  have hs : PyData.strOk s = true := by
    unfold PyData.strOk
    rw [Array.all_eq_true_iff_forall_mem]
    intro c hc
    exact decide_eq_true (h c (by simpa using hc))
  show SeqAt.shaped _ = true
  simp [SeqAt.shaped, PyData.canLay0, PyData.depth, hs]
theorem pin_tup (x : Str) (ss : List Str) : PinX [.str x, .tup (ss.map .str)] = some (false, .bl (decide (x ∈ ss))) := by
  have h1 : (ss.map PyData.str).all flatD = true := by simp [flatD]
  simp only [PinX, orP, PinD, Pin, inOf, inTup, toD, toDs_strs, flatD, h1, and_self, if_true, Option.map_some, any_strs]
theorem pnotin_tup (x : Str) (ss : List Str) : PnotInX [.str x, .tup (ss.map .str)] = some (false, .bl (!decide (x ∈ ss))) := by
  have h1 : (ss.map PyData.str).all flatD = true := by simp [flatD]
  simp only [PnotInX, orP, PnotInD, PnotIn, inOf, inTup, toD, toDs_strs, flatD, h1, and_self, if_true, Option.map_some, any_strs]
theorem pin_lst (x : Str) (ss : List Str) (hx : CpOk x) (h : ∀ s ∈ ss, CpOk s) : PinX [.str x, .lst (ss.map .str)] = some (false, .bl (decide (x ∈ ss))) := by
  simp only [PinX, orP, PinD, Pin, inOf, toD, toDs_strs, shp_str hx, shp_strs ss h, and_self, if_true, any_strs]
theorem pnotin_lst (x : Str) (ss : List Str) (hx : CpOk x) (h : ∀ s ∈ ss, CpOk s) : PnotInX [.str x, .lst (ss.map .str)] = some (false, .bl (!decide (x ∈ ss))) := by
  simp only [PnotInX, orP, PnotInD, PnotIn, inOf, toD, toDs_strs, shp_str hx, shp_strs ss h, and_self, if_true, any_strs]
theorem peqI (i j : Int) : PeqX [.int i, .int j] = some (false, .bl (decide (i = j))) := by
  simp only [PeqX, orP, PeqS]
  congr 2
theorem peqT (i j : Str) : PeqX [.str i, .str j] = some (false, .bl (decide (i = j))) := by
  simp only [PeqX, orP, PeqS]
  congr 2
theorem pneT (i j : Str) : PneX [.str i, .str j] = some (false, .bl (!decide (i = j))) := by
  simp only [PneX, orP, PneS]
  congr 2
theorem pneI (i j : Int) : PneX [.int i, .int j] = some (false, .bl (!decide (i = j))) := by
  simp only [PneX, orP, PneS]
  congr 2
theorem asStrs_map (ss : List Str) : asStrs (ss.map Val.str) = some ss := by
  induction ss with
  | nil => rfl
  | cons s ss ih => simp [asStrs, ih]
abbrev tyNs : List String := ["NoneType", "bool", "int", "str", "tuple", "list", "dict"]
abbrev tyTs : List String := ["str", "tuple", "list", "dict", "int", "bool"]
theorem kit_tab : ∀ a ∈ tyNs, ∀ T ∈ tyTs, kitB a T = some (a == T || (a == "bool" && T == "int")) := by decide +kernel
def isI (T : String) (v : Val) : Bool := match tyOf v with
  | some a => a == T || (a == "bool" && T == "int")
  | none => false
theorem tyOf_mem {v : Val} {a : String} (h : tyOf v = some a) : a ∈ tyNs := by
  cases v <;> simp only [tyOf, Option.some.injEq, reduceCtorEq] at h <;> subst h <;> simp
theorem pisi_ok {v : Val} {T : String} (hv : (tyOf v).isSome = true) (hT : T ∈ tyTs) : Pisi [v, .ty T] = some (false, .bl (isI T v)) := by
  cases h : tyOf v with
  | none => rw [h] at hv; cases hv
  | some a => simp only [Pisi, isI, h, kit_tab a (tyOf_mem h) T hT, Option.map_some]
theorem isi_tt (xs : List Val) : Pisi [.tup xs, .ty "tuple"] = some (false, .bl true) := pisi_ok rfl (by simp)
theorem isi_ss (s : Str) : Pisi [.str s, .ty "str"] = some (false, .bl true) := pisi_ok rfl (by simp)
theorem cut_to {α : Type} (xs : List α) (n : Nat) : cutA xs none (some (n : Int)) = xs.take n := by
  unfold cutA
  have h1 : HT.sIx xs.length 0 none = 0 := rfl
  have h2 : HT.sIx xs.length xs.length (some (n : Int)) = min n xs.length := by
    show min ((n : Int)).toNat xs.length = _
    simp
  rw [h1, h2]
  simp only [Nat.sub_zero, List.drop_zero]
  rcases Nat.le_total n xs.length with h | h
  · rw [Nat.min_eq_left h]
  · rw [Nat.min_eq_right h, List.take_of_length_le h, List.take_of_length_le (Nat.le_refl _)]
theorem cut_from {α : Type} (xs : List α) (n : Nat) : cutA xs (some (n : Int)) none = xs.drop n := by
  unfold cutA
  have h1 : HT.sIx xs.length 0 (some (n : Int)) = min n xs.length := by
    show min ((n : Int)).toNat xs.length = _
    simp
  have h2 : HT.sIx xs.length xs.length none = xs.length := rfl
  rw [h1, h2]
  rcases Nat.le_total n xs.length with h | h
  · rw [Nat.min_eq_left h, List.take_of_length_le (by simp)]
  · rw [Nat.min_eq_right h, List.drop_of_length_le h]; simp
theorem wC_mapV {t : TF} {c : BF} {f : EF} {sl : List Nat} {env : Env} {Q : AR → Prop} (z : Val → Val) (p : Val → Bool) (xs : List Val)
    (h : ∀ x ∈ xs, ∃ r1, t x env = some r1 ∧ wB c r1 (fun s => s = .ok (p x) r1) ∧ wipeR r1 sl = env ∧ (p x = true → wE f r1 fun s => ∃ o r3, s = .ok o (z x) r3 ∧ wipeR r3 sl = env)) (hl : xs.length ≤ 100000)
    (q : Q (.ok ((xs.filter p).map z) env)) : wC t c f sl xs [] env Q := by
  have := wC_map (t := t) (c := c) (f := f) (sl := sl) (env := env) (Q := Q) (fun x => x) z p xs h hl q
  rwa [List.map_id'] at this
theorem filter_yes {α : Type} (xs : List α) : xs.filter (fun _ => true) = xs := List.filter_eq_self.mpr (by simp)
theorem pall_map {α : Type} (f : α → Bool) (xs : List α) : Pall [.lst (xs.map fun x => .bl (f x))] = some (false, .bl (xs.all f)) := by
  have : asBls (xs.map fun x => Val.bl (f x)) = some (xs.map f) := by
    have := asBls_comp f xs
    simpa [Function.comp_def] using this
  simp only [Pall, this, Option.map_some]
  congr 3
  rw [List.all_map]; rfl
theorem pany_map {α : Type} (f : α → Bool) (xs : List α) : Pany [.lst (xs.map fun x => .bl (f x))] = some (false, .bl (xs.any f)) := by
  have : asBls (xs.map fun x => Val.bl (f x)) = some (xs.map f) := by
    have := asBls_comp f xs
    simpa [Function.comp_def] using this
  simp only [Pany, this, Option.map_some]
  congr 3
  rw [List.any_map]; rfl
theorem metS_mem {ss : List Str} : ∀ {i : Nat}, i ≤ ss.length → ∀ k, k ∈ metS ss i ↔ k ∈ ss.take i
  | 0, _, k => by simp [metS]
  | i + 1, h, k => by
    have hi : i < ss.length := h
    have ih := metS_mem (ss := ss) (i := i) (by omega)
    rw [metS, List.getElem?_eq_getElem hi, List.take_succ_eq_append_getElem hi]
    simp only
    split
    · rename_i hx
      rw [ih k]
      simp only [List.mem_append, List.mem_singleton]
      constructor
      · exact .inl
      · rintro (z | z)
        · exact z
        · obtain ⟨y, hy, e⟩ := List.any_eq_true.mp hx
          rw [z, ← beq_iff_eq.mp e]; exact (ih y).mp hy
    · simp only [List.mem_append, ih k]
theorem metS_nodup {ss : List Str} : ∀ {i : Nat}, i ≤ ss.length → (metS ss i).length ≤ i ∧ ((metS ss i).length = i ↔ (ss.take i).Nodup)
  | 0, _ => by simp [metS]
  | i + 1, h => by
    have hi : i < ss.length := h
    have ih := metS_nodup (ss := ss) (i := i) (by omega)
    have mm := metS_mem (ss := ss) (i := i) (by omega)
    rw [metS, List.getElem?_eq_getElem hi, List.take_succ_eq_append_getElem hi]
    have nd : (ss.take i ++ [ss[i]]).Nodup ↔ (ss.take i).Nodup ∧ ss[i] ∉ ss.take i := by
      rw [List.nodup_append]
      constructor
      · rintro ⟨h1, _, h3⟩; exact ⟨h1, fun z => h3 _ z _ (by simp) rfl⟩
      · rintro ⟨h1, h2⟩; exact ⟨h1, by simp, fun a ha b hb e => h2 (by rw [List.mem_singleton.mp hb] at e; rw [← e]; exact ha)⟩
    rw [nd]
    simp only
    split
    · rename_i hx
      obtain ⟨y, hy, e⟩ := List.any_eq_true.mp hx
      rw [beq_iff_eq.mp e] at hy
      refine ⟨by omega, ⟨fun z => by omega, fun z => absurd ((mm _).mp hy) z.2⟩⟩
    · rename_i hx
      simp only [List.length_append, List.length_singleton]
      refine ⟨by omega, ?_⟩
      rw [Nat.add_right_cancel_iff, ih.2]
      constructor
      · intro z; exact ⟨z, fun y => hx (List.any_eq_true.mpr ⟨_, (mm _).mpr y, by simp⟩)⟩
      · exact fun z => z.1
theorem set_eq (ss : List Str) : decide (((metS ss ss.length).length : Int) = (ss.length : Int)) = decide ss.Nodup := by
  have := metS_nodup (ss := ss) (Nat.le_refl _)
  rw [List.take_length] at this
  by_cases h : ss.Nodup
  · have e := this.2.mpr h
    rw [decide_eq_true h, e]; simp
  · have e : (metS ss ss.length).length ≠ ss.length := fun z => h (this.2.mp z)
    rw [decide_eq_false h]; simp; omega
theorem shp_tup (ss : List Str) (h : ∀ s ∈ ss, CpOk s) : shp (.tuple (ss.map .str)) = true := by
  have := shp_strs ss h
  revert this
  show SeqAt.shaped _ = true → SeqAt.shaped _ = true
  unfold SeqAt.shaped
  simp only [PyData.canLay0, PyData.depth]
  exact id
theorem peq_tnil (ss : List Str) (h : ∀ s ∈ ss, CpOk s) : PeqX [.tup (ss.map .str), .tup []] = some (false, .bl (decide (ss = []))) := by
  have h1 := shp_tup ss h
  have h2 := shp_tup [] (by simp)
  simp only [List.map_nil] at h2
  cases ss with
  | nil => simp [PeqX, orP, PeqS, Peq, toD, toDs, h2, PyData.eqv, PyData.eqvAll]
  | cons c cs =>
    simp only [List.map_cons] at h1
    simp [PeqX, orP, PeqS, Peq, toD, toDs, toDs_strs, h1, h2, PyData.eqv, PyData.eqvAll]
theorem findIdx_strs {x : Str} {ss : List Str} (h : x ∈ ss) : ∃ j, j < ss.length ∧ ss[j]? = some x ∧ (∀ i < j, ss[i]? ≠ some x) ∧ (ss.map PyData.str).findIdx? (fun z => PyData.eqv z (.str x)) = some j := by
  induction ss with
  | nil => cases h
  | cons s ss ih =>
    by_cases e : s = x
    · subst e
      exact ⟨0, by simp, rfl, by simp, by simp [List.findIdx?_cons, eqv_str]⟩
    · have : x ∈ ss := (List.mem_cons.mp h).resolve_left fun z => e z.symm
      obtain ⟨j, hj, h1, h2, h3⟩ := ih this
      refine ⟨j + 1, by simpa using hj, by simpa using h1, fun i hi => ?_, ?_⟩
      · cases i with
        | zero => simpa using e
        | succ i => simpa using h2 i (by omega)
      · rw [List.map_cons, List.findIdx?_cons, eqv_str, h3]
        simp [e]
theorem pindex_strs {x : Str} {ss : List Str} (h : x ∈ ss) (hx : CpOk x) (hc : ∀ s ∈ ss, CpOk s) : ∃ j : Nat, j < ss.length ∧ ss[j]? = some x ∧ (∀ i < j, ss[i]? ≠ some x) ∧ Pindex [.lst (ss.map .str), .str x] = some (false, .int (j : Nat)) := by
  obtain ⟨j, hj, h1, h2, h3⟩ := findIdx_strs h
  refine ⟨j, hj, h1, h2, ?_⟩
  simp only [Pindex, toDs_strs, toD]
  rw [if_pos ⟨shp_strs ss hc, shp_str hx⟩, h3]; rfl
theorem cut_toI {α : Type} (xs : List α) {d : Int} (h : 0 ≤ d) : cutA xs none (some d) = xs.take d.toNat := by
  obtain ⟨k, rfl⟩ := Int.eq_ofNat_of_zero_le h
  exact cut_to xs k
end M
namespace M
open PySem L2

mutual
/-- no less than the signs of a repr -/
def rsz : PyData → Nat
  | .none => 4
  | .bool _ => 5
  | .int i => (PySem.Str.ofString (toString i)).length
  | .str s => 10 * s.length + 2
  | .list xs => rszs xs + 2
  | .tuple xs => rszs xs + 3
  | .dict kvs => rszk kvs + 2
def rszs : List PyData → Nat
  | [] => 0
  | x :: xs => rsz x + 2 + rszs xs
def rszk : List (PyData × PyData) → Nat
  | [] => 0
  | (k, v) :: r => rsz k + rsz v + 4 + rszk r
end
mutual
/-- texts of Unicode signs alone -/
def txOk : PyData → Bool
  | .str s => PyData.strOk s
  | .list xs => txOks xs
  | .tuple xs => txOks xs
  | .dict kvs => txOkk kvs
  | _ => true
def txOks : List PyData → Bool
  | [] => true
  | x :: xs => txOk x && txOks xs
def txOkk : List (PyData × PyData) → Bool
  | [] => true
  | (k, v) :: r => txOk k && txOk v && txOkk r
end
theorem strOk_iff {s : Str} : PyData.strOk s = true ↔ CpOk s := by
  unfold PyData.strOk CpOk
  rw [Array.all_eq_true_iff_forall_mem]
  constructor
  · intro h c hc; exact of_decide_eq_true (h c (by simpa using hc))
  · intro h c hc; exact decide_eq_true (h c (by simpa using hc))
theorem join_le : ∀ ts : List Str, (Str.join ", " ts).length ≤ piled ts
  | [] => by show (0 : Nat) ≤ _; omega
  | t :: ts => by have := join_length_add (t :: ts) (by simp); omega
theorem textFrom_le : ∀ (ts : List Str) (k : Nat) (acc : Str), (textFrom k acc ts).length ≤ acc.length + piled ts := by
  intro ts
  induction ts with
  | nil => intro k acc; simp [textFrom, piled]
  | cons t ts ih =>
    intro k acc
    rw [textFrom, piled_cons]
    refine Nat.le_trans (ih _ _) ?_
    have e2 : ((", " : String) : Str).length = 2 := rfl
    have e3 : (("" : String) : Str).length = 0 := rfl
    split <;> simp only [strLen_append, e2, e3] <;> omega
mutual
theorem shown_le : ∀ d : PyData, txOk d = true → d.shown.length ≤ rsz d
  | .none, _ => by rw [PyData.shown, rsz]; decide
  | .bool b, _ => by rw [PyData.shown, rsz]; cases b <;> decide
  | .int i, _ => by rw [PyData.shown, rsz]; exact Nat.le_refl _
  | .str s, h => by
    rw [PyData.shown, rsz]
    rw [txOk, strOk_iff] at h
    exact PySem.StrLaws.reprText_len s fun c hc => Nat.lt_trans (h c hc) (by decide)
  | .list xs, h => by
    rw [PyData.shown, rsz]
    rw [txOk] at h
    have := shownAll_le xs h
    unfold listText
    rw [strLen_append]
    have := textFrom_le (PyData.shownAll xs) 0 "["
    have e1 : (("[" : String) : Str).length = 1 := rfl
    have e2 : (("]" : String) : Str).length = 1 := rfl
    omega
  | .tuple xs, h => by
    rw [PyData.shown, rsz]
    rw [txOk] at h
    have := shownAll_le xs h
    unfold tupleText
    rw [strLen_append, strLen_append]
    have := join_le (PyData.shownAll xs)
    have e1 : (("(" : String) : Str).length = 1 := rfl
    have e3 : (((if (PyData.shownAll xs).length == 1 then ",)" else ")" : String) : Str)).length ≤ 2 := by split <;> decide
    omega
  | .dict kvs, h => by
    rw [PyData.shown, rsz]
    rw [txOk] at h
    have := shownKv_le kvs h
    unfold dictText
    rw [strLen_append, strLen_append]
    have := join_le (PyData.shownKv kvs)
    have e1 : (("{" : String) : Str).length = 1 := rfl
    have e2 : (("}" : String) : Str).length = 1 := rfl
    omega
theorem shownAll_le : ∀ xs : List PyData, txOks xs = true → piled (PyData.shownAll xs) ≤ rszs xs
  | [], _ => by rw [PyData.shownAll, rszs]; exact Nat.le_refl _
  | x :: xs, h => by
    rw [PyData.shownAll, rszs, piled_cons]
    rw [txOks, Bool.and_eq_true] at h
    have := shown_le x h.1
    have := shownAll_le xs h.2
    omega
theorem shownKv_le : ∀ kvs : List (PyData × PyData), txOkk kvs = true → piled (PyData.shownKv kvs) ≤ rszk kvs
  | [], _ => by rw [PyData.shownKv, rszk]; exact Nat.le_refl _
  | (k, v) :: r, h => by
    rw [PyData.shownKv, rszk, piled_cons]
    rw [txOkk, Bool.and_eq_true, Bool.and_eq_true] at h
    have := shown_le k h.1.1
    have := shown_le v h.1.2
    have := shownKv_le r h.2
    have e2 : ((": " : String) : Str).length = 2 := rfl
    rw [strLen_append, strLen_append, e2]
    omega
end
theorem int_rsz {i : Int} (h : i.natAbs < 10 ^ 20) : rsz (.int i) ≤ 21 := by
  rw [rsz]
  have := int_text_length_le10 (a := i) (k := 20) (by decide) h
  rw [ofString_length]; exact this
end M
namespace M
open PySem L2

section
variable {w : Wd} {G H : Hp} {x : V} {c : Str} {fs : List (Str × Val)}
theorem repF_nil {xs : List (Str × V)} : RepF w G [] xs ↔ xs = [] := by rw [RepF]
theorem repF_cons {k : Str} {d : Val} {ds : List (Str × Val)} {xs : List (Str × V)} : RepF w G ((k, d) :: ds) xs ↔ ∃ y ys, xs = (k, y) :: ys ∧ Rep w G d y ∧ RepF w G ds ys := by rw [RepF]
theorem repF_len : ∀ {ds : List (Str × Val)} {xs : List (Str × V)}, RepF w G ds xs → xs.length = ds.length
  | [], xs, h => by rw [repF_nil.mp h]; rfl
  | (k, d) :: ds, xs, h => by
    obtain ⟨y, ys, e, _, h2⟩ := repF_cons.mp h
    subst e
    simp [repF_len h2]
theorem repF_some {f : Str} {v : Val} : ∀ {ds : List (Str × Val)} {xs : List (Str × V)}, RepF w G ds xs → ds.lookup f = some v → ∃ y, xs.lookup f = some y ∧ Rep w G v y
  | [], _, _, e => by cases e
  | (k, d) :: ds, xs, h, e => by
    obtain ⟨y, ys, rfl, h1, h2⟩ := repF_cons.mp h
    rw [List.lookup_cons] at e ⊢
    cases q : f == k with
    | true => rw [q] at e; cases e; exact ⟨y, rfl, h1⟩
    | false => rw [q] at e; exact repF_some h2 e
theorem repF_none {f : Str} : ∀ {ds : List (Str × Val)} {xs : List (Str × V)}, RepF w G ds xs → ds.lookup f = none → xs.lookup f = none
  | [], xs, h, _ => by rw [repF_nil.mp h]; rfl
  | (k, d) :: ds, xs, h, e => by
    obtain ⟨y, ys, rfl, h1, h2⟩ := repF_cons.mp h
    rw [List.lookup_cons] at e ⊢
    cases q : f == k with
    | true => rw [q] at e; cases e
    | false => rw [q] at e; exact repF_none h2 e
/-- a field stored -/
def putV (f : Str) (v : Val) : List (Str × Val) → List (Str × Val)
  | [] => [(f, v)]
  | (g, x) :: r => if g = f then (g, v) :: r else (g, x) :: putV f v r
theorem repF_put {f : Str} {v : Val} {y : V} (r : Rep w G v y) : ∀ {ds : List (Str × Val)} {xs : List (Str × V)}, RepF w G ds xs → RepF w G (putV f v ds) (putF f y xs)
  | [], xs, h => by rw [repF_nil.mp h]; exact repF_cons.mpr ⟨y, [], rfl, r, repF_nil.mpr rfl⟩
  | (k, d) :: ds, xs, h => by
    obtain ⟨z, ys, rfl, h1, h2⟩ := repF_cons.mp h
    rw [putV, putF]
    by_cases e : k = f
    · rw [if_pos e, if_pos e]; exact repF_cons.mpr ⟨y, ys, rfl, r, h2⟩
    · rw [if_neg e, if_neg e]; exact repF_cons.mpr ⟨z, _, rfl, h1, repF_put r h2⟩
theorem rrep_obj (le : Le G H) : RRep w G H (.obj c fs) x → ∃ a C dx xs, x = .ref a ∧ H a = some (.ins C dx xs) ∧ w.CM c = some C ∧ RepF w G fs xs := fun h => by
  rcases h with h | ⟨a, e, r⟩
  · rw [Rep] at h
    obtain ⟨a, C, dx, xs, e, q, m, r⟩ := h
    exact ⟨a, C, dx, xs, e, le _ _ q, m, r⟩
  · obtain ⟨C, dx, xs, q, m, r⟩ := r
    exact ⟨a, C, dx, xs, e, q, m, r⟩
end
theorem tO_mono {A : Act} {W : WX} {f : OF} {σ : L2.St} {H : Hp} {Q Q' : V → Hp → Prop} (h : tO A W f σ H Q) (hi : ∀ x H1, Q x H1 → Q' x H1) : tO A W f σ H Q' := by
  obtain ⟨r, G, k, m⟩ := h
  refine ⟨r, G, k, ?_⟩
  cases hf : f r with
  | bad => rw [hf] at m; exact m.elim
  | ex e r' => rw [hf] at m; exact m
  | ok h r1 => rw [hf] at m; exact fun x G1 H1 k1 st t => hi _ _ (m x G1 H1 k1 st t)

/-- instances of these classes have f as a plain attribute -/
def FldOk (w : Wd) (cs : List Str) (f : Str) : Prop := ∀ c ∈ cs, ∃ C, w.CM c = some C ∧ Cls w.K C ∧ NoAttr w.K C f
def Pfld (cs : List Str) (f : Str) : List Val → Option (Bool × Val)
  | [.obj c fs] => if c ∈ cs then (fs.lookup f).map fun v => (false, v) else none
  | _ => none
theorem fld_of {w : Wd} {cs : List Str} {f : Str} {x : V} {H : Hp} {Q : VK} (hf : FldOk w cs f) (h : rOf w (Pfld cs f) [x] H Q) : ∃ a C dx fs v, x = .ref a ∧ H a = some (.ins C dx fs) ∧ Cls w.K C ∧ NoAttr w.K C f ∧ fs.lookup f = some v ∧ Q v H := by
  obtain ⟨G, vs, o, z, le, rr, hp, q⟩ := h
  unfold Pfld at hp
  split at hp
  · rename_i c fs
    split at hp
    · rename_i hc
      rw [Option.map_eq_some_iff] at hp
      obtain ⟨v, e, e2⟩ := hp
      cases e2
      obtain ⟨y, ey, r1⟩ := rreps_one rr
      cases ey
      obtain ⟨a, C, dx, xs, rfl, ha, hm, rf⟩ := rrep_obj le r1
      obtain ⟨y, ly, ry⟩ := repF_some rf e
      obtain ⟨C', hm', hcl, hna⟩ := hf c hc
      rw [hm] at hm'
      cases hm'
      exact ⟨a, C, dx, xs, y, rfl, ha, hcl, hna, ly, q y G H (Grow.refl le) (nrep_f ry)⟩
    · cases hp
  · cases hp
section
variable {X : Cx} {A : Act} {W : WX} {e o ve : Expr} {f : Str} {pos pos' : Pos} {fo : OF} {fe : EF} {cs : List Str} {i : Nat}
theorem pe_fldM (c : Cal X A.w) (hf : FldOk A.w cs f) (he : PE X e (tO A W fo)) (hb : attributeBase e f X.env (eval e X.env) = eval e X.env := by rfl) : PE X (.Attribute e f pos) (tE A W (prim (Pfld cs f) (osCons fo osNil))) :=
  PE.imp (pe_fld he hb) fun σ H Q q => tO_mono (prim_os1 q) fun x H1 h => by
    obtain ⟨a, C, dx, fs, v, h1, h2, h3, h4, h5, h6⟩ := fld_of hf h
    rw [c.K] at h3 h4
    exact ⟨a, C, dx, fs, v, h1, h2, h3, h4, h5, h6⟩
def setFld (cs : List Str) (i : Nat) (f : Str) (fe : EF) : SF := fun r => match frz fe r with
  | .ok _ v r1 => match r1[i]? with
    | some (some (true, .obj c fs)) => if c ∈ cs ∧ fs.length < 1000 then .nx (r1.set i (some (true, .obj c (putV f v fs)))) else .bad
    | _ => .bad
  | .ex e r1 => .ex e r1
  | .bad => .bad
theorem ps_setFld (c : Cal X A.w) (hf : FldOk A.w cs f) (ho : PE X o (tVar i)) (he : PE X ve (tE A W fe)) (hs : swapsWith ve (some (.Attribute o f pos')) pos.line X.env = pure false := by rfl) :
    PS X (.Assign [.Attribute o f pos'] ve pos) (tSt A W (setFld cs i f fe)) := by
  refine PS.imp (ps_fld ho (pe_frz he) hs) fun D σ H h => ?_
  obtain ⟨r, G, k, m⟩ := tSt_iff.mp h
  refine ⟨r, G, k, ?_⟩
  unfold setFld at m
  cases hf' : frz fe r with
  | bad => rw [hf'] at m; exact m.elim
  | ex e r' => rw [hf'] at m; exact m σ
  | ok o0 v r1 =>
    have eo := frz_false hf'
    subst eo
    simp only [hf'] at m ⊢
    intro x G1 H1 R1
    have k1 := R1.ok
    rcases q1 : r1[i]? with _ | _ | ⟨_ | _, d0⟩
    · simp only [q1] at m; exact m.elim
    · simp only [q1] at m; exact m.elim
    · simp only [q1] at m; exact m.elim
    · cases d0 with
      | obj cn fs =>
        simp only [q1] at m
        by_cases hc : cn ∈ cs ∧ fs.length < 1000
        · rw [if_pos hc] at m
          obtain ⟨a, e1, ⟨C, dx, xs, ha, hm, rf⟩, n⟩ := k1.ow i _ q1
          obtain ⟨C', hm', hcl, hna⟩ := hf cn hc.1
          rw [hm] at hm'
          cases hm'
          rw [c.K] at hcl hna
          refine ⟨.ref a, e1, a, C, dx, xs, rfl, ha, hcl, hna, by rw [repF_len rf]; exact hc.2, ?_⟩
          exact m σ G1 _ (k1.mut q1 e1 rfl ⟨C, dx, _, upd_same, hm, repF_put R1.tr rf⟩) R1.st.ex
        · rw [if_neg hc] at m; exact m.elim
      | _ => simp only [q1] at m; exact m.elim
end
def FnP (P : Program) (w : World) (K : PySem.W.Frag) (mg : Str → Option Value) (base : Heap) (CX : CXT) (k : Nat) (f : Addr) (sp : Sp) : Prop :=
  ∀ (A : Around) (outer : List PySem.Env) (s : Shared) (H : Hp) (us : List Value) (vs : List V) (Q : VK) (E : XK), RoomG k A → Env0 P w K mg base A outer s H → Vals vs us → sp vs H Q E → codeAny (model P w) A (.call (.ref f) ⟨us, []⟩) (CR CX outer P w H s Q E) s
section
variable {P : Program} {w : World} {K : PySem.W.Frag} {mg : Str → Option Value} {base : Heap} {CX : CXT} {k j : Nat} {f : Addr} {fd : FuncData} {ps : List Str} {sp : Sp}
theorem FnP.up (F : FnP P w K mg base CX j f sp) (h : j ≤ k) : FnP P w K mg base CX k f sp := fun A o s H us vs Q E hr => F A o s H us vs Q E (hr.le h)
theorem FnG.fnP (F : FnG P w K mg base CX k f fd ps sp) (hb : Binds K fd ps []) : FnP P w K mg base CX k f sp := fun A o s H us vs Q E hr e0 r h => by
  have hl : us.length = ps.length := r.length.symm.trans (F.len _ _ _ _ h)
  have kin : K.In s.heap := e0.mod.kin.keeps fun b o e => (e0.bs b o e).1
  have b0 := hb s us kin (by simpa using hl)
  simp only [List.append_nil] at b0
  exact F.go A o s H ⟨us, []⟩ us vs Q E hr e0 b0 r h
end
theorem RoomG.in1 {k : Nat} {A : Around} (r : RoomG (k + 1) A) : RoomG k A.in1 := ⟨r.room.in1, r.gs⟩
theorem RoomG.make {k : Nat} {A : Around} (r : RoomG (k + 1) A) (C : Addr) (us : List Value) : RoomG k (A.under (.builtin "type.__call__" ⟨.ref C :: us, []⟩)) := ⟨r.room.make C us [], by
  have := r.gs
  first | exact this | (simp [Around.under, Code.isGuard, guardIds]; exact this)⟩
section
variable {X : Cx} {CX : CXT} {k : Nat} {f : Addr} {sp : Sp} {pins : List (Addr × Obj)} {σ : L2.St} {H : Hp} {s : Shared} {Q : VK} {E : XK} {us : List Value} {vs : List V}
/-- what a def of the module has come to, read where it was called -/
theorem come_to {x : Result} {t : Shared} (I : Inv X pins σ H s) (h : CR CX X.stack X.prog X.w H s Q E x t) : (∃ v, x = .ok (.ret v) ∧ EP X pins σ Q v t) ∨ ∃ e, x = .error e ∧ CX X.stack H s E e t := by
  rcases x with e | fl
  · exact .inr ⟨e, rfl, h⟩
  · cases fl <;> first | exact .inl ⟨_, rfl, I.after h⟩ | exact False.elim h
/-- the end of a call: a value, or an exception that is let out -/
abbrev Ended (X : Cx) (P : Value → Shared → Prop) : Result → Shared → Prop := fun x t => match x with
  | .ok (.ret v) => P v t
  | .ok _ => False
  | .error e => X.xe e t
theorem code_P (F : FnP X.prog X.w X.K X.mg X.base CX k f sp) (hr : RoomG k X.A) (hx : ∀ e s', CX X.stack H s E e s' → X.xe e s') (I : Inv X pins σ H s) (r : Vals vs us) (h : sp vs H Q E) :
    codeAny (model X.prog X.w) X.A (.call (.ref f) ⟨us, []⟩) (Ended X (EP X pins σ Q)) s :=
  codeAny_mono (F X.A X.stack s H us vs Q E hr I.env0 r h) fun _ t q => by
    rcases come_to I q with ⟨_, rfl, y⟩ | ⟨e, rfl, y⟩
    · exact y
    · exact hx e t y
theorem run_P (F : FnP X.prog X.w X.K X.mg X.base CX k f sp) (hr : RoomG k X.A) (hx : ∀ e s', CX X.stack H s E e s' → X.xe e s') (I : Inv X pins σ H s) (r : Vals vs us) (h : sp vs H Q E) :
    wpAny (model X.prog X.w) X.A (call (.ref f) us) (EP X pins σ Q) X.xe s := wpAny_call (code_P F hr hx I r h)
end

abbrev Tbl := List (Str × Nat × GF)
/-- an operand that is an instance of c without an attribute m of its own -/
def oCl (c m : Str) (fo : OF) : OF := fun r => match fo r with
  | .ok h r1 => match h.get r1 with
    | some (.obj c' fs) => if c' = c ∧ fs.lookup m = none then .ok h r1 else .bad
    | _ => .bad
  | .ex e r1 => .ex e r1
  | .bad => .bad
def callM (tbl : Tbl) (m : Str) (fo : OF) (fs : OsF) : EF := fun r => match fo r with
  | .ok h r1 => match h.get r1 with
    | some (.obj c _) => match tbl.lookup c with
      | some (n, g) => callG n g (osCons (oCl c m fo) fs) r
      | none => .bad
    | _ => .bad
  | .ex e r1 => .ex e r1
  | .bad => .bad
def IsC (w : Wd) (c m : Str) (x : V) (H : Hp) : Prop := ∃ a C dx xs, x = .ref a ∧ H a = some (.ins C dx xs) ∧ w.CM c = some C ∧ xs.lookup m = none
theorem oCl_of {A : Act} {W : WX} {c m : Str} {fo : OF} {σ : L2.St} {H : Hp} {Q : V → Hp → Prop} (h : tO A W (oCl c m fo) σ H Q) : tO A W fo σ H fun x H1 => IsC A.w c m x H1 ∧ Q x H1 := by
  obtain ⟨r, G, k, mm⟩ := h
  refine ⟨r, G, k, ?_⟩
  unfold oCl at mm
  cases hf : fo r with
  | bad => rw [hf] at mm; exact mm.elim
  | ex e r' => rw [hf] at mm; exact mm
  | ok h r1 =>
    simp only [hf] at mm
    cases hg : h.get r1 with
    | none => simp only [hg] at mm
    | some v =>
      cases v with
      | obj c' fs =>
        simp only [hg] at mm
        by_cases hc : c' = c ∧ fs.lookup m = none
        · rw [if_pos hc] at mm
          intro x G1 H1 k1 st t
          refine ⟨?_, mm x G1 H1 k1 st t⟩
          obtain ⟨a, C, dx, xs, e1, e2, e3, e4⟩ := rrep_obj k1.sub (t.get k1 hg)
          rw [hc.1] at e3
          exact ⟨a, C, dx, xs, e1, e2, e3, repF_none e4 hc.2⟩
        · rw [if_neg hc] at mm; exact mm.elim
      | _ => simp only [hg] at mm
theorem callM_of {A : Act} {W : WX} {tbl : Tbl} {m : Str} {fo : OF} {fs : OsF} {σ : L2.St} {H : Hp} {Q : VK} (h : tE A W (callM tbl m fo fs) σ H Q) :
    tO A W fo σ H fun x H1 => ∃ c n g, tbl.lookup c = some (n, g) ∧ IsC A.w c m x H1 ∧ tOs A W fs σ H1 fun vs H2 => spF A.w n g (x :: vs) H2 Q (fun cls d H3 => W cls d σ H3) := by
  obtain ⟨r, G, k, mm⟩ := h
  unfold callM at mm
  cases hf : fo r with
  | bad => rw [hf] at mm; exact mm.elim
  | ex e r' => rw [hf] at mm; exact ⟨r, G, k, by rw [hf]; exact mm⟩
  | ok h r1 =>
    simp only [hf] at mm
    cases hg : h.get r1 with
    | none => simp only [hg] at mm
    | some v =>
      cases v with
      | obj c fs0 =>
        simp only [hg] at mm
        cases ht : tbl.lookup c with
        | none => simp only [ht] at mm
        | some ng =>
          obtain ⟨n, g⟩ := ng
          simp only [ht] at mm
          have h2 : tE A W (callG n g (osCons (oCl c m fo) fs)) σ H Q := ⟨r, G, k, mm⟩
          exact tO_mono (oCl_of (os_cons (call_of h2))) fun x H1 ⟨i, q⟩ => ⟨c, n, g, ht, i, q⟩
      | _ => simp only [hg] at mm
theorem lookup_in {α : Type} {k : Str} {v : α} : ∀ {l : List (Str × α)}, l.lookup k = some v → (k, v) ∈ l
  | [], h => by cases h
  | (a, b) :: l, h => by
    rw [List.lookup_cons] at h
    cases e : k == a with
    | true => rw [e] at h; cases h; rw [beq_iff_eq.mp e]; exact List.mem_cons_self
    | false => rw [e] at h; exact List.mem_cons_of_mem _ (lookup_in h)
/-- the methods that a table tells -/
structure MthOk (X : Cx) (w : Wd) (lvl : Nat) (m : Str) (c : Str) (n : Nat) (g : GF) : Prop where
  ok : ∃ C f, w.CM c = some C ∧ Cls X.K C ∧ Meth X.K C m f ∧ FnP X.prog X.w X.K X.mg X.base (L2.CX X.prog X.w) lvl f (spF w n g)
def TblOk (Q : Str → Nat → GF → Prop) (tbl : Tbl) : Prop := ∀ p ∈ tbl, Q p.1 p.2.1 p.2.2
theorem tb_nil {Q : Str → Nat → GF → Prop} : TblOk Q [] := fun _ h => nomatch h
theorem tb_cons {Q : Str → Nat → GF → Prop} {c : Str} {n : Nat} {g : GF} {tbl : Tbl} (h : Q c n g) (t : TblOk Q tbl) : TblOk Q ((c, n, g) :: tbl) := fun p hp => (List.mem_cons.mp hp).elim (fun z => by subst z; exact h) (t p)
section
variable {X : Cx} {A : Act} {W : WX} {lvl : Nat} {m : Str} {o e : Expr} {es : List Expr} {tbl : Tbl} {fo : OF} {fs : OsF} {pos apos : Pos} {pl : Sem Bool}
theorem pe_callM (T : TblOk (MthOk X A.w lvl m) tbl) (hr : RoomG lvl X.A) (tk : Takes X W) (he : PE X o (tO A W fo)) (ha : PA X (e :: es) (tOs A W fs))
    (hst : NoStar X e es := by rfl) (hpl : NoStars X es pos := by rfl)
    (ht : MCall X o m (e :: es) apos pos pl := by rfl) :
    PE X (.Call (.Attribute o m apos) (e :: es) [] pos) (tE A W (callM tbl m fo fs)) := by
  refine ⟨fun pins s σ H Q I h => ?_⟩
  refine PySem.W.methodCall_KW (pl := pl) (thn (he.run pins s σ H _ I (callM_of h)) fun u s1 ⟨x, H1, I1, rx, c, n, g, hl, ⟨a, C, dx, xs, ex, ea, hm, ln⟩, q⟩ => ?_) ht
  subst ex
  obtain rfl : u = Value.ref a := rx
  obtain ⟨C', f, hm', hcl, hme, F⟩ := (T _ (lookup_in hl)).ok
  rw [hm] at hm'
  cases hm'
  refine getmeth_ok I1 ea hcl hme ln ?_
  refine PySem.W.callWith_K (first := [.ref a]) (h₀ := X.base) I1.ok.mod.kin hme.kp (thn (ha.run pos pins s1 σ H1 _ I1 q) fun us s2 ⟨vs, H2, I2, r, q2⟩ => ⟨I2.kIn, ?_⟩) hst hpl
  exact run_P (us := .ref a :: us) (vs := .ref a :: vs) F hr (fun e s' z => tk e s' (XE.of_call I2 (fun _ _ _ y => y) z)) I2 (.cons rfl r) q2
end
structure PrpOk (X : Cx) (w : Wd) (lvl : Nat) (m : Str) (c : Str) (n : Nat) (g : GF) : Prop where
  ok : ∃ C p f, w.CM c = some C ∧ Cls X.K C ∧ PropOf X.K C m p f ∧ FnP X.prog X.w X.K X.mg X.base (L2.CX X.prog X.w) lvl f (spF w n g)
/-- what lets no exception out -/
def noX (f : EF) : EF := fun r => match f r with
  | .ok o v r' => .ok o v r'
  | .ex _ _ => .bad
  | .bad => .bad
theorem noX_of {A : Act} {W W' : WX} {f : EF} {σ : L2.St} {H : Hp} {Q : VK} (h : tE A W (noX f) σ H Q) : tE A W' f σ H Q := by
  obtain ⟨r, G, k, m⟩ := h
  refine ⟨r, G, k, ?_⟩
  unfold noX at m
  cases hf : f r with
  | bad => rw [hf] at m; exact m.elim
  | ex e r' => rw [hf] at m; exact m.elim
  | ok o v r' => rw [hf] at m; exact m
theorem ExP.of0 {A : Act} {W : WX} {G : Hp} {σ : L2.St} {e : Val} {r : Env} (h : ExP A W0 G σ e r) : ExP A W G σ e r := by
  cases e with
  | exc c fs => exact fun G' H C d a b c' e' => (h G' H C d a b c' e').elim
  | _ => exact h
theorem tO_of0 {A : Act} {W : WX} {f : OF} {σ : L2.St} {H : Hp} {Q : V → Hp → Prop} (h : tO A W0 f σ H Q) : tO A W f σ H Q := by
  obtain ⟨r, G, k, m⟩ := h
  refine ⟨r, G, k, ?_⟩
  cases hf : f r with
  | bad => rw [hf] at m; exact m.elim
  | ex e r' => rw [hf] at m; exact m.of0
  | ok h r' => rw [hf] at m; exact m
section
variable {X : Cx} {A : Act} {W : WX} {lvl : Nat} {m : Str} {o : Expr} {tbl : Tbl} {fo : OF} {pos : Pos}
theorem getprop_P {CX : CXT} {k : Nat} {C p g a dx : Addr} {fs : List (Str × V)} {f : Str} {sp : Sp} {E : XK} {pins : List (Addr × Obj)} {σ : L2.St} {H : Hp} {s : Shared} {Q : VK} {b : Bool} (I : Inv X pins σ H s) (ea : H a = some (.ins C dx fs)) (c : Cls X.K C) (hp : PropOf X.K C f p g)
    (F : FnP X.prog X.w X.K X.mg X.base CX k g sp) (hr : RoomG (k + 1) X.A) (hx : ∀ e s', ¬ CX X.stack H { s with toks := s.toks + 1 } E e s') {Ex : Value → Shared → Prop} (h : sp [.ref a] H Q E) :
    wpAny (model X.prog X.w) X.A (getAttr (.ref a) f b) (EP X pins σ Q) Ex s := by
  obtain ⟨mA, O, _, _, _, _⟩ := ins_get I.hok ea
  obtain ⟨od, J, _⟩ := O.look
  obtain ⟨rest, hrec⟩ := hp.rec_
  have I1 := I.tok (s.toks + 1)
  have known : (PySem.W.clsIn X.K C).isSome = true := by
    obtain ⟨_, e, _⟩ := PySem.W.any_some c.hd
    simp only [e, Option.isSome_some]
  obtain ⟨noHook, noOther⟩ := PySem.W.plainGet_of (c.get f)
  refine PySem.W.get_bind I.kIn J noHook (PySem.W.findObj_data known hp.at_ hp.get hp.tak) noOther (wpAny_call (PySem.W.prop_get (s := { s with toks := s.toks + 1 }) I.kIn hrec ?_))
  refine codeAny_mono (F X.A.in1 X.stack { s with toks := s.toks + 1 } H [.ref a] [.ref a] Q E hr.in1 I1.env0.in1 (.cons rfl .nil) h) fun x t q => ?_
  rcases come_to I1 q with ⟨u, rfl, v, H', I3, rv, q3⟩ | ⟨e, rfl, y⟩
  case inr => exact (hx e t y).elim
  show wpAny _ _ (handedOut u) _ _ _
  rw [PySem.W.handedOut_of (handed_of rv)]
  exact wpAny_pure ⟨v, H', I3, rv, q3⟩
theorem pe_prp (T : TblOk (PrpOk X A.w lvl m) tbl) (hr : RoomG (lvl + 1) X.A) (he : PE X o (tO A W fo)) (hab : attributeBase o m X.env (eval o X.env) = eval o X.env := by rfl) :
    PE X (.Attribute o m pos) (tE A W (noX (callM tbl m fo osNil))) := by
  refine ⟨fun pins s σ H Q I h => ?_⟩
  refine attr_of hab (thn (he.run pins s σ H _ I (tO_of0 (callM_of (noX_of h)))) fun u s1 ⟨x, H1, I1, rx, c, n, g, hl, ⟨a, C, dx, xs, ex, ea, hm, ln⟩, ⟨r, G, kk, q⟩⟩ => ?_)
  subst ex
  obtain rfl : u = Value.ref a := rx
  obtain ⟨C', p, f, hm', hcl, hpo, F⟩ := (T _ (lookup_in hl)).ok
  rw [hm] at hm'
  cases hm'
  have q2 := q [] G H1 kk Step.refl rfl
  exact getprop_P I1 ea hcl hpo F hr (fun e s' ⟨_, _, _, _, _, _, _, _, _, _, _, _, z⟩ => z) q2
end
def mkC (c : Str) (n : Nat) (g : GF) (f : OsF) : EF := fun r => match f r with
  | .ok hs r1 => match lend r1 hs with
    | some as => if lents as = 0 ∧ as.length + 1 = n then match g ((true, .obj c []) :: as) with
        | .ok false .non (some (true, v)) => .ok true v r1
        | .ex e _ => .ex e r1
        | _ => .bad
      else .bad
    | none => .bad
  | .ex e r1 => .ex e r1
  | .bad => .bad
theorem arel_app {w : Wd} {G H H' : Hp} : ∀ {as : List (Bool × Val)} {xs : List V}, lents as = 0 → ARel w G H as xs → ARel w G H' as xs
  | [], _, _, h => h
  | (true, v) :: as, _, z, _ => by simp [lents] at z
  | (false, v) :: as, _, z, ⟨y, ys, e, r, t⟩ => ⟨y, ys, e, r, arel_app (by simpa [lents] using z) t⟩
theorem mkC_of {A : Act} {W : WX} {c : Str} {n : Nat} {g : GF} {f : OsF} {C : Addr} {σ : L2.St} {H : Hp} {Q : VK} (hC : A.w.CM c = some C) (h : tE A W (mkC c n g f) σ H Q) :
    tOs A W f σ H fun vs H1 => ∀ x dx, H1 x = none → H1 dx = none → dx ≠ x → spF A.w n g (.ref x :: vs) (upd (upd H1 dx (.own x)) x (.ins C dx [])) (fun v H2 => v = .non ∧ Q (.ref x) H2) (fun cls d H2 => W cls d σ H2) := by
  obtain ⟨r, G, k, m⟩ := h
  refine ⟨r, G, k, ?_⟩
  unfold mkC at m
  cases hf : f r with
  | bad => rw [hf] at m; exact m.elim
  | ex e r' => rw [hf] at m; exact m
  | ok hs r1 =>
    simp only [hf] at m
    intro xs G1 H1 k1 st1 t1 x dx hx hdx hne
    cases hl : lend r1 hs with
    | none => simp only [hl] at m
    | some as =>
      simp only [hl] at m
      by_cases hc : lents as = 0 ∧ as.length + 1 = n
      · simp only [if_pos hc] at m
        have ar := lend_rel k1 hl t1
        have gx : G1 x = none := k1.sub.back hx
        obtain ⟨H2, hH2⟩ : ∃ H2, H2 = upd (upd H1 dx (.own x)) x (.ins C dx []) := ⟨_, rfl⟩
        have up : ∀ a o, H1 a = some o → H2 a = some o := fun a o e => by
          have n1 : a ≠ x := fun z => by rw [z, hx] at e; cases e
          have n2 : a ≠ dx := fun z => by rw [z, hdx] at e; cases e
          rw [hH2, upd_ne n1, upd_ne n2]; exact e
        have up2 : ∀ a ps, H2 a = some (.tbl ps) → H1 a = some (.tbl ps) := fun a ps e => by
          by_cases n1 : a = x
          · rw [hH2, n1, upd_same] at e; cases e
          · by_cases n2 : a = dx
            · rw [hH2, upd_ne n1, n2, upd_same] at e; cases e
            · rw [hH2, upd_ne n1, upd_ne n2] at e; exact e
        have sub2 : Le G1 H2 := fun a o e => up a o (k1.sub a o e)
        have at2 : H2 x = some (.ins C dx []) := by rw [hH2, upd_same]
        have root : Root A.w G1 H2 (.obj c []) x := ⟨C, dx, [], at2, hC, repF_nil.mpr rfl⟩
        have ar2 : ARel A.w G1 H2 ((true, .obj c []) :: as) (.ref x :: xs) := ⟨x, xs, rfl, root, flat_all rfl gx, arel_app hc.1 ar⟩
        have only : ∀ b, Lent H2 ((true, .obj c []) :: as) (.ref x :: xs) b → b = x := fun b ⟨i, v, d, h1, h2, h3⟩ => by
          cases i with
          | zero =>
            simp at h1 h2; subst h1; subst h2
            exact flat_all (P := fun b => b = x) rfl rfl b h3
          | succ i => exact absurd (by simpa using h1) (lents_zero hc.1 (p := i) (v := v))
        rw [← hH2]
        have len : (V.ref x :: xs).length = n := by rw [arel_length ar2]; simp; exact hc.2
        refine ⟨G1, (true, .obj c []) :: as, len, ⟨sub2, k1.tk.ext up up2, k1.nt⟩, ar2, by rw [show lents ((true, Val.obj c []) :: as) = lents as + 1 by simp [lents]]; omega, ?_⟩
        have keep : ∀ {G' H' : Hp} {out : Option (Bool × Val)}, Post A.w G1 H2 ((true, .obj c []) :: as) (.ref x :: xs) out G' H' → Ok A G' H' σ r1 ∧ (∀ a o, H1 a = some o → KpO o (H' a)) ∧ (∀ a, G1 a = none → G' a ≠ none → H1 a = none) := fun {G' H' out} p => by
          have kp : ∀ a o, H1 a = some o → KpO o (H' a) := fun a o e => p.kp a o (up a o e) fun z => by rw [only a z, hx] at e; cases e
          have gr : ∀ a, G1 a = none → G' a ≠ none → H1 a = none := fun a e1 e2 => by
            rcases p.gr a e1 e2 with z | z
            · cases q : H1 a with
              | none => rfl
              | some o => rw [up a o q] at z; cases z
            · rw [only a z]; exact hx
          exact ⟨k1.post0 p.g p.s gr kp p.tk p.nt, kp, gr⟩
        cases hg : g ((true, .obj c []) :: as) with
        | bad => simp only [hg] at m
        | ok o z out =>
          intro u G' H' p nr _
          obtain ⟨k2, kp, gr⟩ := keep p
          cases o with
          | true => simp only [hg] at m
          | false =>
            cases z with
            | non =>
              rcases out with _ | ⟨_ | _, v⟩
              · simp only [hg] at m
              · simp only [hg] at m
              · simp only [hg] at m
                have ou := p.out 0 (.obj c []) x rfl rfl
                have new : ∀ b ∈ fp H' v x, H1 b = none := fun b hb => by
                  rcases (ou.2 b hb).2 with z | z
                  · cases q : H1 b with
                    | none => rfl
                    | some o => rw [up b o q] at z; cases z
                  · rw [only b z]; exact hx
                have rk := k1.rtK (H' := H') fun b o _ e => kp b o e
                refine ⟨rep_non.mp (show Rep A.w G' .non u from nr), m (.ref x) G' H' ⟨k2, st1.trans ⟨p.g, fun a o e _ => kp a o e, fun a e1 e2 => .inl (gr a e1 e2), fun b z => .inl ((rk b).mp z)⟩, ⟨x, rfl, ou.1, fun b hb => ⟨(ou.2 b hb).1, fun z => k1.notRt (new b hb) ((rk b).mp z), k1.fresh (new b hb)⟩⟩, fun _ a ea b hb => ?_⟩⟩
                cases ea
                exact st1.fresh (new b hb)
            | _ => simp only [hg] at m
        | ex e out =>
          simp only [hg] at m ⊢
          cases e with
          | exc ce fs =>
            intro G' H' Ce d p hCe hd
            obtain ⟨k2, kp, gr⟩ := keep p
            exact m G' H' Ce d k2 (st1.ex.trans p.g) hCe hd
          | _ => exact m
      · simp only [if_neg hc] at m
structure MkOk (X : Cx) (w : Wd) (lvl : Nat) (c : Str) (n : Nat) (g : GF) : Prop where
  ok : ∃ C f, w.CM c = some C ∧ Mk X.K C f ∧ FnP X.prog X.w X.K X.mg X.base (L2.CX X.prog X.w) lvl f (spF w n g)
section
variable {X : Cx} {A : Act} {W : WX} {lvl n i : Nat} {c x m : Str} {g : GF} {C f : Addr} {o e : Expr} {es : List Expr} {tbl : Tbl} {fo : OF} {fs : OsF} {p pos apos : Pos} {pl : Sem Bool} {pins : List (Addr × Obj)} {σ : L2.St} {H : Hp} {s : Shared} {Q : VK} {us : List Value} {vs : List V}
theorem run_mkP (M : Mk X.K C f) (F : FnP X.prog X.w X.K X.mg X.base (L2.CX X.prog X.w) lvl f (spF A.w n g)) (hr : RoomG (lvl + 1) X.A) (tk : Takes X W) (I : Inv X pins σ H s) (r : Vals vs us)
    (h : ∀ x dx, H x = none → H dx = none → dx ≠ x → spF A.w n g (.ref x :: vs) (upd (upd H dx (.own x)) x (.ins C dx [])) (fun v H2 => v = .non ∧ Q (.ref x) H2) (fun cls d H2 => W cls d σ H2)) :
    wpAny (model X.prog X.w) X.A (call (.ref C) us) (EP X pins σ Q) X.xe s := by
  have I2 := Inv.made (C := C) I
  have free : ∀ b, s.heap.objs.size ≤ b → H b = none := fun b le => I.hok.fresh le
  have runs := F _ X.stack _ _ (Value.ref (s.heap.objs.size + 1) :: us) (V.ref (s.heap.objs.size + 1) :: vs) _ _ (hr.make C us) (I2.env0.make C us []) (.cons rfl r) (h _ s.heap.objs.size (free _ (Nat.le_succ _)) (free _ (Nat.le_refl _)) (Nat.succ_ne_self _).symm)
  refine wpAny_call (make_map (f := f) I.kIn M.makes M.init (beq_iff_eq.mp M.fn) (codeAny_mono runs fun x t q => ?_))
  rcases come_to I2 q with ⟨u, rfl, _, H', I3, rv, rfl, q3⟩ | ⟨e, rfl, y⟩
  · exact ⟨rv, .ref _, H', I3, rfl, q3⟩
  · exact tk e t (XE.of_call I2 (fun _ _ _ z => z) y)
/-- x(..), x a name that holds a class -/
def mkD (tbl : Tbl) (i : Nat) (fs : OsF) : EF := fun r => match r[i]? with
  | some (some (false, .cls c)) => match tbl.lookup c with
    | some (n, g) => mkC c n g fs r
    | none => .bad
  | _ => .bad
theorem mkD_of (h : tE A W (mkD tbl i fs) σ H Q) : ∃ c n g C, tbl.lookup c = some (n, g) ∧ A.w.CM c = some C ∧ σ[i]? = some (some (.ref C)) ∧ tE A W (mkC c n g fs) σ H Q := by
  obtain ⟨r, G, k, m⟩ := h
  unfold mkD at m
  rcases q : r[i]? with _ | _ | ⟨_ | _, v⟩
  · simp only [q] at m
  · simp only [q] at m
  · cases v with
    | cls c =>
      simp only [q] at m
      cases ht : tbl.lookup c with
      | none => simp only [ht] at m
      | some ng =>
        obtain ⟨n, g⟩ := ng
        simp only [ht] at m
        obtain ⟨x, e1, r1⟩ := k.fz i _ q
        rw [Rep] at r1
        obtain ⟨C, hC, rfl⟩ := r1
        exact ⟨c, n, g, C, ht, hC, e1, r, G, k, m⟩
    | _ => simp only [q] at m
  · simp only [q] at m
theorem pe_mkD0 (T : TblOk (MkOk X A.w lvl) tbl) (hr : RoomG (lvl + 1) X.A) (hN : X.N[i]? = some x) (hv : Vis X.env.scope x) (tk : Takes X W) (hdb : (x == ("__debug__" : Str)) = false := by decide) (hcd : (x == ("__classdict__" : Str)) = false := by decide) :
    PE X (.Call (.Name x p) [] [] pos) (tE A W (mkD tbl i osNil)) := by
  refine ⟨fun pins s σ H Q I h => ?_⟩
  obtain ⟨c, n, g, C, hl, hC, hs, h⟩ := mkD_of h
  obtain ⟨C', f, hC', hk, F⟩ := (T _ (lookup_in hl)).ok
  rw [hC] at hC'
  cases hC'
  obtain ⟨r, G, kk, q⟩ := mkC_of hC h
  have q2 := q [] G H kk Step.refl rfl
  refine wpAny_Call_Name_kw (thn ((pe_var (pos := p) hN hv hdb hcd).run pins s σ H (fun v H1 => v = .ref C ∧ H1 = H) I ⟨.ref C, hs, rfl, rfl⟩) fun u s1 ⟨v, H1, I1, r1, q1⟩ => ?_)
  obtain ⟨rfl, rfl⟩ := q1
  cases r1
  exact PySem.W.callWith_K0 I1.kIn hk.kp (run_mkP hk F hr tk I1 .nil q2)
structure CmtOk (X : Cx) (w : Wd) (lvl : Nat) (m c : Str) (n : Nat) (g : GF) : Prop where
  ok : ∃ C mc p f, w.CM c = some C ∧ ClX.CRead X.K C mc ∧ ClX.CMet X.K C mc m p f ∧ FnP X.prog X.w X.K X.mg X.base (L2.CX X.prog X.w) lvl f (spF w n g)
theorem run_cmP {q : Addr} {sp : Sp} (F : FnP X.prog X.w X.K X.mg X.base (L2.CX X.prog X.w) lvl f sp) (hr : RoomG lvl X.A) (tk : Takes X W) (I : Inv X ((q, PySem.W.methodObj (.ref f) (.ref C)) :: pins) σ H s)
    (r : Vals vs us) (h : sp (.ref C :: vs) H Q (fun cls d H2 => W cls d σ H2)) : wpAny (model X.prog X.w) X.A (call (.ref q) us) (EP X pins σ Q) X.xe s := by
  have z : wpAny (model X.prog X.w) X.A (call (.ref q) us) (EP X ((q, PySem.W.methodObj (.ref f) (.ref C)) :: pins) σ Q) X.xe s :=
    wpAny_call (PySem.W.method_call (ClX.pin_at I) (code_P (us := .ref C :: us) (vs := .ref C :: vs) F hr (fun e s' y => tk e s' (XE.of_call I (fun _ _ _ y => y) y)) I (.cons rfl r) h))
  exact thn z fun _ _ y => ClX.unpinE y
theorem cls_first {Q : V → Hp → Prop} (hC : A.w.CM c = some C) (h : tO A W (oV (cst (.cls c))) σ H Q) : Q (.ref C) H := by
  obtain ⟨r, G, k, m⟩ := h
  exact m (.ref C) G H k Step.refl (show Rep A.w G (.cls c) (.ref C) by rw [Rep]; exact ⟨C, hC, rfl⟩)
/-- C.m(e, ..) -/
theorem pe_cmt (T : CmtOk X A.w lvl m c n g) (hr : RoomG lvl X.A) (hg : Gl X x) (hm : ∃ C, X.mg x = some (.ref C) ∧ A.w.CM c = some C) (tk : Takes X W) (ha : PA X (e :: es) (tOs A W fs)) (hdb : (x == ("__debug__" : Str)) = false := by decide)
    (hst : NoStar X e es := by rfl) (hpl : NoStars X es pos := by rfl)
    (ht : MCall X (.Name x p) m (e :: es) apos pos pl := by rfl) :
    PE X (.Call (.Attribute (.Name x p) m apos) (e :: es) [] pos) (tE A W (callG n g (osCons (oV (cst (.cls c))) fs))) := by
  obtain ⟨C, mc, pp, f, hC, cr, cm, F⟩ := T.ok
  obtain ⟨C', hm, hC'⟩ := hm
  rw [hC] at hC'
  cases hC'
  refine ⟨fun pins s σ H Q I h => ?_⟩
  have h2 := cls_first hC (os_cons (call_of h))
  refine PySem.W.methodCall_KW (pl := pl) (thn ((pe_glob (v := .ref C) hg hm rfl hdb).run pins s σ H (fun v H1 => v = .ref C ∧ H1 = H) I ⟨rfl, rfl⟩) fun u s1 ⟨v, H1, I1, r1, q1⟩ => ?_) ht
  obtain ⟨rfl, rfl⟩ := q1
  cases r1
  refine ClX.getmethcm_ok I1 cr cm fun s2 I2 => ?_
  refine ClX.callwith_cm I2 (ClX.base_none I1 (Nat.le_refl _)) cm.fi (thn (ha.run pos _ s2 σ _ _ I2 h2) fun us s3 ⟨vs, H2, I3, rv, q2⟩ => ⟨⟨ClX.pin_at I3, I3.kIn⟩, ?_⟩) hst hpl
  exact run_cmP F hr tk I3 rv q2
end
section
variable {P : Program} {w : World} {K : PySem.W.Frag} {mg : Str → Option Value} {base : Heap}
abbrev FunQ (K : PySem.W.Frag) (x qual : Str) (st : Stmt) (f : Addr) (fd : FuncData) : Prop := FunD K x qual (defArgs st) (defBody st) (defScope st) [] [] f fd
/-- the def at f keeps its promise g, by position -/
structure DefQ (P : Program) (w : World) (K : PySem.W.Frag) (mg : Str → Option Value) (base : Heap) (wd : Wd) (lvl : Nat) (x qual : Str) (st : Stmt) (ps : List Str) (g : GF) (f : Addr) : Prop where
  ex : ∃ fd, FunQ K x qual st f fd ∧ Binds K fd ps [] ∧ FnG P w K mg base (L2.CX P w) lvl f fd ps (spF wd ps.length g)
theorem FunD.fun {x qual : Str} {st : Stmt} {f : Addr} {fd : FuncData} (F : FunQ K x qual st f fd) : Fun K x qual st f fd := by
  obtain ⟨oc, od, dV, kV, doc, pm, an, cdv, ct, osl, e, lk, hcd, hD, _⟩ := F.ex
  refine ⟨⟨oc, od, kV, doc, pm, an, cdv, ct, osl, ?_, lk, hcd⟩, F.kp⟩
  rcases hD with ⟨_, rfl⟩ | ⟨z, _⟩
  · exact e
  · exact absurd rfl z
theorem defQ_mk {x qual : Str} {st : Stmt} {f : Addr} {fd : FuncData} {N ps : List Str} {k : Nat} {wd : Wd} {ios : List Nat} {body : SF} (F : FunQ K x qual st f fd) (S : FnScope N ps (defScope st))
    (hb : ∀ (cdv : Value) (A : Around) (outer : List PySem.Env) (s : Shared) (H : Hp) (E : XK), RoomG k (A.deeper (PyProof.Rows.envOfC qual (defScope st) s.heap.objs.size f cdv)) →
      SV (cxOf (L2.CX P w) P w K mg base N qual (defScope st) f cdv A outer s H E) wd ios (defBody st) body)
    (hbind : ∀ (kV doc pm : Value) (an : Option Addr) (cdv ct : Value) (us : List Value), us.length = ps.length → bindArgs (PySem.W.fnOf x qual (defArgs st) (defBody st) (defScope st) .none kV doc pm an cdv ct) ⟨us, []⟩ = pure (ps.zip us)) :
    DefQ P w K mg base wd (k + 1) x qual st ps (runDef ios ps.length N.length body) f :=
  ⟨fd, F, FunD.bindsN F hbind, def_ok (FunD.fun F) S hb fun as => .inr rfl⟩
theorem DefQ.fnP {wd : Wd} {lvl k : Nat} {x qual : Str} {st : Stmt} {ps : List Str} {g : GF} {f : Addr} {n : Nat} (d : DefQ P w K mg base wd lvl x qual st ps g f) (hk : lvl ≤ k) (hn : ps.length = n := by rfl) : FnP P w K mg base (L2.CX P w) k f (spF wd n g) := by
  subst hn
  obtain ⟨fd, F, hb, G⟩ := d.ex
  exact (G.fnP hb).up hk
/-- the arguments behind np as a tuple -/
def packS (np : Nat) (kw : Bool) (as : List (Bool × Val)) : List (Bool × Val) := as.take np ++ (false, .tup ((as.drop np).map (·.2))) :: (if kw then [(false, .dct false [])] else [])
def runDefS (kw : Bool) (ios : List Nat) (np N : Nat) (body : SF) : GF := fun as =>
  if np ≤ as.length ∧ lents (as.drop np) = 0 ∧ as.length ≤ 100000 ∧ (∀ i ∈ ownIx (packS np kw as), i < np) then runDef ios (np + 1 + (if kw then 1 else 0)) N body (packS np kw as) else .bad
theorem arel_take {wd : Wd} {G H : Hp} : ∀ {as : List (Bool × Val)} {xs : List V} (n : Nat), ARel wd G H as xs → ARel wd G H (as.take n) (xs.take n)
  | [], xs, n, h => by have h' : xs = [] := h; subst h'; simp; exact rfl
  | _ :: _, xs, 0, h => by simp; exact rfl
  | (false, v) :: as, _, n + 1, ⟨y, ys, e, r, t⟩ => by subst e; exact ⟨y, ys.take n, rfl, r, arel_take n t⟩
  | (true, v) :: as, _, n + 1, ⟨a, ys, e, r, z, t⟩ => by subst e; exact ⟨a, ys.take n, rfl, r, z, arel_take n t⟩
theorem arel_drop {wd : Wd} {G H : Hp} : ∀ {as : List (Bool × Val)} {xs : List V} (n : Nat), ARel wd G H as xs → ARel wd G H (as.drop n) (xs.drop n)
  | [], xs, n, h => by have h' : xs = [] := h; subst h'; simp; exact rfl
  | _ :: _, xs, 0, h => by simpa using h
  | (false, v) :: as, _, n + 1, ⟨y, ys, e, r, t⟩ => by subst e; simpa using arel_drop n t
  | (true, v) :: as, _, n + 1, ⟨a, ys, e, r, z, t⟩ => by subst e; simpa using arel_drop n t
theorem arel_reps {wd : Wd} {G H : Hp} : ∀ {as : List (Bool × Val)} {xs : List V}, lents as = 0 → ARel wd G H as xs → Reps wd G (as.map (·.2)) xs
  | [], xs, _, h => by have h' : xs = [] := h; subst h'; exact reps_nil.mpr rfl
  | (true, v) :: as, _, z, _ => by simp [lents] at z
  | (false, v) :: as, _, z, ⟨y, ys, e, r, t⟩ => by subst e; exact reps_cons.mpr ⟨y, ys, rfl, r, arel_reps (by simpa [lents] using z) t⟩
theorem arel_append {wd : Wd} {G H : Hp} : ∀ {as bs : List (Bool × Val)} {xs ys : List V}, ARel wd G H as xs → ARel wd G H bs ys → ARel wd G H (as ++ bs) (xs ++ ys)
  | [], _, xs, _, h, h2 => by have h' : xs = [] := h; subst h'; simpa using h2
  | (false, v) :: as, _, _, _, ⟨y, ys, e, r, t⟩, h2 => by subst e; exact ⟨y, _, rfl, r, arel_append t h2⟩
  | (true, v) :: as, _, _, _, ⟨a, ys, e, r, z, t⟩, h2 => by subst e; exact ⟨a, _, rfl, r, z, arel_append t h2⟩
theorem arel_mono {wd : Wd} {G H G' H' : Hp} (g : Le G G') (e : ∀ a o, H a = some o → H' a = some o) (n : ∀ a, H a ≠ none → G a = none → G' a = none) : ∀ {as : List (Bool × Val)} {xs : List V}, ARel wd G H as xs → ARel wd G' H' as xs
  | [], _, h => h
  | (false, v) :: as, _, ⟨y, ys, q, r, t⟩ => ⟨y, ys, q, r.mono g, arel_mono g e n t⟩
  | (true, v) :: as, _, ⟨a, ys, q, r, z, t⟩ => by
    obtain ⟨q1, q2⟩ := r.mono' g fun b _ o h => e b o h
    exact ⟨a, ys, q, q1, fun b hb => by
      rw [q2] at hb
      exact n b (by obtain ⟨o, ho, _⟩ := r.con' b hb; rw [ho]; simp) (z b hb), arel_mono g e n t⟩
/-- a lent container's addresses in a heap that has grown -/
theorem arel_fp {wd : Wd} {G H H2 : Hp} {as : List (Bool × Val)} {vs : List V} {i : Nat} {v : Val} {b : Addr} (ar : ARel wd G H as vs) (up : Le H H2) (h : as[i]? = some (true, v)) (e : vs[i]? = some (.ref b)) : fp H2 v b = fp H v b := by
  obtain ⟨x, e', a, e2, r, _⟩ := arel_get ar h
  rw [e] at e'; cases e'; cases e2
  exact (r.mono' (Le.refl _) fun c _ o hc => up c o hc).2
theorem lents_take {as : List (Bool × Val)} (np : Nat) (h : lents (as.drop np) = 0) : lents (as.take np) = lents as := by
  have : as = as.take np ++ as.drop np := (List.take_append_drop np as).symm
  have e : lents (as.take np ++ as.drop np) = lents (as.take np) + lents (as.drop np) := by
    show ((as.take np ++ as.drop np).filter (·.1)).length = _
    rw [List.filter_append, List.length_append]; rfl
  rw [← this] at e
  omega
theorem packS_lents {as : List (Bool × Val)} {np : Nat} {kw : Bool} (h : lents (as.drop np) = 0) : lents (packS np kw as) = lents as := by
  have e : lents (packS np kw as) = lents (as.take np) := by cases kw <;> simp [packS, lents]
  rw [e, lents_take np h]
theorem drop_get {α : Type} (l : List α) (n i : Nat) : (l.drop n)[i]? = l[n + i]? := List.getElem?_drop
/-- what is lent is the same ahead of the packing and behind it -/
structure LB (H : Hp) (as : List (Bool × Val)) (vs : List V) (H2 : Hp) (as2 : List (Bool × Val)) (vs2 : List V) : Prop where
  l : ∀ a, Lent H2 as2 vs2 a ↔ Lent H as vs a
  ix : ∀ (i : Nat) (v : Val) (a : Addr), as[i]? = some (true, v) → vs[i]? = some (.ref a) → ∃ (j : Nat) (u : Val), as2[j]? = some (true, u) ∧ vs2[j]? = some (.ref a)
theorem LB.of {wd : Wd} {G H H2 : Hp} {as as2 : List (Bool × Val)} {vs vs2 : List V} (ar : ARel wd G H as vs) (up : Le H H2) (h1 : ∀ (i : Nat) (v : Val) (a : Addr), as[i]? = some (true, v) → vs[i]? = some (.ref a) → ∃ (j : Nat), as2[j]? = some (true, v) ∧ vs2[j]? = some (.ref a))
    (h2 : ∀ (j : Nat) (v : Val) (a : Addr), as2[j]? = some (true, v) → vs2[j]? = some (.ref a) → ∃ (i : Nat), as[i]? = some (true, v) ∧ vs[i]? = some (.ref a)) : LB H as vs H2 as2 vs2 where
  l := fun a => by
    constructor
    · rintro ⟨j, v, b, e1, e2, e3⟩
      obtain ⟨i, f1, f2⟩ := h2 j v b e1 e2
      rw [arel_fp ar up f1 f2] at e3
      exact ⟨i, v, b, f1, f2, e3⟩
    · rintro ⟨i, v, b, e1, e2, e3⟩
      obtain ⟨j, f1, f2⟩ := h1 i v b e1 e2
      rw [← arel_fp ar up e1 e2] at e3
      exact ⟨j, v, b, f1, f2, e3⟩
  ix := fun i v a e1 e2 => by
    obtain ⟨j, f1, f2⟩ := h1 i v a e1 e2
    exact ⟨j, v, f1, f2⟩
theorem pack_ix1 {as : List (Bool × Val)} {vs sv : List V} {np : Nat} {kw : Bool} (hl : vs.length = as.length) (hnp : np ≤ as.length) (h : lents (as.drop np) = 0) {i : Nat} {v : Val} {a : Addr} (h1 : as[i]? = some (true, v)) (h2 : vs[i]? = some (.ref a)) :
    (packS np kw as)[i]? = some (true, v) ∧ (vs.take np ++ sv)[i]? = some (.ref a) := by
  have hi : i < np := by
    rcases Nat.lt_or_ge i np with z | z
    · exact z
    · exfalso
      refine lents_zero h (p := i - np) (v := v) ?_
      rw [drop_get]
      rw [show np + (i - np) = i by omega]
      exact h1
  refine ⟨?_, ?_⟩
  · unfold packS
    rwa [List.getElem?_append_left (by simp; omega), List.getElem?_take_of_lt hi]
  · rwa [List.getElem?_append_left (by simp; omega), List.getElem?_take_of_lt hi]
theorem pack_ix2 {as : List (Bool × Val)} {vs sv : List V} {np : Nat} {kw : Bool} (hl : vs.length = as.length) (hnp : np ≤ as.length) {i : Nat} {v : Val} {a : Addr} (h1 : (packS np kw as)[i]? = some (true, v)) (h2 : (vs.take np ++ sv)[i]? = some (.ref a)) :
    as[i]? = some (true, v) ∧ vs[i]? = some (.ref a) := by
  by_cases hi : i < np
  · refine ⟨?_, ?_⟩
    · unfold packS at h1
      rwa [List.getElem?_append_left (by simp; omega), List.getElem?_take_of_lt hi] at h1
    · rwa [List.getElem?_append_left (by simp; omega), List.getElem?_take_of_lt hi] at h2
  · exfalso
    unfold packS at h1
    rw [List.getElem?_append_right (by simp; omega)] at h1
    generalize i - (as.take np).length = j at h1
    cases j with
    | zero => simp at h1
    | succ j =>
      cases kw with
      | false => simp at h1
      | true =>
        cases j with
        | zero => simp at h1
        | succ j => simp at h1
theorem lent_pack {wd : Wd} {G H H2 : Hp} {as : List (Bool × Val)} {vs sv : List V} {np : Nat} {kw : Bool} (ar : ARel wd G H as vs) (up : Le H H2) (hl : vs.length = as.length) (hnp : np ≤ as.length) (h : lents (as.drop np) = 0) :
    LB H as vs H2 (packS np kw as) (vs.take np ++ sv) :=
  LB.of ar up (fun i _ _ h1 h2 => ⟨i, pack_ix1 hl hnp h h1 h2⟩) fun i _ _ h1 h2 => ⟨i, pack_ix2 hl hnp h1 h2⟩
theorem post_back {wd : Wd} {G H G2 H2 G' H' : Hp} {as as2 : List (Bool × Val)} {vs vs2 : List V} {out : Option (Bool × Val)} (g : Grow G H G2 H2) (hl : LB H as vs H2 as2 vs2) (p : Post wd G2 H2 as2 vs2 out G' H') : Post wd G H as vs out G' H' where
  g := g.g.trans p.g
  s := p.s
  gr := fun a h h' => by
    by_cases q : G2 a = none
    · rcases p.gr a q h' with z | z
      · exact .inl (g.h.back z)
      · exact .inr ((hl.l a).mp z)
    · exact .inl (g.n a h q)
  kp := fun a o h n => p.kp a o (g.h _ _ h) fun z => n ((hl.l a).mp z)
  tk := p.tk
  nt := p.nt
  out := fun i v a h1 h2 => by
    obtain ⟨j, u, f1, f2⟩ := hl.ix i v a h1 h2
    have := p.out j u a f1 f2
    rcases out with _ | ⟨_ | _, w⟩
    · exact this
    · exact this
    · exact ⟨this.1, fun b hb => ⟨(this.2 b hb).1, (this.2 b hb).2.imp (fun z => g.h.back z) (hl.l b).mp⟩⟩
theorem crep_back {wd : Wd} {G H G2 H2 G' H' : Hp} {as as2 : List (Bool × Val)} {vs vs2 : List V} {o : Bool} {v : Val} {x : V} (g : Grow G H G2 H2) (hl : LB H as vs H2 as2 vs2) (h : CRep wd G2 H2 as2 vs2 G' H' o v x) : CRep wd G H as vs G' H' o v x := by
  cases o with
  | true => obtain ⟨a, e, ro, n⟩ := h; exact ⟨a, e, ro, fun b hb => ⟨(n b hb).1, (n b hb).2.imp (fun z => g.h.back z) (hl.l b).mp⟩⟩
  | false => exact h
theorem dis_back {H H2 H' : Hp} {as as2 : List (Bool × Val)} {vs vs2 : List V} {out : Option (Bool × Val)} {o : Bool} {z : Val} {u : V} (hl : LB H as vs H2 as2 vs2) (d : Dis H' as2 vs2 out o z u) : Dis H' as vs out o z u := fun eo c ec b hb q v v' a h1 h2 h3 => by
  obtain ⟨j, w, f1, f2⟩ := hl.ix q v a h1 h2
  exact d eo c ec b hb j w v' a f1 f2 h3
theorem spPost_back {wd : Wd} {G H G2 H2 : Hp} {as as2 : List (Bool × Val)} {vs vs2 : List V} {Q : VK} {E : XK} (g : Grow G H G2 H2) (hl : LB H as vs H2 as2 vs2) : ∀ {x : GR}, spPost wd G H as vs Q E x → spPost wd G2 H2 as2 vs2 Q E x
  | .ok o z out, h => fun u G' H' p nr d => h u G' H' (post_back g hl p) (crep_back g hl nr) (dis_back hl d)
  | .ex e out, h => by
    cases e with
    | exc c fs => exact fun G' H' C d p => h G' H' C d (post_back g hl p)
    | _ => exact h
  | .bad, h => h
theorem spF_post {wd : Wd} {n : Nat} {g : GF} {vs : List V} {H : Hp} {Q : VK} {E : XK} (h : spF wd n g vs H Q E) : ∃ G as, vs.length = n ∧ LeT wd G H ∧ ARel wd G H as vs ∧ lents as ≤ 1 ∧ spPost wd G H as vs Q E (g as) := by
  obtain ⟨G, as, h1, h2, h3, h4, h5⟩ := h
  refine ⟨G, as, h1, h2, h3, h4, ?_⟩
  revert h5
  cases g as <;> exact id
/-- the start of a body behind the packing -/
theorem star_start {wd : Wd} {ios : List Nat} {np n : Nat} {kw : Bool} {N : List Str} {body : SF} {G H : Hp} {as : List (Bool × Val)} {vs : List V} {Q : VK} {E : XK} (hlen : vs.length = n) (hle : Le G H) (ar : ARel wd G H as vs) (l1 : lents as ≤ 1)
    (hm : spPost wd G H as vs Q E (runDefS kw ios np N.length body as)) :
    np ≤ vs.length ∧ vs.length ≤ 100000 ∧ ∀ (G2 H2 : Hp) (sv : List V), Grow G H G2 H2 → ARel wd G2 H2 ((false, .tup ((as.drop np).map (·.2))) :: (if kw then [(false, .dct false [])] else [])) sv → Reps wd G ((as.drop np).map (·.2)) (vs.drop np) →
      ∃ as2, lents as2 ≤ 1 ∧ Le G2 H2 ∧ ARel wd G2 H2 as2 (vs.take np ++ sv) ∧ spPost wd G2 H2 as2 (vs.take np ++ sv) Q E (runDef ios (np + 1 + (if kw then 1 else 0)) N.length body as2) := by
  unfold runDefS at hm
  by_cases hc : np ≤ as.length ∧ lents (as.drop np) = 0 ∧ as.length ≤ 100000 ∧ (∀ i ∈ ownIx (packS np kw as), i < np)
  case neg => rw [if_neg hc] at hm; exact hm.elim
  rw [if_pos hc] at hm
  have hl := arel_length ar
  refine ⟨by omega, by omega, fun G2 H2 sv g ar2 _ => ⟨packS np kw as, by rw [packS_lents hc.2.1]; exact l1, g.s, ?_, spPost_back g (lent_pack ar g.h hl hc.1 hc.2.1) hm⟩⟩
  unfold packS
  refine arel_append (arel_mono g.g g.h (fun a h1 h2 => ?_) (arel_take np ar)) ar2
  cases q : G2 a with
  | none => rfl
  | some o => exact absurd (g.n a h2 (by rw [q]; simp)) h1
theorem star_reps {wd : Wd} {ios : List Nat} {np : Nat} {kw : Bool} {N : Nat} {body : SF} {G H : Hp} {as : List (Bool × Val)} {vs : List V} {Q : VK} {E : XK} (ar : ARel wd G H as vs)
    (hm : spPost wd G H as vs Q E (runDefS kw ios np N body as)) : Reps wd G ((as.drop np).map (·.2)) (vs.drop np) := by
  unfold runDefS at hm
  by_cases hc : np ≤ as.length ∧ lents (as.drop np) = 0 ∧ as.length ≤ 100000 ∧ (∀ i ∈ ownIx (packS np kw as), i < np)
  case neg => rw [if_neg hc] at hm; exact hm.elim
  exact arel_reps hc.2.1 (arel_drop np ar)
theorem scope_len {N qs : List Str} {sc : Scope} (S : FnScope N qs sc) : qs.length ≤ N.length := by
  have := congrArg List.length S.pre
  rw [List.length_take] at this; omega
/-- def f(a, .., *v, **d), called without keywords -/
theorem fnP_starkw {pv pd x qual : Str} {st : Stmt} {f : Addr} {fd : FuncData} {N ps : List Str} {k n : Nat} {wd : Wd} {ios : List Nat} {body : SF} (F : FunQ K x qual st f fd) (S : FnScope N (ps ++ [pv, pd]) (defScope st))
    (hb : ∀ (cdv : Value) (A : Around) (outer : List PySem.Env) (s : Shared) (H : Hp) (E : XK), RoomG k (A.deeper (PyProof.Rows.envOfC qual (defScope st) s.heap.objs.size f cdv)) →
      SV (cxOf (L2.CX P w) P w K mg base N qual (defScope st) f cdv A outer s H E) wd ios (defBody st) body)
    (hbind : ∀ (kV doc pm : Value) (an : Option Addr) (cdv ct : Value) (us rest : List Value), us.length = ps.length → bindArgs (PySem.W.fnOf x qual (defArgs st) (defBody st) (defScope st) .none kV doc pm an cdv ct) ⟨us ++ rest, []⟩ =
      (newTuple rest >>= fun t => (alloc ({ cls := .type "dict", data := .dict #[] } : Obj) : Sem Addr) >>= fun d => pure (ps.zip us ++ [(pv, t), (pd, Value.ref d)]))) :
    FnP P w K mg base (L2.CX P w) (k + 1) f (spF wd n (runDefS true ios ps.length N.length body)) := by
  intro A outer s H us vs Q E hr e0 rv hsp
  obtain ⟨G, as, hlen, hle, ar, l1, hm⟩ := spF_post hsp
  obtain ⟨hnp, hmax, go⟩ := star_start hlen hle.1 ar l1 hm
  have rr := star_reps ar hm
  obtain ⟨oc, od, kV, doc, pm, an, cdv, ct, osl, rfl, lk, hcd⟩ := (FunD.fun F).ex
  obtain ⟨ws, hws⟩ : ∃ ws, ws = vs.take ps.length := ⟨_, rfl⟩
  obtain ⟨rest, hrest⟩ : ∃ rest, rest = vs.drop ps.length := ⟨_, rfl⟩
  have ev : vs = ws ++ rest := by rw [hws, hrest, List.take_append_drop]
  rw [ev] at rv
  obtain ⟨u1, u2, eu, r1, r2⟩ := StX.vals_split rv
  subst eu
  have hn := e0.hok.fresh (Nat.le_refl s.heap.objs.size)
  have hlw : ws.length = ps.length := by rw [hws, List.length_take]; omega
  have hl1 : u1.length = ps.length := by rw [← r1.length]; exact hlw
  have hzr : rest.length ≤ sizeLine := line_of (by rw [hrest, List.length_drop]; omega)
  have hl2 : u2.length ≤ sizeLine := by rw [← r2.length]; exact hzr
  obtain ⟨oD, hoD⟩ : ∃ oD : Obj, oD = { cls := .type "dict", data := .dict #[] } := ⟨_, rfl⟩
  refine StX.run_bnd lk hcd S hr.room e0 (G := fun xs H2 => ∃ p d, H p = Option.none ∧ H d = Option.none ∧ d ≠ p ∧ xs = ws ++ [V.ref p, V.ref d] ∧ H2 = upd (upd H p (.tup rest)) d (.frz oD (.dK []))) (fun A' Ex Q' h => ?_) fun s2 H2 xs ⟨p, d, hp, hd, hne, ex, eH⟩ hr' => ?_
  · rw [hbind kV doc pm an cdv ct u1 u2 hl1]
    refine wpAny_bind (wpAny_newTuple ?_ hl2)
    refine wpAny_bind (wpAny_alloc (wpAny_pure ?_))
    obtain ⟨ob, hob⟩ : ∃ ob : Obj, ob = { cls := .type "tuple", data := .seq u2.toArray } := ⟨_, rfl⟩
    rw [← hob, ← hoD]
    have new : ObjOk P w (upd H s.heap.objs.size (.tup rest)) (s.heap.push ob) s.heap.objs.size (.tup rest) := ⟨hzr, u2, r2, (by subst hob; exact ⟨_, Heap.get?_push_size _ rfl, rfl, _, rfl⟩)⟩
    have e1 := StX.env0_laid e0 new
    have un1 := StX.un_laid (fs := frs outer) (s := s) (o := ob) (u := .tup rest) hn
    have hn2 := e1.hok.fresh (Nat.le_refl _)
    have dkO : ObjOk P w (upd (upd H s.heap.objs.size (.tup rest)) (s.heap.push ob).objs.size (.frz oD (.dK []))) ((s.heap.push ob).push oD) (s.heap.push ob).objs.size (.frz oD (.dK [])) := by
      rw [hoD]
      exact ⟨Heap.get?_push_size _ rfl, dk_empty _ (StX.env0_big e1)⟩
    have e2 := StX.env0_laid (u := .frz oD (.dK [])) (o := oD) e1 dkO
    have un2 := un1.trans (StX.un_laid (fs := frs outer) (s := { s with heap := s.heap.push ob }) (o := oD) (u := .frz oD (.dK [])) hn2)
    have sz : (s.heap.push ob).objs.size = s.heap.objs.size + 1 := Heap.size_push _ _
    have ne : (s.heap.push ob).objs.size ≠ s.heap.objs.size := by
      rw [sz]
      exact Nat.succ_ne_self _
    have hd : H (s.heap.push ob).objs.size = Option.none := e0.hok.fresh (by rw [sz]; exact Nat.le_succ _)
    have z := h _ _ (ws ++ [V.ref s.heap.objs.size, V.ref (s.heap.push ob).objs.size]) (u1 ++ [Value.ref s.heap.objs.size, Value.ref (s.heap.push ob).objs.size]) e2 un2 rfl
      (fun e s' => StX.cxUp outer s H _ _ E e s' un2 (fun b o q => Heap.get?_push_of_some _ (Heap.get?_push_of_some _ q)) rfl) (r1.append (.cons rfl (.cons rfl .nil))) (by rw [List.length_append, List.length_append, hlw] <;> rfl) ⟨_, _, hn, hd, ne, rfl, rfl⟩
    rw [List.zip_append hl1.symm] at z
    exact z
  · subst ex eH
    have g1 : Grow G H (upd G p (.tup rest)) (upd H p (.tup rest)) := Grow.laidG hle.1 hp
    have hd2 : upd H p (.tup rest) d = none := by rw [upd_ne hne]; exact hd
    have g2 := Grow.laidG (o := .frz oD (.dK [])) g1.s hd2
    have g := g1.trans g2
    have rd : Rep wd (upd (upd G p (.tup rest)) d (.frz oD (.dK []))) (.dct false []) (.ref d) := by
      rw [Rep]; exact ⟨d, rfl, .inl ⟨rfl, [], oD, upd_same, by rw [RepK]⟩⟩
    obtain ⟨as2, l2, le2, ar2, hm2⟩ := go _ _ [.ref p, .ref d] g ⟨.ref p, [.ref d], rfl, rep_tup.mpr ⟨p, rest, rfl, .inl (.inl (by rw [upd_ne (Ne.symm hne), upd_same])), by have z := rr.mono g.g; rw [← hrest] at z; exact z⟩, ⟨.ref d, [], rfl, rd, rfl⟩⟩ rr
    rw [← hws] at ar2 hm2
    exact body_ok (hb cdv A outer s2 _ E ⟨hr', hr.gs⟩) (takes_of rfl rfl rfl rfl) (by have := scope_len S; simp at this ⊢; omega) (by simp [hlw]) ⟨le2, hle.2.1.ext g.h g.ot, g.t hle.2.2⟩ ar2 l2 hm2
end
end M
namespace M
open PySem L2

def dcL (t : TF) (c : BF) (fk f : EF) (sl : List Nat) : List Val → List (Val × Val) → Env → DR
  | [], acc, r => .ok acc r
  | v :: vs, acc, r => match t v r with
    | some r1 => match c r1 with
      | .ok true r2 => match frz fk r2 with
        | .ok _ k r3 => match frz f r3 with
          | .ok _ y r4 => match keyOf k with
            | some q => if acc.length < 100000 then dcL t c fk f sl vs (dPut acc q y) (wipeR r4 sl) else .bad
            | none => .bad
          | _ => .bad
        | _ => .bad
      | .ok false r2 => dcL t c fk f sl vs acc (wipeR r2 sl)
      | _ => .bad
    | none => .bad
def dc (fi : IF) (t : TF) (c : BF) (fk f : EF) (sl : List Nat) : EF := fun r => match fi r with
  | .ok vs r1 => match dcL t c fk f sl vs [] (wipeR r1 sl) with
    | .ok ys r2 => .ok true (.dct false ys) (restR r1 r2 sl)
    | _ => .bad
  | .ex e r1 => .ex e r1
  | .bad => .bad
theorem repK_nil0 {w : Wd} {G : Hp} : RepK w G [] [] := by rw [RepK]
theorem root_dK {w : Wd} {G H : Hp} {a : Addr} {ds : List (Val × Val)} {kvs : List (Key × V)} (h : H a = some (.dK kvs)) (q : RepK w G ds kvs) : Root w G H (.dct false ds) a := .inl ⟨rfl, kvs, h, q⟩
theorem dc_of {A : Act} {W : WX} {fi : IF} {t : TF} {c : BF} {fk f : EF} {sl st' : List Nat} {σ : L2.St} {H : Hp} {Q : VK} (tok : TOk st' t) (hs : ∀ j ∈ st', j ∈ sl) (hio : ∀ i ∈ A.io, i ∉ sl) (h : tE A W (dc fi t c fk f sl) σ H Q) :
    tDc (tIt A W fi) (tTg A st' t) (tBo A (fun _ _ _ _ => False) c) (tE A (fun _ _ _ _ => False) (frz fk)) (tE A (fun _ _ _ _ => False) (frz f)) sl σ H Q := by
  obtain ⟨r, G, k, m⟩ := h
  refine ⟨r, G, k, ?_⟩
  unfold dc at m
  cases hf : fi r with
  | bad => rw [hf] at m; exact m.elim
  | ex e r' => rw [hf] at m; exact m
  | ok vs r1 =>
    simp only [hf] at m ⊢
    intro J G1 H1 k1 st1 io D hD
    have gr0 := Grow.laidH (o := .dK []) k1.sub hD
    have kw := (k1.wipe (sl := sl) hio).grow gr0
    let Fl : DR → Prop := fun a => match a with
      | .ok ys r2 => ∀ x G' H', Res A σ r G H (restR r1 r2 sl) G' H' true (.dct false ys) x → Q x H'
      | _ => False
    have m0 : Fl (dcL t c fk f sl vs [] (wipeR r1 sl)) := by
      cases hL : dcL t c fk f sl vs [] (wipeR r1 sl) with
      | ok ys r2 => rw [hL] at m; exact m
      | ex e r2 => rw [hL] at m; exact m
      | bad => rw [hL] at m; exact m
    refine ⟨fun i n H' => ∃ r' G' acc ds, i ≤ vs.length ∧ n = vs.length - i ∧ Ok A G' H' (wipe σ sl) r' ∧ Step (wipe σ sl) (wipeR r1 sl) G1 H1 r' G' H' ∧ H' D = some (.dK acc) ∧ RepK A.w G' ds acc ∧ G' D = none ∧ ¬ Rt H' r' (wipe σ sl) D ∧ Fl (dcL t c fk f sl (vs.drop i) ds r'),
      ⟨vs.length, wipeR r1 sl, G1, [], [], Nat.zero_le _, rfl, kw, gr0.step (k1.wipe (sl := sl) hio), upd_same, repK_nil0, k1.sub.back hD, fun z => (k1.wipe (sl := sl) hio).notRt hD (((k1.wipe (sl := sl) hio).rtK (Ok.growK gr0) D).mp z), by simpa using m0⟩, ?_⟩
    rintro i n H2 ⟨r2, G2, acc, ds, hi, hn, k2, st2, hacc, hreps, hGD, hnr, hFl⟩
    have lD : A.L D ∨ A.H0 D = none := k1.fresh hD
    by_cases hlt : i < vs.length
    · refine .inr ⟨io.go G2 H2 i st2.ex k2.sub hlt, fun H' => ∃ r' G' acc ds, Ok A G' H' (wipe σ sl) r' ∧ Step (wipe σ sl) (wipeR r1 sl) G1 H1 r' G' H' ∧ H' D = some (.dK acc) ∧ RepK A.w G' ds acc ∧ G' D = none ∧ ¬ Rt H' r' (wipe σ sl) D ∧ Fl (dcL t c fk f sl (vs.drop (i + 1)) ds r'),
        fun H' ⟨r', G', acc, ds, q⟩ => ⟨vs.length - (i + 1), by omega, r', G', acc, ds, hlt, rfl, q⟩, fun x H3 hy => ?_⟩
      have ev : vs[i]? = some vs[i] := by simp [hlt]
      obtain ⟨G3, gr, rp⟩ := io.yld G2 H2 i vs[i] x H3 st2.ex k2.sub ev hy
      refine ⟨r2, G3, vs[i], k2.grow gr, rp, ?_⟩
      rw [List.drop_eq_getElem_cons hlt, dcL] at hFl
      cases ht : t vs[i] r2 with
      | none => simp only [ht] at hFl; exact hFl.elim
      | some r3 =>
        simp only [ht] at hFl ⊢
        intro σ2 k3 hj hl
        have hw := wipe_eq (σ := σ) (σ2 := σ2) hs hj hl
        obtain ⟨tk1, tk2⟩ := tok _ _ _ ht
        have rt3 : ∀ a, Rt H3 r3 σ2 a → Rt H2 r2 (wipe σ sl) a := fun a ⟨j, w, b, h1, h2, h3⟩ => by
          by_cases q : j ∈ st'
          · exact absurd h1 (tk2 j q w)
          · exact (k2.rtK (Ok.growK gr) a).mp ⟨j, w, b, by rw [← tk1 j q]; exact h1, by rw [← hj j q]; exact h2, h3⟩
        have hacc3 : H3 D = some (.dK acc) := gr.h _ _ hacc
        have hGD3 : G3 D = none := gr.non0 hGD hacc
        have st3 := st2.trans (gr.step k2)
        have rt3b : ∀ a, Rt H3 r3 σ2 a → Rt H3 r2 (wipe σ sl) a := fun a h => (k2.rtK (Ok.growK gr) a).mpr (rt3 a h)
        -- from the target's state to the block's
        have conv : ∀ {r4 : Env} {G4 H4 : Hp}, Ok A G4 H4 σ2 r4 → Step σ2 r3 G3 H3 r4 G4 H4 → Ok A G4 H4 (wipe σ sl) (wipeR r4 sl) ∧ Step (wipe σ sl) (wipeR r1 sl) G1 H1 (wipeR r4 sl) G4 H4 ∧ H4 D = some (.dK acc) ∧ G4 D = none ∧ ¬ Rt H4 (wipeR r4 sl) (wipe σ sl) D := fun {r4 G4 H4} k4 st4 => by
          have rt4 : ∀ a, Rt H4 (wipeR r4 sl) (wipe σ sl) a → Rt H3 r3 σ2 a ∨ H3 a = none := fun a h => st4.rts a (by rw [← hw] at h; exact rt_wipe h)
          refine ⟨?_, st3.trans ⟨st4.ex, fun a o h n => st4.keep a o h fun z => n (rt3b a z), fun a h h' => (st4.grow a h h').imp id (rt3b a), fun a h => (rt4 a h).imp (rt3b a) id⟩, st4.keep D _ hacc3 fun z => hnr (rt3 D z), ?_, fun z => ?_⟩
          · have := k4.wipe (sl := sl) hio
            rw [hw] at this; exact this
          · cases z : G4 D with
            | none => rfl
            | some o =>
              rcases st4.grow D hGD3 (by rw [z]; simp) with y | y
              · rw [hacc3] at y; cases y
              · exact absurd (rt3 D y) hnr
          · rcases rt4 D z with y | y
            · exact hnr (rt3 D y)
            · rw [hacc3] at y; cases y
        refine ⟨hw, r3, G3, k3, ?_⟩
        cases hc : c r3 with
        | bad => simp only [hc] at hFl; exact hFl.elim
        | ex e r4 => simp only [hc] at hFl; exact hFl.elim
        | ok b r4 =>
          simp only [hc] at hFl ⊢
          intro G4 H4 k4 st4
          cases b with
          | false =>
            simp only [Bool.false_eq_true, if_false]
            obtain ⟨c1, c2, c3, c4, c5⟩ := conv k4 st4
            exact ⟨_, G4, acc, ds, c1, c2, c3, hreps.mono (gr.g.trans st4.ex), c4, c5, hFl⟩
          | true =>
            simp only [if_true] at hFl ⊢
            refine ⟨r4, G4, k4, ?_⟩
            cases hk : frz fk r4 with
            | bad => simp only [hk] at hFl; exact hFl.elim
            | ex e r5 => simp only [hk] at hFl; exact hFl.elim
            | ok ok' kd rk =>
              have eo := frz_false hk
              subst eo
              simp only [hk] at hFl ⊢
              intro yk Gk Hk Rk
              refine ⟨rk, Gk, Rk.ok, ?_⟩
              cases he : frz f rk with
              | bad => simp only [he] at hFl; exact hFl.elim
              | ex e r5 => simp only [he] at hFl; exact hFl.elim
              | ok o y r5 =>
                have eo := frz_false he
                subst eo
                simp only [he] at hFl ⊢
                intro y' G5 H5 R5
                cases hq : keyOf kd with
                | none => simp only [hq] at hFl; exact hFl.elim
                | some q =>
                  simp only [hq] at hFl
                  by_cases hz : ds.length < 100000
                  case neg => rw [if_neg hz] at hFl; exact hFl.elim
                  rw [if_pos hz] at hFl
                  obtain ⟨c1, c2, c3, c4, c5⟩ := conv R5.ok ((st4.trans Rk.st).trans R5.st)
                  have le5 : Le G2 G5 := (gr.g.trans (st4.ex.trans Rk.st.ex)).trans R5.st.ex
                  obtain ⟨ekv, hb⟩ := rrep_key (H := Hk) (.inl (show Rep A.w Gk kd yk from Rk.tr)) hq
                  refine ⟨acc, q, ekv, c3, by rw [← repK_length hreps]; exact Nat.lt_of_lt_of_le hz (by decide), _, G5, putK acc q y', dPut ds q y, c1.tmp c4 (.inr ⟨_, c3, True.intro⟩) c5 lD, ⟨c2.ex, fun a o h nn => ?_, c2.grow, fun a h => c2.rts a ((c1.tmpR c5 a).mp h)⟩, upd_same, repK_put (hreps.mono le5) hb R5.tr, c4, fun z => c5 ((c1.tmpR c5 D).mp z), hFl⟩
                  have ne : a ≠ D := fun z => by subst z; rw [hD] at h; cases h
                  rw [upd_ne ne]; exact c2.keep a o h nn
    · have e : i = vs.length := by omega
      subst e
      rw [List.drop_length, dcL] at hFl
      obtain ⟨k3, st3⟩ := k1.unwipe k2 st2
      refine .inl ⟨io.stop G2 H2 _ st2.ex k2.sub (Nat.le_refl _), ?_⟩
      refine hFl (.ref D) G2 H2 ⟨k3, st1.trans st3, trep_t (root_dK hacc hreps) hGD ?_ lD, fr_one (st1.fresh hD)⟩
      exact k1.unwipeD st2 hD hnr
section
variable {X : Cx} {A : Act} {W : WX} {kx vx tg iter : Expr} {ifs : List Expr} {scope : Scope} {own : List (Str × Nat)} {pos : Pos} {fi : IF} {t : TF} {c : BF} {fk f : EF} {st' sl : List Nat}
theorem pe_dcM (hc : X.calm = true) (hN : X.N.Nodup) (hi : PI X tg iter (tIt A W fi)) (ok : BlkOk X.N X.env.scope scope own)
    (hg : ∀ (s : Shared) (H : Hp) (C : Addr) (cl : List (Str × Addr)) (fp : List Addr), PG (X.blk s H scope (compEnvC scope cl C X.env) fp) tg (tTg A st' t))
    (ht : ∀ (s : Shared) (H : Hp) (C : Addr) (cl : List (Str × Addr)) (fp : List Addr), PTs (X.blk s H scope (compEnvC scope cl C X.env) fp) ifs (tBo A W0 c))
    (hk : ∀ (s : Shared) (H : Hp) (C : Addr) (cl : List (Str × Addr)) (fp : List Addr), PE (X.blk s H scope (compEnvC scope cl C X.env) fp) kx (tE A W0 fk))
    (he : ∀ (s : Shared) (H : Hp) (C : Addr) (cl : List (Str × Addr)) (fp : List Addr), PE (X.blk s H scope (compEnvC scope cl C X.env) fp) vx (tE A W0 f))
    (tok : TOk st' t) (hs' : ∀ j ∈ st', j ∈ sl) (hio : ∀ i ∈ A.io, i ∉ sl) (hsl : own.map (·.2) = sl := by rfl) (hs : ∀ x, foldedSetIterable iter X.env x = pure x := by intro _; rfl) :
    PE X (.DictComp kx vx [⟨tg, iter, ifs, 0⟩] scope pos) (tE A W (dc fi t c fk f sl)) := by
  subst hsl
  exact PE.imp (pe_dc hc hN hi ok hg ht (fun s H C cl fp => pe_frz (hk s H C cl fp)) (fun s H C cl fp => pe_frz (he s H C cl fp)) hs) fun _ _ _ q => dc_of tok hs' hio q
end
def pairsOf (kvs : List (Val × Val)) : List Val := kvs.map fun p => .tup [p.1, p.2]
def itI (f : EF) : IF := fun r => match frz f r with
  | .ok _ (.dct false kvs) r' => .ok (pairsOf kvs) r'
  | .ok _ _ _ => .bad
  | .ex e r' => .ex e r'
  | .bad => .bad
def itVs (f : EF) : IF := fun r => match frz f r with
  | .ok _ (.dct false kvs) r' => .ok (kvs.map (·.2)) r'
  | .ok _ _ _ => .bad
  | .ex e r' => .ex e r'
  | .bad => .bad
theorem rep_two {w : Wd} {G : Hp} {u v : Val} {x y : V} {p : Addr} (h : G p = some (.tup [x, y])) (hu : Rep w G u x) (hv : Rep w G v y) : Rep w G (.tup [u, v]) (.ref p) :=
  rep_tup.mpr ⟨p, [x, y], rfl, .inl (.inl h), reps_cons.mpr ⟨x, [y], rfl, hu, reps_one hv⟩⟩
section
variable {w : Wd} {K : PySem.W.Frag} {G H : Hp}
theorem itok_items {a : Addr} {o : Obj} {ds : List (Val × Val)} {kvs : List (Key × V)} (h : G a = some (.frz o (.dK kvs))) (r : RepK w G ds kvs) : ItOk w (Iti a o kvs) G (pairsOf ds) where
  go := fun G' H i le le' hi => ⟨le' _ _ (le _ _ h), by rw [← repK_length r]; simpa [pairsOf] using hi⟩
  stop := fun G' H i le le' hi => ⟨le' _ _ (le _ _ h), by rw [← repK_length r]; simpa [pairsOf] using hi⟩
  yld := fun G' H i v x H' le le' hv ⟨T, q, y, hk, hx, hT, e⟩ => by
    subst e
    subst hx
    obtain ⟨d, h1, h2, h3⟩ := repK_at r hk
    simp only [pairsOf, List.getElem?_map, h1, Option.map_some, Option.some.injEq] at hv
    subst hv
    have g := Grow.laidG (o := .tup [kV q, y]) le' hT
    exact ⟨_, g, rep_two upd_same ((rep_kv h2).mono g.g) ((h3.mono le).mono g.g)⟩
/-- i, x for the i-th x -/
def enumV (vs : List Val) : List Val := vs.mapIdx fun i v => .tup [.int (i : Nat), v]
theorem itok_enumL {a : Addr} {ds : List Val} {xs : List V} (h : SqL K G a xs) (r : Reps w G ds xs) : ItOk w (Ite K a) G (enumV ds) where
  go := fun G' H i le le' hi => by
    have hl := reps_length r
    have : i < xs.length := by rw [← hl]; simpa [enumV] using hi
    exact ⟨xs, xs[i], sql_mono (le.trans le') h, by simp [this]⟩
  stop := fun G' H i le le' hi => ⟨xs, sql_mono (le.trans le') h, by rw [← reps_length r]; simpa [enumV] using hi⟩
  yld := fun G' H i v x H' le le' hv ⟨T, y, hx, hT, e, hy⟩ => by
    subst e
    subst hx
    have hy' := hy xs (sql_mono (le.trans le') h)
    obtain ⟨d, h1, h2⟩ := reps_get' r hy'
    simp only [enumV, List.getElem?_mapIdx, h1, Option.map_some, Option.some.injEq] at hv
    subst hv
    have g := Grow.laidG (o := .tup [.int (i : Nat), y]) le' hT
    exact ⟨_, g, rep_two upd_same (rep_int.mpr rfl) ((h2.mono le).mono g.g)⟩
end
section
variable {X : Cx} {A : Act} {W : WX} {e : Expr} {f : EF} {apos cpos tpos : Pos} {elts : List Expr} {kk : Nat} {tg : Expr}
theorem itI_of {Iz : Addr → Obj → List (Key × V) → It} {vf : List (Val × Val) → List Val} {g : IF} {σ : L2.St} {H : Hp} {R : It → Hp → Prop}
    (hok : ∀ {G : Hp} {a : Addr} {o : Obj} {ds : List (Val × Val)} {kvs : List (Key × V)}, G a = some (.frz o (.dK kvs)) → RepK A.w G ds kvs → ItOk A.w (Iz a o kvs) G (vf ds))
    (hg : ∀ r, g r = match frz f r with
      | .ok _ (.dct false kvs) r' => .ok (vf kvs) r'
      | .ok _ _ _ => .bad
      | .ex e r' => .ex e r'
      | .bad => .bad) (h : tIt A W g σ H R) : tE A W (frz f) σ H fun x H1 => ∃ d o kvs, x = .ref d ∧ H1 d = some (.frz o (.dK kvs)) ∧ R (Iz d o kvs) H1 := by
  obtain ⟨r, G, k, m⟩ := h
  refine ⟨r, G, k, ?_⟩
  rw [hg] at m
  cases hf : frz f r with
  | bad => simp only [hf] at m
  | ex e r' => simp only [hf] at m ⊢; exact m
  | ok o v r' =>
    have eo := frz_false hf
    subst eo
    simp only [hf] at m ⊢
    intro x G1 H1 R1
    have rp : Rep A.w G1 v x := R1.tr
    cases v with
    | dct t ds =>
      cases t with
      | true => simp only at m
      | false =>
        simp only at m
        rw [Rep] at rp
        obtain ⟨a, rfl, ⟨_, kvs, o, h, rk⟩ | ⟨ht, _⟩⟩ := rp
        · exact ⟨a, o, kvs, rfl, R1.ok.sub _ _ h, m _ G1 H1 R1.ok R1.st (hok h rk)⟩
        · cases ht
    | _ => simp only at m
theorem pi_I (he : PE X e (tE A W f)) (hbase : AsItIs X e "items" := by rfl) (hline : (apos.endLine == cpos.line) = true := by rfl) :
    PI X (.Tuple elts kk tpos) (.Call (.Attribute e "items" apos) [] [] cpos) (tIt A W (itI f)) :=
  PI.imp (pi_items (pe_frz he) hbase hline) fun σ H R h => itI_of (Iz := Iti) itok_items (fun r => by unfold itI; rfl) h
end
end M
namespace PySem
open Sem (wp)
/-- what enumerate(v) makes beside v's iterator -/
abbrev enumCell (it : Addr) : Obj := { cls := .type "enumerate", data := .fields #[.none, .bool false, .ref it, rawInt 0, .none, .none] }
set_option maxHeartbeats 1000000 in
theorem enum_new {v : Value} {o : Obj} {C : Heap → Prop} (B : Begins v o C) :
    Meets (Builtin.«enumerate.__new__» ⟨[.type "enumerate", v], []⟩) (fun _ R s => C s.heap ∧ R (.ok (.ret (.ref (s.heap.push o).objs.size))) { s with heap := (s.heap.push o).push (enumCell s.heap.objs.size) }) :=
  .of_wp fun prog w A R s given => by
    have sub := sub_enumerate
    rcases s with ⟨hp, ge, dr, tk, os⟩
    obtain ⟨c, r⟩ := given
    have starts : ∀ {A2 : Around} {E2 Q2 : Value → Shared → Prop}, Q2 (.ref hp.objs.size) ⟨hp.push o, ge, dr, tk, os⟩ → wpAny (model prog w) A2 (pyIter v) Q2 E2 ⟨hp, ge, dr, tk, os⟩ := fun {A2 E2 Q2} q => B.iter prog w A2 E2 _ Q2 c q
    wp_walk using starts
    refine wpAny_stack_any fun frames => wpAny_pure ?_
    have rest : ∃ v', (Fin.done (Flow.ret (.ref (hp.push o).objs.size)) : Fin) = .done (.ret v') ∧ R (.ok (.ret v')) _ := ⟨_, rfl, r⟩
    split
    · rename_i cl _ _ _ _ _
      by_cases own : (cl == Value.type "enumerate") = true <;> simp only [own] <;> wp_walk using starts <;> exact rest
    · wp_walk using starts
      exact rest
theorem enum_starts {prog : Program} {w : World} {A : Around} {E : Value → Shared → Prop} {s : Shared} {v : Value} {o : Obj} {C : Heap → Prop} {Q : Value → Shared → Prop} (B : Begins v o C) (c : C s.heap)
    (then_ : ∀ g, IsEnum g (s.heap.objs.size + 1) s.heap.objs.size 0 .none → g.get? s.heap.objs.size = some o → g.objs.size = s.heap.objs.size + 2 → (∀ b u, s.heap.get? b = some u → g.get? b = some u) →
      Q (.ref (s.heap.objs.size + 1)) { s with heap := g }) : wpAny (model prog w) A (call (.type "enumerate") [v]) Q E s := by
  have one : (s.heap.push o).objs.size = s.heap.objs.size + 1 := by rw [Heap.size_push]
  have cell : ((s.heap.push o).push (enumCell s.heap.objs.size)).get? (s.heap.objs.size + 1) = some (enumCell s.heap.objs.size) := one ▸ Heap.get?_push_size _ rfl
  refine callType_new F.called_enumerate (by decide) (F.typeCall_enumerate_1 v) (F.newCall_enumerate_1 v) (fun x => F.args_object_init_2 x v) F.entry_enumerate_new (enum_new B) ⟨c, ?_⟩
  refine ⟨⟨_, one ▸ cell, rfl⟩, ?_⟩
  rw [one]
  refine then_ _ cell ?_ ?_ fun b u e => ?_
  · exact Heap.get?_push_of_some _ (Heap.get?_push_size _ B.free)
  · rw [Heap.size_push, one]
  · exact Heap.get?_push_of_some _ (Heap.get?_push_of_some _ e)
/-- a tuple's iterator behind the last place -/
theorem draws_past {prog : Program} {w : World} {A : Around} (calm : A.handled = none) {it t : Addr} {items : Array Value} {i : Nat} (past : items.size ≤ i) (ne : t ≠ it) :
    Draws prog w A it [it, t] i (fun _ _ => True) (fun j h => j = i ∧ h.IsTupleIter it t i ∧ h.IsTuple t items) where
  live := fun _ _ st => (Draws.tuple (prog := prog) (w := w) calm it t ne items).live i _ st.2
  frame := fun _ _ _ st k => ⟨st.1, (Draws.tuple (prog := prog) (w := w) calm it t ne items).frame i _ _ st.2 k⟩
  item := fun _ _ _ _ lt st _ => absurd st.1 (Nat.ne_of_lt lt)
  done := fun _ _ _ st e => wpAny_nextOf_tuple_end calm st.2.1 st.2.2 (by simpa using past) e
end PySem
namespace M
open PySem L2
/-- what an enumerate over the tuple at a yields -/
def IteT (K : PySem.W.Frag) (a : Addr) : It :=
  ⟨fun i H => ∃ (xs : List V) (x : V), SqT K H a xs ∧ xs[i]? = some x, fun i H v H' => ∃ T x, v = .ref T ∧ H T = none ∧ H' = upd H T (.tup [.int (i : Nat), x]) ∧ ∀ xs, SqT K H a xs → xs[i]? = some x, fun i H => ∃ xs : List V, SqT K H a xs ∧ xs.length ≤ i⟩
theorem turn_enumT {P : Program} {w : World} {K : PySem.W.Frag} {elts : List Expr} {kk : Nat} {tpos : Pos} (a e it : Addr) :
    Turn P w K (.Tuple elts kk tpos) (IteT K a) [e, it] e (fun i h => (∃ old, IsEnum h e it ((i : Nat) : Int) old) ∧ h.IsTupleIter it a i ∧ e ≠ it ∧ a ≠ it ∧ a ≠ e) where
  mem := List.mem_cons_self ..
  obj := fun i h st b hb => by
    obtain ⟨⟨_, en⟩, ⟨o, at_, _, da⟩, _⟩ := st
    rcases List.mem_cons.mp hb with rfl | hb
    · exact ⟨_, en, fun _ q => nomatch q⟩
    · rw [List.mem_singleton.mp hb]
      exact ⟨o, at_, fun _ q => by rw [da] at q; cases q⟩
  keep := fun i h h' st k => ⟨st.1.imp fun _ en => k e (List.mem_cons_self ..) _ en, st.2.1.at fun o q => k it (List.mem_cons_of_mem _ (List.mem_singleton.mpr rfl)) o q, st.2.2⟩
  item := by
    intro X eP ew eK calm i pins s σ H E I fp st go
    subst eP ew eK
    obtain ⟨en, ti, n1, n2, n3⟩ := st
    obtain ⟨xs, x, sq, at_⟩ := go
    obtain ⟨its, rel, tup, _⟩ := I.tuple sq
    obtain ⟨u, hu, ru⟩ := rel.get at_
    have hu2 : its.toArray[i]? = some u := by simpa using hu
    have Wk := WalksT.enumerateD (Draws.tuple (prog := X.prog) (w := X.w) (A := X.A.in1) (I.ok.hd calm) it a n2 its.toArray) e n1 (by simpa using ⟨n1, n3.symm⟩) (List.mem_cons_self ..)
    refine Wk.item i s _ E (Array.getElem?_eq_some_iff.mp hu2).1 ⟨en, ti, tup⟩ fun T vals h1 tk drawn new tupT mid kept => ?_
    obtain ⟨tk2, u2, hu3, rfl⟩ := drawn
    obtain rfl : u2 = u := Option.some.inj (hu3.symm.trans hu2)
    refine ⟨.ref T, rfl, Wk.go elts kk tpos i T { s with heap := h1, toks := tk } _ E mid fun h2 st2 kept2 => ?_⟩
    have out := Wk.apart i T h1 mid
    obtain ⟨o, oAt, oIs⟩ := tupT
    have I2 : Inv X pins σ (upd H T (.tup [.int (i : Nat), x])) { s with heap := h2, toks := tk } :=
      I.turnedNew (ch := [e, it]) (fun b o hb q => kept2 b o hb (kept b o hb q)) fp new ⟨by show 2 ≤ sizeLine; decide, [.int i tk2, u2], .cons ⟨_, rfl⟩ (.cons ru .nil), o, kept2 T o out oAt, oIs⟩
    refine ⟨.ref T, _, I2, rfl, ⟨T, x, rfl, I.hok.fresh new, rfl, fun ys hy => ?_⟩, ⟨?_, st2.2.1, n1, n2, n3⟩, fun b hb => ?_⟩
    · rw [I.tuple_inj hy sq]; exact at_
    · exact st2.1
    · rw [upd_ne fun z => out (by subst z; exact hb)]; exact (fp b hb).1
  done := by
    intro X eP ew eK calm i pins s σ H E I fp st stop
    subst eP ew eK
    obtain ⟨⟨_, en⟩, ti, _, n2, _⟩ := st
    obtain ⟨xs, sq, past⟩ := stop
    obtain ⟨its, rel, tup, _⟩ := I.tuple sq
    have few : its.toArray.size ≤ i := by rw [List.size_toArray, ← rel.length]; exact past
    obtain ⟨f0, f1, _, f3, f4, f5⟩ := fp it (List.mem_cons_of_mem _ (List.mem_singleton.mpr rfl))
    exact wpAny_pyNext_enum_endD (draws_past (A := X.A.in1) (I.ok.hd calm) few n2) en ⟨rfl, ti, tup⟩ fun h' kept => ⟨rfl, I.turned (t' := s.toks) kept f0 f1 f3 f4 f5⟩
  self := fun A i s Q E st q => st.1.elim fun _ en => wpAny_pyIter_enum en q
section
variable {w : Wd} {K : PySem.W.Frag} {G : Hp}
theorem itok_enumT {a : Addr} {ds : List Val} {xs : List V} (h : SqT K G a xs) (r : Reps w G ds xs) : ItOk w (IteT K a) G (enumV ds) where
  go := fun G' H i le le' hi => by
    have hl := reps_length r
    have : i < xs.length := by rw [← hl]; simpa [enumV] using hi
    exact ⟨xs, xs[i], sqt_mono (le.trans le') h, by simp [this]⟩
  stop := fun G' H i le le' hi => ⟨xs, sqt_mono (le.trans le') h, by rw [← reps_length r]; simpa [enumV] using hi⟩
  yld := fun G' H i v x H' le le' hv ⟨T, y, hx, hT, e, hy⟩ => by
    subst e
    subst hx
    have hy' := hy xs (sqt_mono (le.trans le') h)
    obtain ⟨d, h1, h2⟩ := reps_get' r hy'
    simp only [enumV, List.getElem?_mapIdx, h1, Option.map_some, Option.some.injEq] at hv
    subst hv
    have g := Grow.laidG (o := .tup [.int (i : Nat), y]) le' hT
    exact ⟨_, g, rep_two upd_same (rep_int.mpr rfl) ((h2.mono le).mono g.g)⟩
end
def itE (f : EF) : IF := fun r => match frz f r with
  | .ok _ (.lst vs) r' => .ok (enumV vs) r'
  | .ok _ (.tup vs) r' => .ok (enumV vs) r'
  | .ok _ _ _ => .bad
  | .ex e r' => .ex e r'
  | .bad => .bad
section
variable {X : Cx} {A : Act} {W : WX} {e : Expr} {f : EF} {p pos tpos : Pos} {elts : List Expr} {kk : Nat}
theorem pi_E (hw : A.w.K = X.K) (hg : Gl X "enumerate") (hm : X.mg "enumerate" = none) (he : PE X e (tE A W f)) (hs : starEach [e] X.env = [(false, eval e X.env)] := by rfl) :
    PI X (.Tuple elts kk tpos) (.Call (.Name "enumerate" p) [e] [] pos) (tIt A W (itE f)) := by
  refine ⟨fun pins s σ H R I h => ?_⟩
  have h2 : tE A W (frz f) σ H fun x H1 => ∃ J, R J H1 ∧ ((∃ a xs, x = .ref a ∧ J = Ite X.K a ∧ SqL X.K H1 a xs) ∨ ∃ a xs, x = .ref a ∧ J = IteT X.K a ∧ SqT X.K H1 a xs) := by
    obtain ⟨r, G, k, m⟩ := h
    refine ⟨r, G, k, ?_⟩
    unfold itE at m
    cases hf : frz f r with
    | bad => simp only [hf] at m
    | ex e r' => simp only [hf] at m ⊢; exact m
    | ok o v r' =>
      have eo := frz_false hf
      subst eo
      simp only [hf] at m ⊢
      intro x G1 H1 R1
      have rp : Rep A.w G1 v x := R1.tr
      have le := R1.ok.sub
      cases v with
      | lst vs =>
        simp only at m
        obtain ⟨a, xs, rfl, h, rs⟩ := rep_lst.mp rp
        exact ⟨_, m _ G1 H1 R1.ok R1.st (itok_enumL (K := X.K) (.inl (.inl h)) rs), .inl ⟨a, xs, rfl, rfl, .inl (.inl (le _ _ h))⟩⟩
      | tup vs =>
        simp only at m
        obtain ⟨a, xs, rfl, h, rs⟩ := rep_tup.mp rp
        rw [hw] at h
        exact ⟨_, m _ G1 H1 R1.ok R1.st (itok_enumT h rs), .inr ⟨a, xs, rfl, rfl, sqt_mono le h⟩⟩
      | _ => simp only at m
  have pa : PA X [e] (fun σ H Q => tE A W (frz f) σ H fun x H1 => Q [x] H1) := ⟨fun pos pins s σ H Q I h => (pa_cons (pe_frz he) pa_nil hs).run pos pins s σ H Q I h⟩
  refine PyProof.Rows.Call_ (ld_blt I hg hm (show bootBuiltins "enumerate" = some (.type "enumerate") by decide +kernel) (PyProof.Rows.callWith_type1 (thn (pa.run pos pins s σ H (fun vs H1 => ∃ x, vs = [x] ∧ ∃ J, R J H1 ∧ ((∃ a xs, x = .ref a ∧ J = Ite X.K a ∧ SqL X.K H1 a xs) ∨ ∃ a xs, x = .ref a ∧ J = IteT X.K a ∧ SqT X.K H1 a xs)) I (by
    obtain ⟨r, G, k, m⟩ := h2
    refine ⟨r, G, k, ?_⟩
    cases hf : frz f r with
    | bad => rw [hf] at m; exact m.elim
    | ex e r' => rw [hf] at m; exact m
    | ok o v r' => rw [hf] at m; exact fun x G' H' R' => ⟨x, rfl, m x G' H' R'⟩)) fun us s1 ⟨vs, H1, I1, r1, x, ev, J, hR, hx⟩ => ?_) hs rfl))
  subst ev
  cases r1 with
  | cons r rr =>
    cases rr
    have foot : ∀ {h' : Heap}, h'.objs.size = s1.heap.objs.size + 2 → ∀ b ∈ [s1.heap.objs.size + 1, s1.heap.objs.size], s1.heap.objs.size ≤ b := fun {h'} _ b hb => by
      have e' : b = s1.heap.objs.size + 1 ∨ b = s1.heap.objs.size := by simpa using hb
      rcases e' with z | z <;> omega
    rcases hx with ⟨a, xs, rfl, rfl, hq⟩ | ⟨a, xs, rfl, rfl, hq⟩
    · cases r
      obtain ⟨its, rv, p', hz⟩ := I1.list hq
      refine PySem.enum_starts (begins_list a its.toArray) p'.isList fun h' he hit hsz hk => wpAny_pyIter_enum he ?_
      have I2 : Inv X pins σ H1 { s1 with heap := h' } := I1.kept (t' := s1.toks) hk
      exact ⟨s1.heap.objs.size + 1, [s1.heap.objs.size + 1, s1.heap.objs.size], _, _, H1, rfl, I2, turn_enum a (s1.heap.objs.size + 1) s1.heap.objs.size, ⟨⟨.none, he⟩, ⟨_, hit, rfl, rfl⟩, Nat.succ_ne_self _⟩, fun b hb => I1.fpOk (foot hsz b hb) (I1.hok.fresh (foot hsz b hb)), hR⟩
    · cases r
      obtain ⟨its, rv, p', hz⟩ := I1.tuple hq
      have la : a < s1.heap.objs.size := by obtain ⟨o, ho, _⟩ := p'; exact Heap.lt_size ho
      refine PySem.enum_starts (begins_tuple a its.toArray) p' fun h' he hit hsz hk => wpAny_pyIter_enum he ?_
      have I2 : Inv X pins σ H1 { s1 with heap := h' } := I1.kept (t' := s1.toks) hk
      exact ⟨s1.heap.objs.size + 1, [s1.heap.objs.size + 1, s1.heap.objs.size], _, _, H1, rfl, I2, turn_enumT a (s1.heap.objs.size + 1) s1.heap.objs.size, ⟨⟨.none, he⟩, ⟨_, hit, rfl, rfl⟩, Nat.succ_ne_self _, Nat.ne_of_lt la, Nat.ne_of_lt (Nat.lt_succ_of_lt la)⟩, fun b hb => I1.fpOk (foot hsz b hb) (I1.hok.fresh (foot hsz b hb)), hR⟩
end
end M
namespace M
open PySem L2

def Pdget : List Val → Option (Bool × Val)
  | [.dct false ds, k, .tup d] => (keyOf k).map fun q => (false, (dGet ds q).getD (.tup d))
  | [.dct false ds, k, .non] => (keyOf k).map fun q => (false, (dGet ds q).getD .non)
  | [.dct false ds, k, .int i] => (keyOf k).map fun q => (false, (dGet ds q).getD (.int i))
  | [.dct false ds, k] => (keyOf k).map fun q => (false, (dGet ds q).getD .non)
  | _ => none
theorem mtp_dget {X : Cx} {w : Wd} (c : Cal X w) : MtP X w "dict.get" Pdget := by
  intro pins s σ H x xs v us Q I rx rxs ⟨G, vs, o, z, le, rr, hp, q⟩
  have hu : X.A.units + 1 < cLine := by have := c.un; omega
  have two : ∀ {ds : List (Val × Val)} {k d : Val}, vs = [.dct false ds, k, d] → (∀ y, RRep w G H d y → Rep w G d y) → (keyOf k).map (fun q => (false, (dGet ds q).getD d)) = some (o, z) → EP X pins σ Q (.ref 0) s ∨ True → wpAny (model X.prog X.w) X.A (call (.builtin "dict.get") (v :: us)) (fun u s' => EP X pins σ Q u s') X.xe s := by
    intro ds k d e hd hq _
    subst e
    rw [Option.map_eq_some_iff] at hq
    obtain ⟨qk, hk, e⟩ := hq
    cases e
    obtain ⟨y1, ys, e, r1, r2⟩ := rr
    cases e
    obtain ⟨y2, ys, e, r2, r3⟩ := r2
    cases e
    obtain ⟨y3, ys, e, r3, r4⟩ := r3
    cases e
    obtain rfl := r4
    obtain ⟨rfl, _⟩ := rrep_key r2 hk
    obtain ⟨a, rfl, ⟨_, kvs, h, rk⟩ | ⟨ht, _⟩⟩ := rrep_dct le r1
    · obtain ⟨u1, u2, rfl, g1, g2⟩ := rxs.two
      cases (show v = Value.ref a from rx)
      have g : DGet H a (kV qk) (valV kvs qk) := .inl ⟨kvs, qk, h, rfl, rfl⟩
      refine d_get2 hu I g g1 g2 fun w' s3 I3 rw' => ⟨_, H, I3, rw', ?_⟩
      obtain ⟨h1, h2⟩ := repK_get (w := w) (G := G) qk rk
      cases e : dGet ds qk with
      | none => rw [h2 e]; rw [e] at q; exact q _ G H (Grow.refl le) (nrep_f (hd _ r3))
      | some d' => obtain ⟨b, e1, rb⟩ := h1 _ e; rw [e1]; rw [e] at q; exact q _ G H (Grow.refl le) (nrep_f rb)
    · cases ht
  unfold Pdget at hp
  split at hp
  · exact two rfl (fun y r => r.elim id fun ⟨_, _, z⟩ => z.elim) hp (.inr trivial)
  · exact two rfl (fun y r => r.elim id fun ⟨_, _, z⟩ => z.elim) hp (.inr trivial)
  · exact two rfl (fun y r => r.elim id fun ⟨_, _, z⟩ => z.elim) hp (.inr trivial)
  · rw [Option.map_eq_some_iff] at hp
    obtain ⟨qk, hk, e⟩ := hp
    cases e
    obtain ⟨_, _, e, r1, r2⟩ := rreps_two rr
    cases e
    obtain ⟨rfl, _⟩ := rrep_key r2 hk
    obtain ⟨a, rfl, ⟨_, kvs, h, rk⟩ | ⟨ht, _⟩⟩ := rrep_dct le r1
    · obtain ⟨u1, rfl, g1⟩ := vals1 rxs
      cases (show v = Value.ref a from rx)
      have g : DGet H a (kV qk) (valV kvs qk) := .inl ⟨kvs, qk, h, rfl, rfl⟩
      refine d_get1 hu I g g1 fun w' s3 I3 rw' => ⟨_, H, I3, rw', ?_⟩
      obtain ⟨h1, h2⟩ := repK_get (w := w) (G := G) qk rk
      cases e : dGet _ qk with
      | none => rw [h2 e]; rw [e] at q; exact q _ G H (Grow.refl le) (nrep_f (rep_non.mpr rfl))
      | some d' => obtain ⟨b, e1, rb⟩ := h1 _ e; rw [e1]; rw [e] at q; exact q _ G H (Grow.refl le) (nrep_f rb)
    · cases ht
  · cases hp

def sle (a b : Str) : Bool := !Spec.ltCps b.cps.toList a.cps.toList
def srt (l : List Str) : List Str := l.mergeSort sle
theorem sle_iff {a b : Str} : sle a b = true ↔ a.cps.toList ≤ b.cps.toList := by
  unfold sle
  rw [PyProof.Rows.ltCps_eq, Bool.not_eq_true', decide_eq_false_iff_not, List.not_lt]
theorem sle_trans (a b c : Str) (h : sle a b = true) (h' : sle b c = true) : sle a c = true := sle_iff.mpr (List.le_trans (sle_iff.mp h) (sle_iff.mp h'))
theorem sle_total (a b : Str) : (sle a b || sle b a) = true := by
  rw [Bool.or_eq_true, sle_iff, sle_iff]; exact List.le_total ..
theorem sle_antisymm {a b : Str} (h : sle a b = true) (h' : sle b a = true) : a = b := by
  have := List.le_antisymm (sle_iff.mp h) (sle_iff.mp h')
  cases a; cases b
  simpa using this
theorem srt_perm (l : List Str) : (srt l).Perm l := List.mergeSort_perm ..
theorem srt_pair (l : List Str) : (srt l).Pairwise fun a b => sle a b = true := List.pairwise_mergeSort sle_trans sle_total l
theorem rising_pair : ∀ {l : List Str} {p : Str}, PyProof.Rows.risingS p l = true → (p :: l).Pairwise fun a b => sle a b = true
  | [], p, _ => by simp
  | x :: r, p, h => by
    simp only [PyProof.Rows.risingS, Bool.and_eq_true] at h
    have i := rising_pair h.2
    refine List.pairwise_cons.mpr ⟨fun y hy => ?_, i⟩
    rcases List.mem_cons.mp hy with rfl | hy
    · exact h.1
    · exact sle_trans _ _ _ h.1 (List.rel_of_pairwise_cons i hy)
theorem sortedS_pair {l : List Str} (h : PyProof.Rows.sortedS l = true) : l.Pairwise fun a b => sle a b = true := by
  cases l with
  | nil => exact .nil
  | cons x r => exact rising_pair h
theorem srt_unique {l l' : List Str} (hp : l'.Perm l) (hs : l'.Pairwise fun a b => sle a b = true) : l' = srt l :=
  (hp.trans (srt_perm l).symm).eq_of_pairwise (fun a b _ _ h h' => sle_antisymm h h') hs (srt_pair l)
theorem srt_eq {l ys : List Str} (hp : ys.Perm l) (hs : PyProof.Rows.sortedS ys = true) : ys = srt l := srt_unique hp (sortedS_pair hs)
theorem srt_congr {l l' : List Str} (h : l.Perm l') : srt l = srt l' := srt_unique ((srt_perm l).trans h) (srt_pair l)
theorem srt_mem {l : List Str} {x : Str} : x ∈ srt l ↔ x ∈ l := (srt_perm l).mem_iff

def Psorted : List Val → Option (Bool × Val)
  | [.lst ds] => match asStrs ds with
    | some ys => if ys.length < 64 then some (true, .lst ((srt ys).map .str)) else none
    | none => none
  | [.tup ds] => match asStrs ds with
    | some ys => if ys.length < 64 then some (true, .lst ((srt ys).map .str)) else none
    | none => none
  | _ => none
theorem reps_of_strs {w : Wd} {G : Hp} : ∀ {ss : List Str}, (∀ s ∈ ss, s.length ≤ sizeLine) → Reps w G (ss.map Val.str) (ss.map V.str)
  | [], _ => reps_nil.mpr rfl
  | s :: ss, h => reps_cons.mpr ⟨_, _, rfl, rep_str.mpr ⟨rfl, h s (by simp)⟩, reps_of_strs fun x hx => h x (by simp [hx])⟩
theorem reps_strs_le {w : Wd} {G : Hp} : ∀ {ss : List Str} {xs : List V}, Reps w G (ss.map Val.str) xs → ∀ s ∈ ss, s.length ≤ sizeLine
  | [], _, _, _, h => by simp at h
  | s :: ss, _, r, x, h => by
    rw [List.map_cons, reps_cons] at r; obtain ⟨y, ys, e, r1, r2⟩ := r
    rcases List.mem_cons.mp h with rfl | h
    · exact (rep_str.mp r1).2
    · exact reps_strs_le r2 x h
section
open PyProof.Rows
variable {X : Cx} {w : Wd}
/-- l.sort() of fewer than 64 texts -/
theorem sort_texts {prog : Program} {wd : World} {A : Around} {E : Value → Shared → Prop} {s : Shared} {l : Addr} {its : List Value} {ks : List Str} {n : Nat} {Q : Value → Shared → Prop} (S : StrsAre its ks) (short : its.length < 64) (at_ : s.heap.get? l = some (seqObj "list" its.toArray n))
    (then_ : ∀ g out ys, StrsAre out ys → ys.Perm ks → sortedS ys = true → (∃ e, g.get? l = some (seqObj "list" out.toArray e)) → (∀ b u, b ≠ l → s.heap.get? b = some u → g.get? b = some u) → Q .none { s with heap := g }) :
    wpAny (model prog wd) A (call (.builtin "list.sort") [.ref l]) Q E s := by
  refine wpAny_call_entry slot_list_sort ⟨_, at_, rfl⟩ entry_list_sort (list_sort_treeK strKind_oneLt at_ S.keysOf (fun _ _ _ e => keyKind_strs (e ▸ S)) short fun st perm ord => ⟨_, rfl, ?_⟩) (args_list_sort _)
  obtain ⟨ys, so, pm, up⟩ := sorted_out_str S perm ord
  refine then_ _ _ ys so pm up ?_ fun b u ne e => ?_
  · rw [Array.toArray_toList]
    exact sortedHeap_at at_
  · rw [sortedHeap_old ne (Heap.lt_size e)]
    exact e
/-- sorted(t) of a tuple of fewer than 64 texts -/
theorem call_sortedT : CallR X (.builtin "sorted") (fun xs H Q => ∃ (a : Addr) (ks : List Str), xs = [.ref a] ∧ SqT X.K H a (ks.map V.str) ∧ ks.length < 64 ∧
    ∀ ys p, ys.Perm ks → sortedS ys = true → H p = none → Q (.ref p) (upd H p (.lst (ys.map V.str)))) := by
  intro pins s σ H xs us Q I r q
  obtain ⟨a, ks, rfl, told, few, q⟩ := q
  obtain ⟨u, rfl, ru⟩ := vals1 r
  obtain rfl : u = Value.ref a := ru
  obtain ⟨its, rel, ⟨o, oAt, oCls, n, oDa⟩, _⟩ := I.tuple told
  have S : StrsAre its ks := rel.strs
  have short : its.length < 64 := by rw [S.length]; exact few
  have room : its.toArray.size ≤ sizeLine := by rw [List.size_toArray, sizeLine_eq]; omega
  refine Calls.call_function_entry kind_sorted plain_sorted entry_sorted (args_sorted1 _) ?_
  unfold Builtin.«sorted»
  refine wpAny_bind (m := checkCount "sorted" 1 1 _) (wpAny_pure (wpAny_bind (wpAny_collect_seq a (.inr rfl) oAt oCls oDa (fun g kept => ?_) room)))
  refine wpAny_bind (wpAny_newList ?_ (by simpa using room))
  show wpAny _ _ _ _ _ { s with heap := g.push (seqObj "list" its.toArray 0) }
  refine wpAny_bind (wpAny_holding (sort_texts (s := { s with heap := g.push (seqObj "list" its.toArray 0) }) S short (Heap.get?_push_size _ rfl) fun g2 out ys so pm up at2 old => ?_))
  obtain ⟨e, at2⟩ := at2
  have I1 : Inv X pins σ H { s with heap := g } := I.kept (t' := s.toks) kept
  have long : (ys.map V.str).length ≤ sizeLine := by rw [List.length_map, pm.length_eq, sizeLine_eq]; omega
  refine wpAny_pure ⟨_, rfl, .ref g.objs.size, upd H g.objs.size (.lst (ys.map V.str)), ?_, rfl, q ys _ pm up (I1.hok.fresh (Nat.le_refl _))⟩
  exact I1.laid (t' := s.toks) (fun b u eb => old b u (Nat.ne_of_lt (Heap.lt_size eb)) (Heap.get?_push_of_some _ eb)) (Nat.le_refl _) ⟨long, out, e, vals_of_strs so, at2⟩
theorem bi_sorted (c : Cal X w) : CallR X (.builtin "sorted") (rOf w Psorted) := by
  intro pins s σ H xs us Q I r ⟨G, vs, o, z, le, rr, hp, q⟩
  unfold Psorted at hp
  split at hp
  · split at hp
    · rename_i ys hy
      split at hp
      · rename_i hb
        cases hp
        obtain ⟨x, e, r1⟩ := rreps_one rr
        subst e
        obtain ⟨a, zs, rfl, h, rs⟩ := rrep_lst le r1
        rw [asStrs_some hy] at rs
        have hz := reps_strs_le rs
        rw [reps_strs rs] at h
        refine cr_sortedS pins s σ H _ us Q I r ⟨a, ys, rfl, .inl (.inl h), hb, fun ys' p hp hs hn => ?_⟩
        rw [srt_eq hp hs]
        exact new_lst le hn (reps_of_strs fun x hx => hz x (srt_mem.mp hx)) q
      · cases hp
    · cases hp
  · split at hp
    · rename_i ys hy
      split at hp
      · rename_i hb
        cases hp
        obtain ⟨x, e, r1⟩ := rreps_one rr
        subst e
        obtain ⟨a, zs, rfl, h, rs⟩ := rrep_tup le r1
        rw [asStrs_some hy] at rs
        have hz := reps_strs_le rs
        rw [reps_strs rs, c.K] at h
        refine call_sortedT pins s σ H _ us Q I r ⟨a, ys, rfl, h, hb, fun ys' p hp hs hn => ?_⟩
        rw [srt_eq hp hs]
        exact new_lst le hn (reps_of_strs fun x hx => hz x (srt_mem.mp hx)) q
      · cases hp
    · cases hp
  · cases hp
end

def kitA (a : String) : List Val → Option Bool
  | [] => some false
  | .ty T :: ts => match kitB a T with
    | some true => some true
    | some false => kitA a ts
    | none => none
  | _ => none
def Pisis : List Val → Option (Bool × Val)
  | [v, .tup ts] => match tyOf v with
    | some a => (kitA a ts).map fun b => (false, .bl b)
    | none => none
  | _ => none
theorem kitA_any {K : PySem.W.Frag} {G : Hp} {w : Wd} {a : String} : ∀ {ts : List Val} {xs : List V} {us : List Value} {b : Bool}, kitA a ts = some b → Reps w G ts xs → Vals xs us → PySem.W.kitAny K (.type a) us = some b
  | [], _, _, b, h, r, v => by
    rw [reps_nil] at r; subst r; cases v; cases h; rfl
  | .ty T :: ts, _, _, b, h, r, v => by
    rw [reps_cons] at r; obtain ⟨y, ys, e, r1, r2⟩ := r
    subst e
    obtain rfl := rep_ty.mp r1
    cases v with
    | @cons _ u _ us h1 h2 =>
      obtain rfl : u = .type T := h1
      simp only [kitA] at h
      split at h
      · rename_i e; cases h
        exact L2.kitAny_cons (kit_ty e) (fun z => nomatch z) fun _ => rfl
      · rename_i e
        exact L2.kitAny_cons (kit_ty e) (fun _ => kitA_any h r2 h2) fun z => nomatch z
      · cases h
theorem bi_isis {X : Cx} {w : Wd} (c : Cal X w) : CallR X (.builtin "isinstance") (rOf w Pisis) := by
  intro pins s σ H xs us Q I r ⟨G, vs, o, z, le, rr, hp, q⟩
  unfold Pisis at hp
  split at hp
  · split at hp
    · rename_i T hT
      rw [Option.map_eq_some_iff] at hp
      obtain ⟨b, hb, e⟩ := hp
      cases e
      obtain ⟨x, y, e, r1, r2⟩ := rreps_two rr
      subst e
      obtain ⟨u1, u2, rfl, g1, g2⟩ := vals2 r
      obtain ⟨a, zs, rfl, h, rs⟩ := rrep_tup le r2
      obtain ⟨P, hx, hP, hn⟩ := kit_val c I g1 le r1 hT
      rw [c.K] at h
      obtain ⟨its, rv, ⟨ob, ho, hc, n, hd⟩, _⟩ := I.tuple h
      cases (show u2 = Value.ref a from g2)
      obtain ⟨oc, od, dt, sl⟩ := ob
      simp only at hc hd
      subst hc hd
      exact PySem.W.kia_tup hx I.kIn hP ho (kitA_any hb rs rv) hn fun tk => ⟨.bl b, H, I.tok tk, rfl, bl_new le q⟩
    · cases hp
  · cases hp
end M
namespace M
open PySem L2 PySem.Spec
section
variable {prog : Program} {w : World} {A : Around} {E : Value → Shared → Prop} {s : Shared}
end

end M
namespace M
open PySem L2
def dst (fe fk fv : EF) : EF := fun r => match frz fe r with
  | .ok _ (.dct false ds) r1 => if ds.length < 100000 then match frz fk r1 with
      | .ok _ k r2 => match frz fv r2 with
        | .ok _ v r3 => match keyOf k with
          | some q => .ok true (.dct false (dPut ds q v)) r3
          | none => .bad
        | .ex e r3 => .ex e r3
        | .bad => .bad
      | .ex e r2 => .ex e r2
      | .bad => .bad
    else .bad
  | .ok _ _ _ => .bad
  | .ex e r1 => .ex e r1
  | .bad => .bad
section
variable {A : Act}
/-- a temporary of ours stays out of the known heap -/
theorem Step.none {σ : L2.St} {r r1 : Env} {G G1 H H1 : Hp} {p : Addr} (st : Step σ r G H r1 G1 H1) (h : G p = none) (e : H p ≠ none) (nr : ¬ Rt H r σ p) : G1 p = none := by
  cases z : G1 p with
  | none => rfl
  | some u =>
    rcases st.grow p h (by rw [z]; simp) with y | y
    · exact absurd y e
    · exact absurd y nr
end
def PlenD : List Val → Option (Bool × Val)
  | [.dct false ds] => some (false, .int ds.length)
  | [.dct true ds] => some (false, .int ds.length)
  | _ => none
def keysOfD (ds : List (Val × Val)) : List Val := ds.map (·.1)
def PlistD : List Val → Option (Bool × Val)
  | [.dct false ds] => some (true, .lst (keysOfD ds))
  | _ => none
def asPairs : List Val → Option (List (Val × Val))
  | [] => some []
  | .tup [k, v] :: l => (asPairs l).map ((k, v) :: ·)
  | _ => none
def Pdict : List Val → Option (Bool × Val)
  | [.dct false ds] => some (true, .dct false ds)
  | [.lst ds] => match asPairs ds with
    | some kvs => match putAll [] kvs with
      | some es => some (true, .dct false es)
      | none => none
    | none => none
  | _ => none
def PsortedD : List Val → Option (Bool × Val)
  | [.dct false ds] => match asStrs (keysOfD ds) with
    | some ys => if ys.length < 64 then some (true, .lst ((srt ys).map .str)) else none
    | none => none
  | _ => none
def PlenX := orP Plen PlenD
def PlistX := orP Plist PlistD
def PsortedX := orP Psorted PsortedD
section
variable {X : Cx} {w : Wd}
theorem reps_keys {G : Hp} : ∀ {ds : List (Val × Val)} {kvs : List (Key × V)}, RepK w G ds kvs → Reps w G (keysOfD ds) (kvs.map fun kv => kV kv.1)
  | [], _, r => by rw [RepK] at r; subst r; exact reps_nil.mpr rfl
  | (k, d) :: ds, _, r => by
    rw [RepK] at r
    obtain ⟨q, y, ys, e, ⟨ek, hb⟩, r1, r2⟩ := r
    subst e
    refine reps_cons.mpr ⟨kV q, _, rfl, ?_, reps_keys r2⟩
    subst ek
    cases q with
    | inl i => exact rep_int.mpr rfl
    | inr z => exact rep_str.mpr ⟨rfl, hb⟩
theorem rrep_dK {G H : Hp} {ds : List (Val × Val)} {x : V} (le : Le G H) (r : RRep w G H (.dct false ds) x) : ∃ a kvs, x = .ref a ∧ Rd H a (.dK kvs) ∧ RepK w G ds kvs := by
  obtain ⟨a, e, ⟨_, kvs, h, rk⟩ | ⟨ht, _⟩⟩ := rrep_dct le r
  · exact ⟨a, kvs, e, h, rk⟩
  · cases ht
theorem bi_lenD : CallR X (.builtin "len") (rOf w PlenD) := by
  intro pins s σ H xs us Q I r ⟨G, vs, o, z, le, rr, hp, q⟩
  unfold PlenD at hp
  split at hp
  · cases hp
    obtain ⟨x, e, r1⟩ := rreps_one rr
    subst e
    obtain ⟨a, kvs, rfl, h, rk⟩ := rrep_dK le r1
    obtain ⟨u, rfl, ru⟩ := vals1 r
    cases ru
    refine d_len I h fun t s' I' => ⟨.int kvs.length, H, I', ⟨t, rfl⟩, ?_⟩
    rw [← repK_length rk]
    exact int_new le q
  · cases hp
    obtain ⟨x, e, r1⟩ := rreps_one rr
    subst e
    obtain ⟨a, rfl, ⟨z, _⟩ | ⟨_, kbs, hD, rt⟩⟩ := rrep_dct le r1
    · cases z
    obtain ⟨u, rfl, ru⟩ := vals1 r
    obtain rfl : u = Value.ref a := ru
    obtain ⟨⟨ob, es, ep, ho, hx, hd, hp, hn, hz, hsys⟩, _⟩ := I.hok a _ hD
    have hraw : s.heap.DictRaw a es ep := ⟨ob, ho, hx, hd⟩
    have hsz : es.size = kbs.length := by rw [← Array.length_toList]; exact (Paired.length hp).symm
    refine PyProof.Rows.call_len_slot (T := "dict") ⟨ob, ho, hx.1⟩ PySem.F.slot_dict_len (n := ((kbs.length : Nat) : Int)) (fun Q' h' => call_len_raw hsys hraw (by rw [hsz]; exact h')) (by omega) (by rw [sizeLine_eq] at hz; omega) ?_
    refine ⟨.int ((kbs.length : Nat) : Int), H, I.tok _, ⟨_, rfl⟩, ?_⟩
    rw [← repT_length rt]
    exact int_new le q
  · cases hp
theorem bi_listD (c : Cal X w) : CallR X (.type "list") (rOf w PlistD) := by
  intro pins s σ H xs us Q I r ⟨G, vs, o, z, le, rr, hp, q⟩
  unfold PlistD at hp
  split at hp
  · cases hp
    obtain ⟨x, e, r1⟩ := rreps_one rr
    subst e
    obtain ⟨a, kvs, rfl, h, rk⟩ := rrep_dK le r1
    exact call_listD c.calm pins s σ H _ us Q I r ⟨a, kvs, rfl, h, fun p hp => new_lst le hp (reps_keys rk) q⟩
  · cases hp
theorem new_dK {G H : Hp} {p : Addr} {kvs : List (Key × V)} {ds : List (Val × Val)} {Q : VK} (le : Le G H) (hp : H p = none) (rp : RepK w G ds kvs)
    (q : ∀ u G' H', Grow G H G' H' → NRep w G H G' H' true (.dct false ds) u → Q u H') : Q (.ref p) (upd H p (.dK kvs)) :=
  q _ G _ (Grow.laidH le hp) ⟨_, rfl, root_dK upd_same rp, flat_all rfl ⟨le.back hp, hp⟩⟩
theorem pairs_reps {G H : Hp} (le : Le G H) : ∀ {ds : List Val} {kvs : List (Val × Val)} {xs : List V}, asPairs ds = some kvs → Reps w G ds xs → ∃ (ps : List Addr) (vs : List (V × V)), xs = ps.map V.ref ∧ Paired (fun p kv => SqT w.K H p [kv.1, kv.2]) ps vs ∧ Paired (fun (p : Val × Val) (q : V × V) => Rep w G p.1 q.1 ∧ Rep w G p.2 q.2) kvs vs
  | [], kvs, xs, h, r => by
    cases h
    rw [reps_nil] at r; subst r
    exact ⟨[], [], rfl, .nil, .nil⟩
  | .tup [k, v] :: ds, kvs, xs, h, r => by
    simp only [asPairs, Option.map_eq_some_iff] at h
    obtain ⟨l, hl, e⟩ := h
    subst e
    rw [reps_cons] at r
    obtain ⟨y, ys, e, r1, r2⟩ := r
    subst e
    obtain ⟨a, zs, rfl, hs, rs⟩ := rep_tup.mp r1
    rw [reps_cons] at rs
    obtain ⟨y1, ys1, e, g1, rs⟩ := rs
    subst e
    rw [reps_cons] at rs
    obtain ⟨y2, ys2, e, g2, rs⟩ := rs
    subst e
    rw [reps_nil] at rs
    subst rs
    obtain ⟨ps, vs, e1, e2, e3⟩ := pairs_reps le hl r2
    exact ⟨a :: ps, (y1, y2) :: vs, by rw [e1]; rfl, .cons (sqt_mono le hs) e2, .cons ⟨g1, g2⟩ e3⟩
theorem paired_map {α β γ : Type} {F : α → β → Prop} {f : γ → β} : ∀ {l : List α} {m : List γ}, Paired F l (m.map f) → Paired (fun a c => F a (f c)) l m
  | [], [], _ => .nil
  | [], _ :: _, h => nomatch h
  | _ :: _, [], h => nomatch h
  | _ :: _, _ :: _, .cons h t => .cons h (paired_map t)
theorem bi_dict (c : Cal X w) : CallR X (.type "dict") (rOf w Pdict) := by
  intro pins s σ H xs us Q I r ⟨G, vs, o, z, le, rr, hp, q⟩
  unfold Pdict at hp
  split at hp
  · cases hp
    obtain ⟨x, e, r1⟩ := rreps_one rr
    subst e
    obtain ⟨a, kvs, rfl, h, rk⟩ := rrep_dK le r1
    exact call_dictD pins s σ H _ us Q I r ⟨a, kvs, rfl, h, fun p hp => new_dK le hp rk q⟩
  · split at hp
    · rename_i kvs hk
      split at hp
      · rename_i es he
        cases hp
        obtain ⟨x, e, r1⟩ := rreps_one rr
        subst e
        obtain ⟨a, zs, rfl, h, rs⟩ := rrep_lst le r1
        obtain ⟨ps, ws, e1, e2, e3⟩ := pairs_reps le hk rs
        obtain ⟨qs, f1, f2, f3⟩ := reps_pairs (ks := []) he repK_nil0 e3
        subst e1
        subst f1
        refine call_dictP c.calm pins s σ H _ us Q I r ⟨a, ps, qs, rfl, .inl (.inl h), ?_, fun p hp => new_dK le hp f3 q⟩
        have e4 := paired_map (F := fun (p : Addr) (kv : V × V) => SqT w.K H p [kv.1, kv.2]) (f := fun kv : Key × V => (kV kv.1, kv.2)) e2
        rw [c.K] at e4
        exact e4
      · cases hp
    · cases hp
  · cases hp
theorem strs_keys {G : Hp} : ∀ {ds : List (Val × Val)} {kvs : List (Key × V)} {ys : List Str}, RepK w G ds kvs → asStrs (keysOfD ds) = some ys → kvs.map (·.1) = ys.map Sum.inr ∧ ∀ y ∈ ys, y.length ≤ sizeLine
  | [], _, ys, r, h => by rw [RepK] at r; subst r; cases h; exact ⟨rfl, fun _ h => nomatch h⟩
  | (k, d) :: ds, _, ys, r, h => by
    rw [RepK] at r
    obtain ⟨q, y, zs, e, ⟨ek, hb⟩, r1, r2⟩ := r
    subst e
    subst ek
    cases q with
    | inl i => cases h
    | inr z =>
      simp only [keysOfD, List.map_cons, kv, asStrs, Option.map_eq_some_iff] at h
      obtain ⟨l, hl, e⟩ := h
      subst e
      obtain ⟨e1, e2⟩ := strs_keys r2 hl
      exact ⟨by rw [List.map_cons, List.map_cons, e1], fun y h => (List.mem_cons.mp h).elim (fun h => by subst h; exact hb) (e2 y)⟩
theorem bi_sortedD (c : Cal X w) : CallR X (.builtin "sorted") (rOf w PsortedD) := by
  intro pins s σ H xs us Q I r ⟨G, vs, o, z, le, rr, hp, q⟩
  unfold PsortedD at hp
  split at hp
  · split at hp
    · rename_i ys hy
      split at hp
      · rename_i hb
        cases hp
        obtain ⟨x, e, r1⟩ := rreps_one rr
        subst e
        obtain ⟨a, kvs, rfl, h, rk⟩ := rrep_dK le r1
        obtain ⟨e1, e2⟩ := strs_keys rk hy
        refine call_sortedD c.calm pins s σ H _ us Q I r ⟨a, kvs, ys, rfl, h, e1, hb, fun ys' p hp hs hn => ?_⟩
        rw [srt_eq hp hs]
        exact new_lst le hn (reps_of_strs fun x hx => e2 x (srt_mem.mp hx)) q
      · cases hp
    · cases hp
  · cases hp
theorem bi_lenX (c : Cal X w) : CallR X (.builtin "len") (rOf w PlenX) := cr_or (bi_len c) bi_lenD
theorem bi_listX (c : Cal X w) : CallR X (.type "list") (rOf w PlistX) := cr_or (bi_list c) (bi_listD c)
theorem bi_sortedX (c : Cal X w) : CallR X (.builtin "sorted") (rOf w PsortedX) := cr_or (bi_sorted c) (bi_sortedD c)
end

theorem star_dct {X : Cx} {pins : List (Addr × Obj)} {σ : L2.St} {H : Hp} {s : Shared} {a : Addr} {kvs : List (Key × V)} {E : Value → Shared → Prop} {Q : List Value → Shared → Prop} (hc : X.calm = true) (I : Inv X pins σ H s) (h : Rd H a (.dK kvs))
    (hQ : ∀ us s', Inv X pins σ H s' → Vals (kvs.map fun kv => kV kv.1) us → Q us s') : PySem.W.StarOf (model X.prog X.w) X.A E (.ref a) Q s := by
  obtain ⟨z, lo, vs, rel, dd⟩ := dk_rd I.hok h
  obtain ⟨ep, hat⟩ := dd.dictAt
  have ek : (kvs.map fun kv => kV kv.1) = vs.map fun p => kV p.1 := by
    have e := congrArg (List.map kV) rel.keys
    rw [List.map_map, List.map_map] at e
    exact e
  have z2 : wpAny (model X.prog X.w) X.A (collect (.ref a)) Q E s := by
    refine PySem.W.kdu_collect (PySem.W.kdl_dict (knd := mixKind X.prog X.w) (kvs := vs) (ep := ep) lo) (I.ok.hd hc) hat (by rw [← rel.length]; exact z) fun h' tk acc hk hacc => ?_
    have hv : Vals (vs.map fun p => kV p.1) acc.toList := keys_at (by rw [Array.length_toList]; exact hacc.1) fun j v e => hacc.2 j v (by rw [← Array.getElem?_toList]; exact e)
    exact hQ _ _ (I.kept (t' := tk) hk) (by rw [ek]; exact hv)
  unfold PySem.W.StarOf notIterableAtAll
  exact wpAny_bind (wpAny_specialOf dd.typeIs PySem.F.slot_dict_iter.lookup (wpAny_pure ⟨rfl, z2⟩))
def tStarD (te : TE) (t : TA) : TA := fun σ H Q => te σ H fun x H1 => ∃ a kvs, x = V.ref a ∧ Rd H1 a (.dK kvs) ∧ t σ H1 fun ys H2 => Q ((kvs.map fun kv => kV kv.1) ++ ys) H2
theorem pa_starD0 {X : Cx} {e : Expr} {es : List Expr} {te : TE} {t : TA} {p : Pos} (hc : X.calm = true) (he : PE X e te) (hr : PA X es t) (hs : starEach (.Starred e p :: es) X.env = (true, eval e X.env) :: starEach es X.env := by rfl) : PA X (.Starred e p :: es) (tStarD te t) := by
  refine ⟨fun pos pins s σ H Q I h => ?_⟩
  refine PySem.W.items_star (thn (he.run pins s σ H _ I h) fun v s1 ⟨y, H1, I1, ry, a, kvs, ey, hx, q⟩ => ?_) hs
  subst ey
  obtain rfl : v = Value.ref a := ry
  refine star_dct hc I1 hx fun us s2 I2 rv => ?_
  exact thn (hr.run pos pins s2 σ H1 _ I2 q) fun ws s3 ⟨vs, H3, I3, r3, q3⟩ => ⟨_ ++ vs, H3, I3, rv.append r3, q3⟩
/-- d in a display, told by the shape of the text: the value is a dict -/
def asStD (f : EF) (g : AF) : AF := fun r => match frz f r with
  | .ok _ (.dct false ds) r1 => match g r1 with
    | .ok vs r2 => .ok (keysOfD ds ++ vs) r2
    | .ex e r2 => .ex e r2
    | .bad => .bad
  | .ok _ _ _ => .bad
  | .ex e r1 => .ex e r1
  | .bad => .bad
theorem pa_asStD {X : Cx} {A : Act} {W : WX} {e : Expr} {es : List Expr} {f : EF} {g : AF} {p : Pos} (hc : X.calm = true) (he : PE X e (tE A W f)) (hr : PA X es (tAs A W g)) (hs : starEach (.Starred e p :: es) X.env = (true, eval e X.env) :: starEach es X.env := by rfl) : PA X (.Starred e p :: es) (tAs A W (asStD f g)) :=
  PA.imp (pa_starD0 hc (pe_frz he) hr hs) fun σ H Q ⟨r, G, k, m⟩ => ⟨r, G, k, by
    unfold asStD at m
    cases hf : frz f r with
    | bad => simp only [hf] at m
    | ex e r' => simp only [hf] at m ⊢; exact m
    | ok o v r1 =>
      have eo := frz_false hf
      subst eo
      simp only [hf] at m ⊢
      intro x G1 H1 R1
      cases v with
      | dct t ds =>
        cases t with
        | true => exact m.elim
        | false =>
          simp only at m
          obtain ⟨a, kvs, rfl, h, rk⟩ := rrep_dK R1.ok.sub (.inl R1.tr)
          refine ⟨a, kvs, rfl, h, r1, G1, R1.ok, ?_⟩
          cases hg : g r1 with
          | bad => simp only [hg] at m
          | ex e r2 => simp only [hg] at m ⊢; exact m.mono R1.st.ex
          | ok vs r2 =>
            simp only [hg] at m ⊢
            intro ys G2 H2 k2 st2 rs2
            exact m _ G2 H2 k2 (R1.st.trans st2) (reps_append ((reps_keys rk).mono st2.ex) rs2)
      | _ => exact m.elim⟩
end M
namespace M
open PySem L2 PySem.Spec PyProof.Rows
/-- σ' knows what σ knows -/
def Kp (σ σ' : L2.St) : Prop := σ'.length = σ.length ∧ ∀ (j : Nat) (v : V), σ[j]? = some (some v) → σ'[j]? = some (some v)
theorem Kp.refl (σ : L2.St) : Kp σ σ := ⟨rfl, fun _ _ h => h⟩
/-- a clause's turn, behind whose tests stands m -/
def turnOf (e : Expr) (d : Nat) (tg iter : Expr) (ifs : List Expr) (m : Sem Unit) (it acc : Value) (env : PySem.Env) : Sem PySem.Fin := do
  standAt iter.pos
  match ← pyNext it with
  | none => pure (.done .next)
  | some v =>
    letOwnedTupleGo tg it v
    assign tg env v
    let ok ← forIn ifs true fun c r => if r = true then do let ok ← isTrue c env (eval c env); pure (ForInStep.yield ok) else pure (ForInStep.yield r)
    if ok = true then
      m
      again (.compLoop e d it acc env)
    else again (.compLoop e d it acc env)
theorem clause_loop {X : Cx} {pins : List (Addr × Obj)} {σb : L2.St} {e tg iter : Expr} {d : Nat} {it : Addr} {acc : Value} {fp : List Addr} {tn : Nat → Heap → Prop} {J : It} {ifs : List Expr} {g : TG} {tt : TT} {m : Sem Unit} {R : Result → Shared → Prop} {Fin' : Hp → Prop}
    {body : L2.St → Hp → (Hp → Prop) → Prop} {W : Nat → Nat → Hp → Prop} {m0 i0 : Nat} {H0 : Hp} {s0 : Shared}
    (hc : X.calm = true) (hx : X.xe = fun _ _ => False) (hturn : compTurn e d (.ref it) acc X.env = turnOf e d tg iter ifs m (.ref it) acc X.env) 
    (hu : X.A.under (.compLoop e d (.ref it) acc X.env) = X.A) (hd : (model X.prog X.w).den (.compLoop e d (.ref it) acc X.env) = (compTurn e d (.ref it) acc X.env).onRaise fun x => do noteFrame x X.env; theTreesLotGoes x)
    (T : Turn X.prog X.w X.K tg J fp it tn) (pg : PG X tg g) (pt : PTs X ifs tt)
    (stat : ∀ (σ : L2.St) (H : Hp) (s : Shared), Inv X pins σ H s → (∀ b ∈ fp, H b = none) → ∀ b ∈ fp, FpOk X pins H b)
    (hb : ∀ (ps : List (Addr × Obj)) (s : Shared) (σ : L2.St) (H : Hp) (Q : Hp → Prop), Inv X (pins ++ ps) σ H s → Kp σb σ → body σ H Q → wpAny (model X.prog X.w) X.A m (fun _ s' => ∃ σ' H', Inv X (pins ++ ps) σ' H' s' ∧ Kp σb σ' ∧ Q H') (fun _ _ => False) s)
    (hf : ∀ (s : Shared) (H : Hp), Inv X pins σb H s → Fin' H → R (.ok .next) s)
    (turn : ∀ i m H, W i m H → (J.stop i H ∧ Fin' H) ∨ (J.go i H ∧ ∃ Nx : Hp → Prop, (∀ H', Nx H' → ∃ m', m' < m ∧ W (i + 1) m' H') ∧
      ∀ x H', J.yld i H x H' → g x σb H' fun σ2 H2 => Kp σb σ2 ∧ tt σ2 H2 fun b H3 => if b = true then body σ2 H3 Nx else Nx H3))
    (I0 : Inv X pins σb H0 s0) (t0 : tn i0 s0.heap) (n0 : ∀ b ∈ fp, H0 b = none) (w0 : W i0 m0 H0) :
    codeAny (model X.prog X.w) X.A (.compLoop e d (.ref it) acc X.env) R s0 := by
  refine codeAny_loop rfl (fun k s => ∃ i H, Inv X pins σb H s ∧ tn i s.heap ∧ (∀ b ∈ fp, H b = none) ∧ W i k H) (fun k s ⟨i, H, I, t, n, wk⟩ => ?_) m0 ⟨i0, H0, I0, t0, n0, w0⟩
  rw [hu, hd]
  refine wpAny_noted ?_
  rw [hturn]
  refine wpAny_bind (wpAny_standAt (wpAny_bind ?_))
  rcases turn i k H wk with ⟨stop, fin⟩ | ⟨go, Nx, hNx, step⟩
  · refine thnF (T.done X rfl rfl rfl hc i pins s σb H (fun _ _ => False) I (stat _ _ _ I n) t stop) fun r s1 ⟨hr, I1⟩ => ?_
    subst hr
    exact wpAny_pure (hf s1 H I1 fin)
  · refine thnF (T.item X rfl rfl rfl hc i pins s σb H (fun _ _ => False) I (stat _ _ _ I n) t go) fun r s1 ⟨u, hr, h1⟩ => ?_
    subst hr
    refine wpAny_bind (thnF h1 fun _ s2 ⟨x, H2, I2, r2, y2, t2, n2⟩ => ?_)
    have P2 := I2.pinned (stat _ _ _ I2 n2) (T.obj _ _ t2)
    have again_ : ∀ {σ' : L2.St} {s' : Shared} {H' : Hp}, Inv X (pins ++ pinsAt fp s2.heap) σ' H' s' → Kp σb σ' → Nx H' → ∃ k', k' < k ∧ ∃ i H, Inv X pins σb H s' ∧ tn i s'.heap ∧ (∀ b ∈ fp, H b = none) ∧ W i k' H := fun {σ' s' H'} I' kp nx => by
      obtain ⟨k', hk, w'⟩ := hNx H' nx
      have pin : ∀ b ∈ fp, ∀ o, s2.heap.get? b = some o → s'.heap.get? b = some o ∧ H' b = none := fun b hb o e =>
        have z := I'.pin (b, o) (List.mem_append_right _ (List.mem_append_right _ (mem_pinsAt hb e)))
        ⟨z.1, z.2.1⟩
      exact ⟨k', hk, i + 1, H', I'.unpinned.weak kp.1.symm kp.2, T.keep _ _ _ t2 fun b hb o e => (pin b hb o e).1, fun b hb => let ⟨o, e, _⟩ := T.obj _ _ t2 b hb; (pin b hb o e).2, w'⟩
    have no : ∀ {α : Type} {t : Sem α} {Q Q' : α → Shared → Prop} {E : Value → Shared → Prop} {s : Shared}, wpAny (model X.prog X.w) X.A t Q X.xe s → (∀ a s, Q a s → Q' a s) → wpAny (model X.prog X.w) X.A t Q' E s := fun h hQ => thnF (by rw [hx] at h; exact h) hQ
    refine wpAny_bind (no (pg.run _ s2 _ H2 x u _ P2 r2 (step x H2 y2)) fun _ s3 ⟨σ3, H3, I3, kp3, q3⟩ => ?_)
    refine wpAny_bind (no (pt.run _ s3 σ3 H3 _ I3 q3) fun b s4 ⟨H4, I4, q4⟩ => ?_)
    cases b with
    | false =>
      simp only [Bool.false_eq_true, if_false] at q4 ⊢
      exact wpAny_pure ⟨rfl, again_ I4 kp3 q4⟩
    | true =>
      simp only [if_true] at q4 ⊢
      exact wpAny_bind (thnF (hb _ s4 σ3 H4 Nx I4 kp3 q4) fun _ s5 ⟨σ5, H5, I5, kp5, q5⟩ => wpAny_pure ⟨rfl, again_ I5 kp5 q5⟩)

section
variable {kx vx t0 i0 t1 i1 : Expr} {ifs0 ifs1 : List Expr} {scope : Scope} {pos : Pos}
abbrev dc2E (kx vx t0 i0 : Expr) (ifs0 : List Expr) (t1 i1 : Expr) (ifs1 : List Expr) (scope : Scope) (pos : Pos) : Expr := .DictComp kx vx [⟨t0, i0, ifs0, 0⟩, ⟨t1, i1, ifs1, 0⟩] scope pos
/-- the pair that is laid in -/
def putKV (kx vx : Expr) (D : Addr) (env : PySem.Env) : Sem Unit := do
  let kv ← eval kx env
  let vv ← holding [kv] (eval vx env)
  standAt { kx.pos with endLine := vx.pos.endLine, endCol := vx.pos.endCol }
  holding [kv, vv] (dictSet D kv vv)
/-- the second clause -/
def runSecond (e i1 : Expr) (acc : Value) (env : PySem.Env) : Sem Unit := do
  let x ← eval i1 env
  standAt i1.pos
  let x ← foldedSetIterable i1 env x
  let _ ← runOwn (.compStart e 1 (← holding [x] (pyIter x)) acc env) env
theorem turn_second (it : Value) (D : Addr) (env : PySem.Env) : compTurn (dc2E kx vx t0 i0 ifs0 t1 i1 ifs1 scope pos) 1 it (.ref D) env = turnOf (dc2E kx vx t0 i0 ifs0 t1 i1 ifs1 scope pos) 1 t1 i1 ifs1 (putKV kx vx D env) it (.ref D) env := by rfl
theorem turn_first (it : Value) (D : Addr) (env : PySem.Env) : compTurn (dc2E kx vx t0 i0 ifs0 t1 i1 ifs1 scope pos) 0 it (.ref D) env = turnOf (dc2E kx vx t0 i0 ifs0 t1 i1 ifs1 scope pos) 0 t0 i0 ifs0 (runSecond (dc2E kx vx t0 i0 ifs0 t1 i1 ifs1 scope pos) i1 (.ref D) env) it (.ref D) env := by
  simp only [turnOf, runSecond, bind_assoc]
  rfl

/-- the second clause's start: once more iter, where the model does not follow the text -/
theorem second_start {prog : Program} {w : World} {A : Around} {R : Result → Shared → Prop} {s : Shared} {it acc : Value} {env : PySem.Env}
    (h : codeAny (model prog w) A (.compLoop (dc2E kx vx t0 i0 ifs0 t1 i1 ifs1 scope pos) 1 it acc env) R s)
    (hs : wpAny (model prog w) A (pyIter it) (fun it' s' => codeAny (model prog w) A (.compLoop (dc2E kx vx t0 i0 ifs0 t1 i1 ifs1 scope pos) 1 it' acc env) R s') (notedBy (model prog w) A env fun x s' => R (.error x) s') s) :
    codeAny (model prog w) A (.compStart (dc2E kx vx t0 i0 ifs0 t1 i1 ifs1 scope pos) 1 it acc env) R s := by
  refine codeAny_of_tree ?_
  show wpAny _ A ((compStart (dc2E kx vx t0 i0 ifs0 t1 i1 ifs1 scope pos) 1 it acc env).onRaise fun x => do noteFrame x env; standAt theWindowsPlace) _ _ s
  refine wpAny_notedAt ?_
  unfold compStart
  show wpAny _ _ (ask >>= _) _ _ s
  refine wpAny_bind (wpAny_askSetting (wpAny_ite ?_))
  split
  · exact wpAny_pure ⟨rfl, h⟩
  · refine wpAny_bind (wpAny_rule ?_)
    show wpAny _ _ (standAt i1.pos >>= _) _ _ s
    exact wpAny_bind (wpAny_standAt (wpAny_bind (wpAny_mono hs (fun it' s' h' => wpAny_pure ⟨rfl, h'⟩) fun _ _ x => x)))
end
/-- how a comprehension's dict stands at first, and what one pair more does to the heap -/
structure Lays where
  o0 : Addr → HO
  put : Addr → V → V → Hp → Hp → Prop
/-- it is so -/
structure LaysOk (P : Program) (w : World) (A : Around) (K : PySem.W.Frag) (L : Lays) : Prop where
  new : ∀ {X : Cx} {pins : List (Addr × Obj)} {σ : L2.St} {H : Hp} {s : Shared}, X.prog = P → X.w = w → Inv X pins σ H s → ObjOk P w (upd H s.heap.objs.size (L.o0 s.heap.objs.size)) (s.heap.push { cls := .type "dict", data := .dict #[] }) s.heap.objs.size (L.o0 s.heap.objs.size)
  set : ∀ {X : Cx} {pins : List (Addr × Obj)} {σ : L2.St} {H H' : Hp} {s : Shared} {E : Value → Shared → Prop} {D : Addr} {y z : V} {u v : Value} {Q : Unit → Shared → Prop}, X.prog = P → X.w = w → X.A = A → X.K = K → Inv X pins σ H s → L.put D y z H H' → RelV y u → RelV z v →
    (∀ s', Inv X pins σ H' s' → Q () s') → wpAny (model P w) A (dictSet D u v) Q E s
/-- whole numbers and texts as keys -/
def laysK : Lays := ⟨fun _ => .dK [], fun D y z H H' => ∃ kvs k, y = kV k ∧ H D = some (.dK kvs) ∧ kvs.length < sizeLine ∧ H' = upd H D (.dK (putK kvs k z))⟩
theorem laysK_ok {P : Program} {w : World} {A : Around} {K : PySem.W.Frag} : LaysOk P w A K laysK where
  new := fun {X pins σ H s} _ _ I => dk_empty s.heap I.big
  set := fun {X pins σ H H' s E D y z u v Q} e1 e2 e3 _ I ⟨kvs, k, ek, hD, hl, eH⟩ ry rz h => by
    subst e1 e2 e3 ek eH
    exact d_dictSet I hD hl ry rz h
/-- one more pair of a comprehension's dict -/
def tLay (L : Lays) (D : Addr) (tk tv : TE) (σ : L2.St) (H : Hp) (Nx : Hp → Prop) : Prop := tk σ H fun y H4 => tv σ H4 fun z H5 => ∃ H6, L.put D y z H5 H6 ∧ Nx H6
/-- the second clause, from what the first knows -/
def tSec (L : Lays) (D : Addr) (wi1 : TI) (g1 : TG) (tt1 : TT) (tk tv : TE) (vs1 : List Nat) (σ : L2.St) (H : Hp) (Nx : Hp → Prop) : Prop := wi1 σ H fun J H1 => ∃ W : Nat → Nat → Hp → Prop, (∃ m, W 0 m H1) ∧ ∀ j k H, W j k H →
  (J.stop j H ∧ Nx H) ∨ (J.go j H ∧ ∃ Nx1 : Hp → Prop, (∀ H', Nx1 H' → ∃ k', k' < k ∧ W (j + 1) k' H') ∧ ∀ x H', J.yld j H x H' → g1 x (wipe σ vs1) H' fun σ3 H5 => Kp (wipe σ vs1) σ3 ∧ tt1 σ3 H5 fun b H6 =>
    if b = true then tLay L D tk tv σ3 H6 Nx1 else Nx1 H6)
def tDc2 (L : Lays) (wi : TI) (g : TG) (tt : TT) (wi1 : TI) (g1 : TG) (tt1 : TT) (tk tv : TE) (vs vs1 : List Nat) : TE := fun σ H Q => wi σ H fun J H1 => ∀ D, H1 D = none → ∃ W : Nat → Nat → Hp → Prop, (∃ m, W 0 m (upd H1 D (L.o0 D))) ∧ ∀ i m H, W i m H →
  (J.stop i H ∧ Q (.ref D) H) ∨ (J.go i H ∧ ∃ Nx : Hp → Prop, (∀ H', Nx H' → ∃ m', m' < m ∧ W (i + 1) m' H') ∧ ∀ x H', J.yld i H x H' → g x (wipe σ vs) H' fun σ2 H2 => Kp (wipe σ vs) σ2 ∧ tt σ2 H2 fun b H3 =>
    if b = true then tSec L D wi1 g1 tt1 tk tv vs1 σ2 H3 Nx else Nx H3)
theorem kp_wipe {σ σ' : L2.St} {vs vs1 : List Nat} (h : Kp (wipe σ vs) σ') (hv : ∀ i ∈ vs1, i ∈ vs) : Kp (wipe σ vs) (wipe σ' vs1) := ⟨(wipe_length _ _).trans h.1, fun j v e => by
  rw [wipe_out fun z => (wipe_some e).2 (hv j z)]
  exact h.2 j v e⟩
section
variable {X : Cx} {pins : List (Addr × Obj)} {kx vx t0 i0 t1 i1 : Expr} {ifs0 ifs1 : List Expr} {scope : Scope} {pos : Pos} {D : Addr} {tk tv : TE} {wi1 : TI} {g1 : TG} {tt1 : TT} {σb : L2.St} {vs vs1 : List Nat}
theorem lay_run {L : Lays} (hL : LaysOk X.prog X.w X.A X.K L) (hx : X.xe = fun _ _ => False) (hk : PE X kx tk) (hv : PE X vx tv) {ps : List (Addr × Obj)} {s : Shared} {σ : L2.St} {H : Hp} {Q : Hp → Prop} (I : Inv X ps σ H s) (kp : Kp σb σ) (h : tLay L D tk tv σ H Q) :
    wpAny (model X.prog X.w) X.A (putKV kx vx D X.env) (fun _ s' => ∃ σ' H', Inv X ps σ' H' s' ∧ Kp σb σ' ∧ Q H') (fun _ _ => False) s := by
  have r1 := hk.run ps s σ H _ I h
  rw [hx] at r1
  refine wpAny_bind (thnF r1 fun u s1 ⟨y, H1, I1, ry, q1⟩ => ?_)
  have r2 := hv.run ps s1 σ H1 _ I1 q1
  rw [hx] at r2
  refine wpAny_bind (wpAny_holding (thnF r2 fun u2 s2 ⟨z, H2, I2, rz, H6, put, nx⟩ => ?_))
  exact wpAny_bind (wpAny_standAt (wpAny_holding (hL.set rfl rfl rfl rfl I2 put ry rz fun s3 I3 => ⟨σ, _, I3, kp, nx⟩)))
theorem sec_run {L : Lays} (hL : LaysOk X.prog X.w X.A X.K L) (hx : X.xe = fun _ _ => False) (hc : X.calm = true) (hk : PE X kx tk) (hv : PE X vx tv) (hi1 : PI X t1 i1 wi1) (hg1 : PG X t1 g1) (ht1 : PTs X ifs1 tt1) (hs1 : ∀ x, foldedSetIterable i1 X.env x = pure x) (hvs : ∀ i ∈ vs1, i ∈ vs)
    {ps : List (Addr × Obj)} {s : Shared} {σ0 σ : L2.St} {H : Hp} {Q : Hp → Prop} (I : Inv X ps σ H s) (kp : Kp (wipe σ0 vs) σ) (h : tSec L D wi1 g1 tt1 tk tv vs1 σ H Q) :
    wpAny (model X.prog X.w) X.A (runSecond (dc2E kx vx t0 i0 ifs0 t1 i1 ifs1 scope pos) i1 (.ref D) X.env) (fun _ s' => ∃ σ' H', Inv X ps σ' H' s' ∧ Kp (wipe σ0 vs) σ' ∧ Q H') (fun _ _ => False) s := by
  have r1 := hi1.run ps s σ H _ I h
  rw [hx] at r1
  refine wpAny_bind (thnF r1 fun xv s1 h1 => wpAny_bind (wpAny_standAt (wpAny_bind (wpAny_of_eq (hs1 xv) (wpAny_bind (wpAny_holding (thnF h1 fun itv s2 h2 => ?_)))))))
  obtain ⟨it, fp, tn, J, H2, e, I2, T, st2, f2, W, ⟨m1, w1⟩, turn⟩ := h2
  subst e
  refine wpAny_bind (wpAny_runOwn ?_)
  rw [Around.mark_none]
  have loop : codeAny (model X.prog X.w) X.A (.compLoop (dc2E kx vx t0 i0 ifs0 t1 i1 ifs1 scope pos) 1 (.ref it) (.ref D) X.env)
      (fun r s' => match r with
        | .ok _ => ∃ σ' H', Inv X ps σ' H' s' ∧ Kp (wipe σ0 vs) σ' ∧ Q H'
        | .error _ => False) s2 :=
    clause_loop hc hx (turn_second _ _ _) rfl rfl T hg1 ht1 (fun σ' H' s' I' n b hb => ⟨n b hb, (f2 b hb).2⟩) (fun ps' s' σ' H' Q' I' kp' q' => lay_run hL hx hk hv I' kp' q')
      (fun s' H' I' q' => ⟨_, H', I', kp_wipe kp hvs, q'⟩) turn (I2.weak (wipe_length _ _) fun j v e => (wipe_some e).1) st2 (fun b hb => (f2 b hb).1) w1
  refine codeAny_mono (second_start loop (T.self X.A 0 _ _ _ st2 loop)) fun r s' hr => ?_
  cases r with
  | ok f => exact wpAny_pure hr
  | error e => exact hr.elim
end

section
variable {X : Cx}
theorem dc2_core {L : Lays} (hL : LaysOk X.prog X.w X.A X.K L) {pins : List (Addr × Obj)} {s : Shared} {σ : L2.St} {H : Hp} {Q : VK} {pos' : Pos} {use : Option (Value → Sem Unit)} {Qf : Value → Shared → Prop} {kx vx t0 i0 t1 i1 : Expr} {ifs0 ifs1 : List Expr} {scope : Scope} {own : List (Str × Nat)} {vs1 : List Nat} {pos : Pos} {wi wi1 : TI} {g g1 : TG} {tt tt1 : TT} {tk tv : TE} (hc : X.calm = true) (hN : X.N.Nodup) (hi : PI X t0 i0 wi)
    (ok : BlkOk X.N X.env.scope scope own) (hv : ∀ i ∈ vs1, i ∈ own.map (·.2))
    (hg : ∀ (s : Shared) (H : Hp) (C : Addr) (cl : List (Str × Addr)) (fp : List Addr), PG (X.blk s H scope (compEnvC scope cl C X.env) fp) t0 g)
    (ht : ∀ (s : Shared) (H : Hp) (C : Addr) (cl : List (Str × Addr)) (fp : List Addr), PTs (X.blk s H scope (compEnvC scope cl C X.env) fp) ifs0 tt)
    (hi1 : ∀ (s : Shared) (H : Hp) (C : Addr) (cl : List (Str × Addr)) (fp : List Addr), PI (X.blk s H scope (compEnvC scope cl C X.env) fp) t1 i1 wi1)
    (hg1 : ∀ (s : Shared) (H : Hp) (C : Addr) (cl : List (Str × Addr)) (fp : List Addr), PG (X.blk s H scope (compEnvC scope cl C X.env) fp) t1 g1)
    (ht1 : ∀ (s : Shared) (H : Hp) (C : Addr) (cl : List (Str × Addr)) (fp : List Addr), PTs (X.blk s H scope (compEnvC scope cl C X.env) fp) ifs1 tt1)
    (hk : ∀ (s : Shared) (H : Hp) (C : Addr) (cl : List (Str × Addr)) (fp : List Addr), PE (X.blk s H scope (compEnvC scope cl C X.env) fp) kx tk)
    (he : ∀ (s : Shared) (H : Hp) (C : Addr) (cl : List (Str × Addr)) (fp : List Addr), PE (X.blk s H scope (compEnvC scope cl C X.env) fp) vx tv)
    (hs : ∀ x, foldedSetIterable i0 X.env x = pure x) (hs1 : ∀ env x, foldedSetIterable i1 env x = pure x)
    (I : Inv X pins σ H s) (h : tDc2 L wi g tt wi1 g1 tt1 tk tv (own.map (·.2)) vs1 σ H Q)
    (hRR : ∀ D C s' m H', Inv X pins σ H' s' → Q (.ref D) H' → s'.heap.Ns C m → FpOk X pins H' C → compPost (model X.prog X.w) X.A X.xe use Qf (.ref D) C (.ok .next) s') :
    wpAny (model X.prog X.w) X.A (comprehension (dc2E kx vx t0 i0 ifs0 t1 i1 ifs1 scope pos) scope X.env pos' newDict false (eval i0 X.env) use) Qf X.xe s := by
  have hfree : ∀ y ∈ scope.names, y.2 = .free → ∃ c, X.env.cells.lookup y.1 = some c := fun y hy e => (ok.free y hy e).elim (fun k => I.ok.has _ (.inl k)) fun k => I.ok.has _ (.inr k)
  refine wpAny_comprehension_free (use := use) rfl hs (closure_ok hfree) ok.kind (fun y hy e => by rw [ok.uniq y hy, e]) (thn (hi.run pins s σ H _ I h) fun xv s1 hx => thn hx fun itv s2 h2 => ?_)
  obtain ⟨it, fp, tn, J, H2, e, I2, T, t2, f2, q⟩ := h2
  subst e
  refine wpAny_newObj_type (newEnv_comp ?_)
  obtain ⟨W, ⟨m0, w0⟩, turn⟩ := q _ (I2.hok.fresh (Nat.le_refl _))
  -- the dict, then the block's own namespace
  obtain ⟨s3, e3⟩ : ∃ s3 : Shared, s3 = { s2 with heap := s2.heap.push { cls := .type "dict", data := .dict #[] } } := ⟨_, rfl⟩
  obtain ⟨H3, eH⟩ : ∃ H3 : Hp, H3 = upd H2 s2.heap.objs.size (L.o0 s2.heap.objs.size) := ⟨_, rfl⟩
  have I3 : Inv X pins σ H3 s3 := by
    rw [e3, eH]
    exact I2.laid (t' := s2.toks) (fun b o e => Heap.get?_push_of_some _ e) (Nat.le_refl _) (hL.new rfl rfl I2)
  have old : ∀ b ∈ fp, b < s2.heap.objs.size := fun b hb => let ⟨o, e, _⟩ := T.obj _ _ t2 b hb; Heap.lt_size e
  have push3 : ∀ {b o}, s2.heap.get? b = some o → s3.heap.get? b = some o := fun e => by rw [e3]; exact Heap.get?_push_of_some _ e
  have f3 : ∀ b ∈ fp, FpOk X pins H3 b ∧ b < s3.heap.objs.size := fun b hb => by
    refine ⟨⟨by rw [eH, upd_ne (Nat.ne_of_lt (old b hb))]; exact (f2 b hb).1, (f2 b hb).2⟩, ?_⟩
    obtain ⟨o, e, _⟩ := T.obj _ _ t2 b hb
    exact Heap.lt_size (push3 e)
  have t3 : tn 0 s3.heap := T.keep _ _ _ t2 fun b _ o e => push3 e
  have I4 := block_start I3 ok hN f3
  rw [← e3]
  rw [← eH] at w0
  show codeAny _ _ (.compStart (dc2E kx vx t0 i0 ifs0 t1 i1 ifs1 scope pos) 0 (.ref it) (.ref s2.heap.objs.size) (compEnvC scope (cellsFrom (s3.heap.objs.size + 1) scope.names (cloFrom X.env.cells scope.names [])) s3.heap.objs.size X.env))
    (compPost (model X.prog X.w) X.A X.xe use Qf (.ref s2.heap.objs.size) s3.heap.objs.size) { s3 with heap := pushCells (s3.heap.push { cls := .type "dict", data := .dict #[] }) scope.names }
  have pi1 := hi1 s3 H3 s3.heap.objs.size (cellsFrom (s3.heap.objs.size + 1) scope.names (cloFrom X.env.cells scope.names [])) fp
  have pg1 := hg1 s3 H3 s3.heap.objs.size (cellsFrom (s3.heap.objs.size + 1) scope.names (cloFrom X.env.cells scope.names [])) fp
  have pt1 := ht1 s3 H3 s3.heap.objs.size (cellsFrom (s3.heap.objs.size + 1) scope.names (cloFrom X.env.cells scope.names [])) fp
  have pk := hk s3 H3 s3.heap.objs.size (cellsFrom (s3.heap.objs.size + 1) scope.names (cloFrom X.env.cells scope.names [])) fp
  have pv := he s3 H3 s3.heap.objs.size (cellsFrom (s3.heap.objs.size + 1) scope.names (cloFrom X.env.cells scope.names [])) fp
  have pg := hg s3 H3 s3.heap.objs.size (cellsFrom (s3.heap.objs.size + 1) scope.names (cloFrom X.env.cells scope.names [])) fp
  have pt := ht s3 H3 s3.heap.objs.size (cellsFrom (s3.heap.objs.size + 1) scope.names (cloFrom X.env.cells scope.names [])) fp
  have t4 : tn 0 (pushCells (s3.heap.push { cls := .type "dict", data := .dict #[] }) scope.names) := T.keep _ _ _ t3 fun b _ o e => pushCells_keeps _ _ _ _ (Heap.get?_push_of_some _ e)
  have hLoc : (compEnvC scope (cellsFrom (s3.heap.objs.size + 1) scope.names (cloFrom X.env.cells scope.names [])) s3.heap.objs.size X.env).locals = s3.heap.objs.size := rfl
  generalize compEnvC scope (cellsFrom (s3.heap.objs.size + 1) scope.names (cloFrom X.env.cells scope.names [])) s3.heap.objs.size X.env = ce at I4 pi1 pg1 pt1 pk pv pg pt hLoc ⊢
  have loop : codeAny (model X.prog X.w) X.A (.compLoop (dc2E kx vx t0 i0 ifs0 t1 i1 ifs1 scope pos) 0 (.ref it) (.ref s2.heap.objs.size) ce) (compPost (model X.prog X.w) X.A X.xe use Qf (.ref s2.heap.objs.size) s3.heap.objs.size)
      { s3 with heap := pushCells (s3.heap.push { cls := .type "dict", data := .dict #[] }) scope.names } := by
    refine clause_loop (X := X.blk s3 H3 scope ce fp) (pins := []) (Fin' := Q (.ref s2.heap.objs.size)) hc rfl (turn_first _ _ _) rfl rfl T pg pt (fun σ' H' s' I' n b hb => ⟨n b hb, (I'.ok.exf b hb).1, I'.ok.exfs b hb, .inl hb, fun x c e => (I'.ok.exf b hb).2 x c e, fun p hp => absurd (show p ∈ ([] : List (Addr × Obj)) ++ [] from hp) (by simp)⟩)
      (fun ps s' σ' H' Q' I' kp q' => sec_run (X := X.blk s3 H3 scope ce fp) hL rfl hc pk pv pi1 pg1 pt1 (hs1 ce) hv I' kp q') (fun s' H' I' q' => ?_) turn I4 t4 (fun b hb => (f3 b hb).1.1) w0
    -- back in the def's context
    have back : Inv X pins σ H' s' := I3.call' (ch := fp) I'.os I'.base I'.hok I'.bare fun b hb => ⟨(f3 b hb).1.2.2.2.1, (f3 b hb).1.2.1, (f3 b hb).1.2.2.2.2.1, (f3 b hb).1.2.2.2.2.2⟩
    obtain ⟨m, hn, _⟩ := I'.loc
    have free : H' ce.locals = none := I'.free
    have hn : s'.heap.Ns ce.locals m := hn
    rw [hLoc] at hn free
    exact hRR _ _ s' m H' back q' hn (I3.fpOk (b := s3.heap.objs.size) (H' := H') (Nat.le_refl _) free)
  exact codeAny_compStart_dict loop (T.self X.A 0 _ _ _ t4 loop)
theorem pe_dc2 {L : Lays} (hL : LaysOk X.prog X.w X.A X.K L) {kx vx t0 i0 t1 i1 : Expr} {ifs0 ifs1 : List Expr} {scope : Scope} {own : List (Str × Nat)} {vs1 : List Nat} {pos : Pos} {wi wi1 : TI} {g g1 : TG} {tt tt1 : TT} {tk tv : TE} (hc : X.calm = true) (hN : X.N.Nodup) (hi : PI X t0 i0 wi)
    (ok : BlkOk X.N X.env.scope scope own) (hv : ∀ i ∈ vs1, i ∈ own.map (·.2))
    (hg : ∀ (s : Shared) (H : Hp) (C : Addr) (cl : List (Str × Addr)) (fp : List Addr), PG (X.blk s H scope (compEnvC scope cl C X.env) fp) t0 g)
    (ht : ∀ (s : Shared) (H : Hp) (C : Addr) (cl : List (Str × Addr)) (fp : List Addr), PTs (X.blk s H scope (compEnvC scope cl C X.env) fp) ifs0 tt)
    (hi1 : ∀ (s : Shared) (H : Hp) (C : Addr) (cl : List (Str × Addr)) (fp : List Addr), PI (X.blk s H scope (compEnvC scope cl C X.env) fp) t1 i1 wi1)
    (hg1 : ∀ (s : Shared) (H : Hp) (C : Addr) (cl : List (Str × Addr)) (fp : List Addr), PG (X.blk s H scope (compEnvC scope cl C X.env) fp) t1 g1)
    (ht1 : ∀ (s : Shared) (H : Hp) (C : Addr) (cl : List (Str × Addr)) (fp : List Addr), PTs (X.blk s H scope (compEnvC scope cl C X.env) fp) ifs1 tt1)
    (hk : ∀ (s : Shared) (H : Hp) (C : Addr) (cl : List (Str × Addr)) (fp : List Addr), PE (X.blk s H scope (compEnvC scope cl C X.env) fp) kx tk)
    (he : ∀ (s : Shared) (H : Hp) (C : Addr) (cl : List (Str × Addr)) (fp : List Addr), PE (X.blk s H scope (compEnvC scope cl C X.env) fp) vx tv)
    (hs : ∀ x, foldedSetIterable i0 X.env x = pure x := by intro _; rfl) (hs1 : ∀ env x, foldedSetIterable i1 env x = pure x := by intro _ _; rfl) :
    PE X (dc2E kx vx t0 i0 ifs0 t1 i1 ifs1 scope pos) (tDc2 L wi g tt wi1 g1 tt1 tk tv (own.map (·.2)) vs1) := by
  refine ⟨fun pins s σ H Q I h => ?_⟩
  rw [arm_eval_DictComp]
  refine dc2_core (use := none) hL hc hN hi ok hv hg ht hi1 hg1 ht1 hk he hs hs1 I h fun D C s' m H' I' q hn fp => ?_
  obtain ⟨a0, a1, a2, a3, a4, a5⟩ := fp
  exact ⟨m, hn, fun h'' sb => ⟨.ref D, H', I'.turned (t' := s'.toks) (fun b o hb e => (sb.2 b hb).trans e) a0 a1 a3 a4 a5, rfl, q⟩⟩
end
end M
namespace M
open PySem L2
/-- the state while a comprehension's dict is built at D -/
structure Bd (A : Act) (D : Addr) (t : Bool) (σ : L2.St) (r : Env) (G H : Hp) (ds : List (Val × Val)) : Prop where
  ok : Ok A G H σ r
  rt : Root A.w G H (.dct t ds) D
  ng : G D = none
  nr : ¬ Rt H r σ D
/-- what happens meanwhile, but for D -/
structure Chg (D : Addr) (σ : L2.St) (r : Env) (G H : Hp) (σ' : L2.St) (r' : Env) (G' H' : Hp) : Prop where
  ex : Le G G'
  keep : ∀ a o, a ≠ D → H a = some o → ¬ Rt H r σ a → KpO o (H' a)
  grow : ∀ a, a ≠ D → G a = none → G' a ≠ none → H a = none ∨ Rt H r σ a
  rts : ∀ a, a ≠ D → Rt H' r' σ' a → Rt H r σ a ∨ H a = none
theorem Chg.refl {D : Addr} {σ : L2.St} {r : Env} {G H : Hp} : Chg D σ r G H σ r G H := ⟨Le.refl _, fun _ _ _ h _ => KpO.of h, fun _ _ h h' => absurd h h', fun _ _ h => .inl h⟩
theorem Chg.back {D : Addr} {σ σ1 : L2.St} {r r1 : Env} {G H G1 H1 : Hp} (a : Chg D σ r G H σ1 r1 G1 H1) {x : Addr} (ne : x ≠ D) (z : H1 x = none) : Rt H r σ x ∨ H x = none := by
  by_cases n : Rt H r σ x
  · exact .inl n
  · right
    cases e : H x with
    | none => rfl
    | some o => obtain ⟨u, e'⟩ := (a.keep x o ne e n).has; rw [e'] at z; cases z
theorem Chg.trans {D : Addr} {σ σ1 σ2 : L2.St} {r r1 r2 : Env} {G H G1 H1 G2 H2 : Hp} (a : Chg D σ r G H σ1 r1 G1 H1) (b : Chg D σ1 r1 G1 H1 σ2 r2 G2 H2) : Chg D σ r G H σ2 r2 G2 H2 where
  ex := a.ex.trans b.ex
  keep := fun x o ne h n => (a.keep x o ne h n).trans fun u e => b.keep x u ne e fun z => by
    rcases a.rts x ne z with y | y
    · exact n y
    · rw [h] at y; cases y
  grow := fun x ne h h' => by
    by_cases g : G1 x = none
    · rcases b.grow x ne g h' with y | y
      · exact (a.back ne y).symm
      · exact (a.rts x ne y).symm
    · exact a.grow x ne h g
  rts := fun x ne z => by
    rcases b.rts x ne z with y | y
    · exact a.rts x ne y
    · exact a.back ne y
theorem Step.chg {D : Addr} {σ : L2.St} {r r' : Env} {G H G' H' : Hp} (s : Step σ r G H r' G' H') : Chg D σ r G H σ r' G' H' := ⟨s.ex, fun a o _ h n => s.keep a o h n, fun a _ h h' => s.grow a h h', fun a _ h => s.rts a h⟩
section
variable {A : Act} {D : Addr} {t : Bool} {σ : L2.St} {r : Env} {G H : Hp} {ds : List (Val × Val)}
theorem Bd.has (b : Bd A D t σ r G H ds) : ∃ o, H D = some o ∧ Con o := b.rt.con
/-- a step that keeps D -/
theorem Bd.step {r' : Env} {G' H' : Hp} (b : Bd A D t σ r G H ds) (k : Ok A G' H' σ r') (s : Step σ r G H r' G' H') : Bd A D t σ r' G' H' ds := by
  obtain ⟨o, h, _⟩ := b.has
  refine ⟨k, b.rt.monoK s.ex (flat_all rfl fun o h => s.keep D o h b.nr), s.none b.ng (by rw [h]; simp) b.nr, fun z => ?_⟩
  rcases s.rts D z with y | y
  · exact b.nr y
  · rw [h] at y; cases y
theorem Bd.wipe {sl : List Nat} (b : Bd A D t σ r G H ds) (hio : ∀ i ∈ A.io, i ∉ sl) : Bd A D t (L2.wipe σ sl) (wipeR r sl) G H ds := ⟨b.ok.wipe hio, b.rt, b.ng, fun z => b.nr (rt_wipe z)⟩
end
/-- m says what body does to the dict at D -/
def BodyOk (A : Act) (D : Addr) (kd : Bool) (sl : List Nat) (body : L2.St → Hp → (Hp → Prop) → Prop) (m : List (Val × Val) → Env → DR) : Prop := ∀ (σ : L2.St) (r : Env) (G H : Hp) (ds : List (Val × Val)) (Nx : Hp → Prop), Bd A D kd σ r G H ds →
  (match m ds r with
    | .ok ds' r' => ∀ σ' G' H', Bd A D kd σ' r' G' H' ds' → Chg D σ r G H σ' r' G' H' → wipe σ' sl = wipe σ sl → Nx H'
    | _ => False) → body σ H Nx
def clL (t : TF) (c : BF) (m : List (Val × Val) → Env → DR) (sl : List Nat) : List Val → List (Val × Val) → Env → DR
  | [], acc, r => .ok acc r
  | v :: vs, acc, r => match t v r with
    | some r1 => match c r1 with
      | .ok true r2 => match m acc r2 with
        | .ok acc' r3 => clL t c m sl vs acc' (wipeR r3 sl)
        | _ => .bad
      | .ok false r2 => clL t c m sl vs acc (wipeR r2 sl)
      | _ => .bad
    | none => .bad
def layM (fk f : EF) : List (Val × Val) → Env → DR := fun acc r => match frz fk r with
  | .ok _ k r1 => match frz f r1 with
    | .ok _ y r2 => match keyOf k with
      | some q => if acc.length < 100000 then .ok (dPut acc q y) r2 else .bad
      | none => .bad
    | _ => .bad
  | _ => .bad
def secM (fi : IF) (t : TF) (c : BF) (m : List (Val × Val) → Env → DR) (sl : List Nat) : List (Val × Val) → Env → DR := fun acc r => match fi r with
  | .ok vs r1 => clL t c m sl vs acc (wipeR r1 sl)
  | _ => .bad
/-- the key and the value, whatever the dict is -/
theorem lay_two {A : Act} {D : Addr} {kd : Bool} {L : Lays} {fk f : EF} {σ : L2.St} {r : Env} {G H : Hp} {ds : List (Val × Val)} {Nx : Hp → Prop} (b : Bd A D kd σ r G H ds) {kd' vd : Val} {r1 r2 : Env} (hk : frz fk r = .ok false kd' r1) (hv : frz f r1 = .ok false vd r2)
    (h : ∀ x y G2 H2, Bd A D kd σ r2 G2 H2 ds → Step σ r G H r2 G2 H2 → Rep A.w G2 kd' x → Rep A.w G2 vd y → ∃ H6, L.put D x y H2 H6 ∧ Nx H6) : tLay L D (tE A W0 (frz fk)) (tE A W0 (frz f)) σ H Nx := by
  refine ⟨r, G, b.ok, ?_⟩
  simp only [hk]
  intro x G1 H1 R1
  refine ⟨r1, G1, R1.ok, ?_⟩
  simp only [hv]
  intro y G2 H2 R2
  have st := R1.st.trans R2.st
  exact h x y G2 H2 (b.step R2.ok st) st (Rep.mono R2.st.ex R1.tr) R2.tr
theorem lay_end {A : Act} {D : Addr} {kd : Bool} {sl : List Nat} {σ : L2.St} {r r2 : Env} {G H G2 H2 : Hp} {ds ds2 : List (Val × Val)} {o : HO} {Nx : Hp → Prop} (lD : A.L D ∨ A.H0 D = none) (b2 : Bd A D kd σ r2 G2 H2 ds) (st : Step σ r G H r2 G2 H2) (ro : Root A.w G2 (upd H2 D o) (.dct kd ds2) D) (ho : ∀ ps, o ≠ .tbl ps)
    (h : ∀ σ' G' H', Bd A D kd σ' r2 G' H' ds2 → Chg D σ r G H σ' r2 G' H' → wipe σ' sl = wipe σ sl → Nx H') : Nx (upd H2 D o) := by
  refine h σ G2 _ ⟨b2.ok.tmp b2.ng (.inr b2.has) b2.nr lD ho, ro, b2.ng, fun z => b2.nr ((b2.ok.tmpR b2.nr D).mp z)⟩ ⟨st.ex, fun a o ne ha n => ?_, fun a _ ha ha' => st.grow a ha ha', fun a _ h => st.rts a ((b2.ok.tmpR b2.nr a).mp h)⟩ rfl
  rw [upd_ne ne]
  exact st.keep a o ha n
theorem lay_ok {A : Act} {D : Addr} {sl : List Nat} {fk f : EF} (lD : A.L D ∨ A.H0 D = none) : BodyOk A D false sl (tLay laysK D (tE A W0 (frz fk)) (tE A W0 (frz f))) (layM fk f) := fun σ r G H ds Nx b h => by
  unfold layM at h
  cases hk : frz fk r with
  | bad => simp only [hk] at h
  | ex e r1 => simp only [hk] at h
  | ok o1 kd r1 =>
    have eo := frz_false hk
    subst eo
    simp only [hk] at h
    cases hv : frz f r1 with
    | bad => simp only [hv] at h
    | ex e r2 => simp only [hv] at h
    | ok o2 vd r2 =>
      have eo := frz_false hv
      subst eo
      simp only [hv] at h
      cases hq : keyOf kd with
      | none => simp only [hq] at h
      | some q =>
        simp only [hq] at h
        by_cases hz : ds.length < 100000
        case neg => rw [if_neg hz] at h; exact h.elim
        rw [if_pos hz] at h
        refine lay_two b hk hv fun x y G2 H2 b2 st rx ry => ?_
        obtain ⟨_, acc, hacc, rk⟩ | ⟨z, _⟩ := b2.rt
        · obtain ⟨ek, hb⟩ := rrep_key (H := H2) (.inl rx) hq
          exact ⟨_, ⟨acc, q, ek, hacc, by rw [← repK_length rk]; exact Nat.lt_of_lt_of_le hz (by decide), rfl⟩, lay_end lD b2 st (root_dK upd_same (repK_put rk hb ry)) (fun _ z => nomatch z) h⟩
        · cases z
theorem clause_ok {A : Act} {D : Addr} {kd : Bool} {sl st' : List Nat} {t : TF} {c : BF} {m : List (Val × Val) → Env → DR} {body : L2.St → Hp → (Hp → Prop) → Prop} {σ : L2.St} {J : It} {vs : List Val} {G1 : Hp} {r0 : Env} {G0 H0 : Hp} {ds0 : List (Val × Val)} {Fin' : Hp → Prop}
    (tok : TOk st' t) (hs : ∀ j ∈ st', j ∈ sl) (hio : ∀ i ∈ A.io, i ∉ sl) (hb : BodyOk A D kd sl body m) (io : ItOk A.w J G1 vs) (b0 : Bd A D kd (wipe σ sl) r0 G0 H0 ds0) (le : Le G1 G0)
    (h : match clL t c m sl vs ds0 r0 with
      | .ok ds' r' => ∀ G' H', Bd A D kd (wipe σ sl) r' G' H' ds' → Chg D (wipe σ sl) r0 G0 H0 (wipe σ sl) r' G' H' → Fin' H'
      | _ => False) :
    ∃ W : Nat → Nat → Hp → Prop, (∃ m, W 0 m H0) ∧ ∀ i m H, W i m H → (J.stop i H ∧ Fin' H) ∨ (J.go i H ∧ ∃ Nx : Hp → Prop, (∀ H', Nx H' → ∃ m', m' < m ∧ W (i + 1) m' H') ∧
      ∀ x H', J.yld i H x H' → tTg A st' t x (wipe σ sl) H' fun σ2 H2 => Kp (wipe σ sl) σ2 ∧ tBo A W0 c σ2 H2 fun b H3 => if b = true then body σ2 H3 Nx else Nx H3) := by
  let Fl : DR → Prop := fun a => match a with
    | .ok ds' r' => ∀ G' H', Bd A D kd (wipe σ sl) r' G' H' ds' → Chg D (wipe σ sl) r0 G0 H0 (wipe σ sl) r' G' H' → Fin' H'
    | _ => False
  let Iv : Nat → Hp → Prop := fun i H => ∃ r G ds, Bd A D kd (wipe σ sl) r G H ds ∧ Chg D (wipe σ sl) r0 G0 H0 (wipe σ sl) r G H ∧ Fl (clL t c m sl (vs.drop i) ds r)
  refine ⟨fun i n H => i ≤ vs.length ∧ n = vs.length - i ∧ Iv i H, ⟨vs.length, Nat.zero_le _, rfl, r0, G0, ds0, b0, Chg.refl, h⟩, ?_⟩
  rintro i n H ⟨hi, hn, r, G, ds, b, ch, fl⟩
  have leG : Le G1 G := le.trans ch.ex
  by_cases hlt : i < vs.length
  · refine .inr ⟨io.go G H i leG b.ok.sub hlt, Iv (i + 1), fun H' q => ⟨vs.length - (i + 1), by omega, hlt, rfl, q⟩, fun x H' hy => ?_⟩
    obtain ⟨G2, gr, rp⟩ := io.yld G H i vs[i] x H' leG b.ok.sub (by simp [hlt]) hy
    have b2 := b.step (b.ok.grow gr) (gr.step b.ok)
    refine ⟨r, G2, vs[i], b2.ok, rp, ?_⟩
    rw [List.drop_eq_getElem_cons hlt, clL] at fl
    cases ht : t vs[i] r with
    | none => simp only [ht] at fl; exact fl.elim
    | some r3 =>
      simp only [ht] at fl ⊢
      intro σ2 k3 hj hl
      have hw := wipe_eq (σ := σ) (σ2 := σ2) hs hj hl
      obtain ⟨tk1, tk2⟩ := tok _ _ _ ht
      have rt3 : ∀ a, Rt H' r3 σ2 a → Rt H' r (wipe σ sl) a := fun a ⟨j, w, d, h1, h2, h3⟩ => by
        by_cases q : j ∈ st'
        · exact absurd h1 (tk2 j q w)
        · exact ⟨j, w, d, by rw [← tk1 j q]; exact h1, by rw [← hj j q]; exact h2, h3⟩
      have b3 : Bd A D kd σ2 r3 G2 H' ds := ⟨k3, b2.rt, b2.ng, fun z => b2.nr (rt3 D z)⟩
      have c3 : Chg D (wipe σ sl) r0 G0 H0 σ2 r3 G2 H' := ch.trans ((gr.step b.ok).chg.trans ⟨Le.refl _, fun _ _ _ h _ => KpO.of h, fun _ _ h h' => absurd h h', fun a _ h => .inl (rt3 a h)⟩)
      -- the turn's end
      have fin : ∀ {σ4 : L2.St} {r4 : Env} {G4 H4 : Hp} {ds4 : List (Val × Val)}, Bd A D kd σ4 r4 G4 H4 ds4 → Chg D σ2 r3 G2 H' σ4 r4 G4 H4 → wipe σ4 sl = wipe σ2 sl → Fl (clL t c m sl (vs.drop (i + 1)) ds4 (wipeR r4 sl)) → Iv (i + 1) H4 := fun {σ4 r4 G4 H4 ds4} b4 c4 e4 f4 => by
        have e5 : wipe σ4 sl = wipe σ sl := e4.trans hw
        have b5 := b4.wipe (sl := sl) hio
        rw [e5] at b5
        refine ⟨_, G4, ds4, b5, c3.trans (c4.trans ⟨Le.refl _, fun _ _ _ h _ => KpO.of h, fun _ _ h h' => absurd h h', fun a _ z => .inl (rt_wipe (sl := sl) (by rw [e5]; exact z))⟩), f4⟩
      refine ⟨⟨by rw [← hw, wipe_length], fun j v e => by rw [← hw] at e; exact (wipe_some e).1⟩, r3, G2, k3, ?_⟩
      cases hc : c r3 with
      | bad => simp only [hc] at fl; exact fl.elim
      | ex e r4 => simp only [hc] at fl; exact fl.elim
      | ok bb r4 =>
        simp only [hc] at fl ⊢
        intro G4 H4 k4 st4
        have b4 := b3.step k4 st4
        cases bb with
        | false =>
          simp only [Bool.false_eq_true, if_false]
          exact fin b4 st4.chg rfl fl
        | true =>
          simp only [if_true] at fl ⊢
          refine hb σ2 r4 G4 H4 ds _ b4 ?_
          cases hm : m ds r4 with
          | bad => simp only [hm] at fl; exact fl.elim
          | ex e r5 => simp only [hm] at fl; exact fl.elim
          | ok ds5 r5 =>
            simp only [hm] at fl ⊢
            intro σ5 G5 H5 b5 c5 e5
            exact fin b5 (st4.chg.trans c5) e5 fl
  · have e : i = vs.length := by omega
    subst e
    rw [List.drop_length, clL] at fl
    exact .inl ⟨io.stop G H _ leG b.ok.sub (Nat.le_refl _), fl G H b ch⟩

theorem wipe_wipe {σ : L2.St} {sl sl1 : List Nat} (h : ∀ i ∈ sl1, i ∈ sl) : wipe (wipe σ sl1) sl = wipe σ sl :=
  wipe_eq (sl' := sl) (fun _ h => h) (fun j hj => by rw [wipe_out hj, wipe_out fun z => hj (h j z)]) (by rw [wipe_length, wipe_length])
theorem sec_ok {A : Act} {D : Addr} {kd : Bool} {L : Lays} {ly : List (Val × Val) → Env → DR} {sl sl1 st1 : List Nat} {fi1 : IF} {t1 : TF} {c1 : BF} {fk f : EF} (hly : BodyOk A D kd sl1 (tLay L D (tE A W0 (frz fk)) (tE A W0 (frz f))) ly) (tok : TOk st1 t1) (hs : ∀ j ∈ st1, j ∈ sl1) (hio : ∀ i ∈ A.io, i ∉ sl1) (hsl : ∀ i ∈ sl1, i ∈ sl) :
    BodyOk A D kd sl (tSec L D (tIt A W0 fi1) (tTg A st1 t1) (tBo A W0 c1) (tE A W0 (frz fk)) (tE A W0 (frz f)) sl1) (secM fi1 t1 c1 ly sl1) := fun σ r G H ds Nx b h => by
  refine ⟨r, G, b.ok, ?_⟩
  unfold secM at h
  cases hf : fi1 r with
  | bad => simp only [hf] at h
  | ex e r1 => simp only [hf] at h
  | ok vs r1 =>
    simp only [hf] at h ⊢
    intro J G1 H1 k1 st1 io
    refine clause_ok tok hs hio hly io ((b.step k1 st1).wipe hio) (Le.refl _) ?_
    cases hm : clL t1 c1 ly sl1 vs ds (wipeR r1 sl1) with
    | bad => simp only [hm] at h
    | ex e r2 => simp only [hm] at h
    | ok ds2 r2 =>
      simp only [hm] at h ⊢
      intro G2 H2 b2 c2
      exact h _ G2 H2 b2 (st1.chg.trans (Chg.trans ⟨Le.refl _, fun _ _ _ h _ => KpO.of h, fun _ _ h h' => absurd h h', fun a _ z => .inl (rt_wipe z)⟩ c2)) (wipe_wipe hsl)
def dc2 (fi : IF) (t : TF) (c : BF) (fi1 : IF) (t1 : TF) (c1 : BF) (fk f : EF) (sl sl1 : List Nat) : EF := fun r => match fi r with
  | .ok vs r1 => match clL t c (secM fi1 t1 c1 (layM fk f) sl1) sl vs [] (wipeR r1 sl) with
    | .ok ys r2 => .ok true (.dct false ys) (restR r1 r2 sl)
    | _ => .bad
  | .ex e r1 => .ex e r1
  | .bad => .bad
/-- both kinds -/
def dc2G (kd : Bool) (ly : List (Val × Val) → Env → DR) (fi : IF) (t : TF) (c : BF) (fi1 : IF) (t1 : TF) (c1 : BF) (sl sl1 : List Nat) : EF := fun r => match fi r with
  | .ok vs r1 => match clL t c (secM fi1 t1 c1 ly sl1) sl vs [] (wipeR r1 sl) with
    | .ok ys r2 => .ok true (.dct kd ys) (restR r1 r2 sl)
    | _ => .bad
  | .ex e r1 => .ex e r1
  | .bad => .bad
theorem dc2_of {A : Act} {kd : Bool} {L : Lays} {ly : List (Val × Val) → Env → DR} {W : WX} {fi fi1 : IF} {t t1 : TF} {c c1 : BF} {fk f : EF} {sl sl1 st' st1 : List Nat} {σ : L2.St} {H : Hp} {Q : VK} (tok : TOk st' t) (hs : ∀ j ∈ st', j ∈ sl) (hio : ∀ i ∈ A.io, i ∉ sl) (tok1 : TOk st1 t1) (hs1 : ∀ j ∈ st1, j ∈ sl1) (hsl : ∀ i ∈ sl1, i ∈ sl)
    (h0 : ∀ G H D, Root A.w G (upd H D (L.o0 D)) (.dct kd []) D) (ho : ∀ D ps, L.o0 D ≠ .tbl ps) (hly : ∀ D, (A.L D ∨ A.H0 D = none) → BodyOk A D kd sl1 (tLay L D (tE A W0 (frz fk)) (tE A W0 (frz f))) ly) (h : tE A W (dc2G kd ly fi t c fi1 t1 c1 sl sl1) σ H Q) :
    tDc2 L (tIt A W fi) (tTg A st' t) (tBo A W0 c) (tIt A W0 fi1) (tTg A st1 t1) (tBo A W0 c1) (tE A W0 (frz fk)) (tE A W0 (frz f)) sl sl1 σ H Q := by
  obtain ⟨r, G, k, m⟩ := h
  refine ⟨r, G, k, ?_⟩
  unfold dc2G at m
  cases hf : fi r with
  | bad => rw [hf] at m; exact m.elim
  | ex e r' => rw [hf] at m; exact m
  | ok vs r1 =>
    simp only [hf] at m ⊢
    intro J G1 H1 k1 st1 io D hD
    have lD : A.L D ∨ A.H0 D = none := k1.fresh hD
    have rbD : ∀ b, Rt (upd H1 D (L.o0 D)) (wipeR r1 sl) (wipe σ sl) b → Rt H1 (wipeR r1 sl) (wipe σ sl) b := fun b z => ((k1.wipe (sl := sl) hio).rtK (Ok.growK (Grow.laidH (o := L.o0 D) k1.sub hD (ho D))) b).mp z
    have b0 : Bd A D kd (wipe σ sl) (wipeR r1 sl) G1 (upd H1 D (L.o0 D)) [] :=
      ⟨(k1.wipe (sl := sl) hio).grow (Grow.laidH (o := L.o0 D) k1.sub hD (ho D)), h0 _ _ _, k1.sub.back hD, fun z => (k1.wipe (sl := sl) hio).notRt hD (rbD D z)⟩
    refine clause_ok tok hs hio (sec_ok (hly D lD) tok1 hs1 (fun i hi z => hio i hi (hsl i z)) hsl) io b0 (Le.refl _) ?_
    cases hm : clL t c (secM fi1 t1 c1 ly sl1) sl vs [] (wipeR r1 sl) with
    | bad => simp only [hm] at m
    | ex e r2 => simp only [hm] at m
    | ok ys r2 =>
      simp only [hm] at m ⊢
      intro G2 H2 b2 c2
      have st2 : Step (wipe σ sl) (wipeR r1 sl) G1 H1 r2 G2 H2 := ⟨c2.ex, fun a o ha n => c2.keep a o (ne_of_none ha hD) (by rw [upd_ne (ne_of_none ha hD)]; exact ha) (fun z => n (rbD a z)), fun a ha ha' => by
        have ne : a ≠ D := fun z => ha' (by rw [z]; exact b2.ng)
        have := c2.grow a ne ha ha'
        rw [upd_ne ne] at this
        exact this.imp id (rbD a), fun a z => by
        by_cases ne : a = D
        · exact .inr (by rw [ne]; exact hD)
        · have := c2.rts a ne z
          rw [upd_ne ne] at this
          exact this.imp (rbD a) id⟩
      obtain ⟨k3, st3⟩ := k1.unwipe b2.ok st2
      refine m (.ref D) G2 H2 ⟨k3, st1.trans st3, trep_t b2.rt b2.ng (k1.unwipeD st2 hD b2.nr) lD, fr_one (st1.fresh hD)⟩
section
variable {X : Cx} {A : Act} {W : WX} {kx vx t0 i0 t1 i1 : Expr} {ifs0 ifs1 : List Expr} {scope : Scope} {own : List (Str × Nat)} {pos : Pos} {fi fi1 : IF} {t t2 : TF} {c c1 : BF} {fk f : EF} {st' st1 sl sl1 : List Nat}
theorem pe_dc2M (hc : X.calm = true) (hN : X.N.Nodup) (hi : PI X t0 i0 (tIt A W fi)) (ok : BlkOk X.N X.env.scope scope own)
    (hg : ∀ (s : Shared) (H : Hp) (C : Addr) (cl : List (Str × Addr)) (fp : List Addr), PG (X.blk s H scope (compEnvC scope cl C X.env) fp) t0 (tTg A st' t))
    (ht : ∀ (s : Shared) (H : Hp) (C : Addr) (cl : List (Str × Addr)) (fp : List Addr), PTs (X.blk s H scope (compEnvC scope cl C X.env) fp) ifs0 (tBo A W0 c))
    (hi1 : ∀ (s : Shared) (H : Hp) (C : Addr) (cl : List (Str × Addr)) (fp : List Addr), PI (X.blk s H scope (compEnvC scope cl C X.env) fp) t1 i1 (tIt A W0 fi1))
    (hg1 : ∀ (s : Shared) (H : Hp) (C : Addr) (cl : List (Str × Addr)) (fp : List Addr), PG (X.blk s H scope (compEnvC scope cl C X.env) fp) t1 (tTg A st1 t2))
    (ht1 : ∀ (s : Shared) (H : Hp) (C : Addr) (cl : List (Str × Addr)) (fp : List Addr), PTs (X.blk s H scope (compEnvC scope cl C X.env) fp) ifs1 (tBo A W0 c1))
    (hk : ∀ (s : Shared) (H : Hp) (C : Addr) (cl : List (Str × Addr)) (fp : List Addr), PE (X.blk s H scope (compEnvC scope cl C X.env) fp) kx (tE A W0 fk))
    (he : ∀ (s : Shared) (H : Hp) (C : Addr) (cl : List (Str × Addr)) (fp : List Addr), PE (X.blk s H scope (compEnvC scope cl C X.env) fp) vx (tE A W0 f))
    (tok : TOk st' t) (hs' : ∀ j ∈ st', j ∈ sl) (tok1 : TOk st1 t2) (hs1' : ∀ j ∈ st1, j ∈ sl1) (hv : ∀ i ∈ sl1, i ∈ sl) (hio : ∀ i ∈ A.io, i ∉ sl) (hsl : own.map (·.2) = sl := by rfl)
    (hs : ∀ x, foldedSetIterable i0 X.env x = pure x := by intro _; rfl) (hs1 : ∀ env x, foldedSetIterable i1 env x = pure x := by intro _ _; rfl) :
    PE X (.DictComp kx vx [⟨t0, i0, ifs0, 0⟩, ⟨t1, i1, ifs1, 0⟩] scope pos) (tE A W (dc2 fi t c fi1 t2 c1 fk f sl sl1)) := by
  subst hsl
  exact PE.imp (pe_dc2 laysK_ok hc hN hi ok hv hg ht hi1 hg1 ht1 (fun s H C cl fp => pe_frz (hk s H C cl fp)) (fun s H C cl fp => pe_frz (he s H C cl fp)) hs hs1) fun _ _ _ q => dc2_of (kd := false) tok hs' hio tok1 hs1' hv (fun _ _ _ => root_dK upd_same repK_nil0) (fun _ _ z => nomatch z) (fun D lD => lay_ok lD) q
end
end M
namespace M
open PySem L2
def Pfmt : List Val → Option (Bool × Val)
  | [.str s] => some (false, .str s)
  | [.int i] => if i.natAbs.log2 < 1920 ∧ (toString i : Str).length ≤ sizeLine then some (false, .str (toString i)) else none
  | _ => none
def fsL : List EF → Str → EF
  | [], acc, r => .ok false (.str acc) r
  | f :: fs, acc, r => match f r with
    | .ok _ (.str y) r1 => if (acc ++ y).length ≤ sizeLine then fsL fs (acc ++ y) r1 else .bad
    | .ok _ _ _ => .bad
    | .ex e r1 => .ex e r1
    | .bad => .bad
def fstr (fs : List EF) : EF := fsL fs Str.empty
section
variable {X : Cx} {A : Act} {W : WX} {pos : Pos}
theorem pe_fmtM {e : Expr} {fo : OF} (he : PE X e (tO A W fo)) : PE X (.FormattedValue e (-1) none pos) (tE A W (prim Pfmt (osCons fo osNil))) :=
  PE.imp (pe_fmt he) fun σ H Q q => by
    have q1 := prim_os1 q
    obtain ⟨r, G, k, m⟩ := q1
    refine ⟨r, G, k, ?_⟩
    cases hf : fo r with
    | bad => simp only [hf] at m
    | ex e r' => simp only [hf] at m ⊢; exact m
    | ok h r1 =>
      simp only [hf] at m ⊢
      intro x G1 H1 k1 st1 t1
      obtain ⟨G2, vs, o, z, le, rr, hp, q2⟩ := m x G1 H1 k1 st1 t1
      unfold Pfmt at hp
      split at hp
      · obtain ⟨y, e, r1⟩ := rreps_one rr
        cases e; cases hp
        obtain ⟨rfl, hz⟩ := rrep_str r1
        exact .inl ⟨_, rfl, hz, str_new le hz q2⟩
      · split at hp
        · rename_i hb
          obtain ⟨y, e, r1⟩ := rreps_one rr
          cases e; cases hp
          obtain rfl := rrep_int r1
          exact .inr ⟨_, rfl, hb.1, str_new le hb.2 q2⟩
        · cases hp
      · cases hp
theorem fs_of {σ : L2.St} : ∀ {fs : List EF} {acc : Str} {r : Env} {G H : Hp} {Q : VK}, Ok A G H σ r → acc.length ≤ sizeLine →
    (match fsL fs acc r with
      | .ok o v r' => ∀ x G' H', Res A σ r G H r' G' H' o v x → Q x H'
      | .ex e r' => ExP A W G σ e r'
      | .bad => False) → tJs (fs.map fun f => tE A W (frz f)) acc σ H fun out H1 => Q (.str out) H1
  | [], acc, r, G, H, Q, k, hz, m => m (.str acc) G H ⟨k, Step.refl, (show Rep A.w G (.str acc) (.str acc) from rep_str.mpr ⟨rfl, hz⟩), fun z => nomatch z⟩
  | f :: fs, acc, r, G, H, Q, k, hz, m => by
    show tE A W (frz f) σ H fun x H1 => ∃ y : Str, x = .str y ∧ (acc ++ y).length ≤ sizeLine ∧ tJs (fs.map fun f => tE A W (frz f)) (acc ++ y) σ H1 _
    refine ⟨r, G, k, ?_⟩
    simp only [fsL] at m
    unfold frz
    cases hf : f r with
    | bad => simp only [hf] at m
    | ex e r1 => simp only [hf] at m ⊢; exact m
    | ok o v r1 =>
      simp only [hf] at m ⊢
      intro x G1 H1 R1
      cases v with
      | str y =>
        simp only at m
        by_cases hb : (acc ++ y).length ≤ sizeLine
        case neg => rw [if_neg hb] at m; exact m.elim
        rw [if_pos hb] at m
        obtain ⟨rfl, _⟩ := rep_str.mp (show Rep A.w G1 (.str y) x from R1.tr)
        refine ⟨y, rfl, hb, fs_of R1.ok hb ?_⟩
        cases h2 : fsL fs (acc ++ y) r1 with
        | bad => simp only [h2] at m
        | ex e r2 => simp only [h2] at m ⊢; exact m.mono R1.st.ex
        | ok o2 v2 r2 =>
          simp only [h2] at m ⊢
          intro z G2 H2 R2
          refine m z G2 H2 ⟨R2.ok, R1.st.trans R2.st, R2.tr, fun e a ea b hb => ?_⟩
          rcases R2.fr e a ea b hb with y | y
          · exact R1.st.fresh y
          · exact (R1.st.rts b y).symm
      | _ => exact m.elim
theorem pj_Nil : PJ X [] (([] : List EF).map fun f => tE A W (frz f)) := .nil
theorem pj_Cons {e : Expr} {es : List Expr} {f : EF} {fs : List EF} (h : PE X e (tE A W f)) (r : PJ X es (fs.map fun f => tE A W (frz f))) : PJ X (e :: es) ((f :: fs).map fun f => tE A W (frz f)) := .cons (pe_frz h) r
theorem pe_fstr {v1 v2 : Expr} {rest : List Expr} {fs : List EF} (h : PJ X (v1 :: v2 :: rest) (fs.map fun f => tE A W (frz f))) : PE X (.JoinedStr (v1 :: v2 :: rest) pos) (tE A W (fstr fs)) :=
  PE.imp (pe_joined h) fun σ H Q ⟨r, G, k, m⟩ => fs_of k (Nat.zero_le _) m
end
end M
namespace M
open PySem PySem.W PySem.Calls PyProof.Rows L2
/-- a property's getter -/
def pf (K : PySem.W.Frag) (C : Addr) (m : Str) : Addr := match recIn K (He.ma K C m) "property" with
  | some (.ref f :: _) => f
  | _ => 0
def propB (K : PySem.W.Frag) (C : Addr) (m : Str) : Bool := He.eqO (findIn K (.ref C) m) (some (some (.ref (He.ma K C m)))) && (He.eqO (specialIn K (.ref (He.ma K C m)) "__get__") (some (some (.builtin "property.__get__"))) &&
  (decide (takesIn K (.ref (He.ma K C m)) = some true) && (match recIn K (He.ma K C m) "property" with
    | some (.ref _ :: _) => true
    | _ => false)))
theorem propB_ok {K : PySem.W.Frag} {C : Addr} {m : Str} (h : propB K C m = true) : PropOf K C m (He.ma K C m) (pf K C m) := by
  obtain ⟨h1, h⟩ := He.ba h
  obtain ⟨h2, h⟩ := He.ba h
  obtain ⟨h3, h4⟩ := He.ba h
  refine ⟨He.eqO_ok h1, He.eqO_ok h2, of_decide_eq_true h3, ?_⟩
  unfold pf
  split at h4
  · rename_i f r e
    exact ⟨r, by rw [e]⟩
  · cases h4
/-- a property that can be set -/
structure PropS (K : PySem.W.Frag) (C : Addr) (f : Str) (p g : Addr) : Prop where
  tk : takerIn K C f = some (some (.ref p))
  ty : typeIn K (.ref p) = some (.type "property")
  rec_ : ∃ a rest, recIn K p "property" = some (a :: .ref g :: rest)
def propSB (K : PySem.W.Frag) (C : Addr) (m : Str) : Bool := decide (takerIn K C m = some (some (.ref (He.ma K C m)))) && (decide (typeIn K (.ref (He.ma K C m)) = some (.type "property")) && (match recIn K (He.ma K C m) "property" with
  | some (_ :: .ref _ :: _) => true
  | _ => false))
def creadB (K : PySem.W.Frag) (C : Addr) : Bool := readsIn K C (.type "type") && He.eqO (specialIn K (.ref C) "__getattribute__") (some (some (.builtin "type.__getattribute__")))
theorem creadB_ok {K : PySem.W.Frag} {C : Addr} (h : creadB K C = true) : ClX.CRead K C (.type "type") := let ⟨h1, h2⟩ := He.ba h; ⟨h1, He.eqO_ok h2⟩
/-- no value of a built-in kind is an instance of the class, and its kind is none that comes from it -/
def sevenT : List String := ["NoneType", "bool", "int", "str", "tuple", "list", "dict"]
def ninB (K : PySem.W.Frag) (C : Addr) : Bool := sevenT.all fun T => decide (kitOne K (.type T) (.ref C) = some false) && decide (subIn K (.type T) (.ref C) = some false)
def NinOk (K : PySem.W.Frag) (C : Addr) : Prop := ∀ T ∈ sevenT, kitOne K (.type T) (.ref C) = some false ∧ subIn K (.type T) (.ref C) = some false
/-- a whole number that stands in a class -/
def cvaB (K : PySem.W.Frag) (C : Addr) (f : Str) (n : Int) : Bool := match findCls K (.ref C) (.type "type") f with
  | some (.val (.int m _)) => decide (m = n)
  | _ => false
def cmetB (K : PySem.W.Frag) (C : Addr) (m : Str) : Bool := He5.wrapB K C "classmethod" "classmethod.__get__" m && fnIn K (He5.wf K C "classmethod" m)
theorem cmetB_ok {K : PySem.W.Frag} {C : Addr} {m : Str} (h : cmetB K C m = true) : ClX.CMet K C (.type "type") m (He.ma K C m) (He5.wf K C "classmethod" m) := let ⟨h1, h2⟩ := He.ba h; He5.cmet_of h1 h2
/-- an own exception class over ValueError -/
def oexB (K : PySem.W.Frag) (C : Addr) : Bool := (match K.lookup C with
  | some ⟨.type T, _, .cls cd, sl⟩ => match cd.mro, sl.toList with
    | .ref D :: bm, [_, _, _, _, k4, _] => decide (T = "type") && (decide (D = C) && (cd.hasDict && (!cd.hasDel && (decide (k4 = some (.builtin "ValueError.__new__")) && PySem.HandSPX.refsVE bm))))
    | _, _ => false
  | _ => false) && (He.eqO (findIn K (.ref C) "__setattr__") (some (some (.builtin "object.__setattr__"))) && (decide (subIn K (.ref C) (.type "BaseException") = some true) && (decide (typeIn K (.ref C) = some (.type "type")) && keepIn K (.ref C))))
theorem oexB_ok {K : PySem.W.Frag} {C : Addr} (h : oexB K C = true) : L2.OexC K C := by
  obtain ⟨h1, h⟩ := He.ba h
  obtain ⟨h2, h⟩ := He.ba h
  obtain ⟨h3, h⟩ := He.ba h
  obtain ⟨h4, h5⟩ := He.ba h
  refine ⟨?_, He.eqO_ok h2, of_decide_eq_true h3, of_decide_eq_true h4, h5⟩
  split at h1
  · rename_i T dd cd sl e
    split at h1
    · rename_i D bm k0 k1 k2 k3 k4 k5 e1 e2
      obtain ⟨g1, h1⟩ := He.ba h1
      obtain ⟨g2, h1⟩ := He.ba h1
      obtain ⟨g3, h1⟩ := He.ba h1
      obtain ⟨g4, h1⟩ := He.ba h1
      obtain ⟨g5, g6⟩ := He.ba h1
      have g1 := of_decide_eq_true g1
      have g2 := of_decide_eq_true g2
      have g5 := of_decide_eq_true g5
      subst g1 g2 g5
      obtain ⟨nm, bs, mro, ns, qn, hd, sn, sb, ab, col, del⟩ := cd
      dsimp only at e1 g3 g4
      subst e1 g3
      have g4 : del = false := by simpa using g4
      subst g4
      have e3 : sl = #[k0, k1, k2, k3, some (.builtin "ValueError.__new__"), k5] := by
        have := congrArg List.toArray e2
        simpa using this
      subst e3
      exact ⟨nm, qn, ns, bs, bm, sn, sb, ab, col, dd, k0, k1, k2, k3, k5, e, g6⟩
    · cases h1
  · cases h1
abbrev keyTail : List Value := [.type "KeyError", .type "LookupError", .type "Exception", .type "BaseException", .type "object"]
structure ExG (K : PySem.W.Frag) (C : Addr) : Prop where
  cls : ∃ B newId initId bmB nm q N bs bm sn sub ab col dd k0 k1 k2 k3 k5, ExcBaseFacts B newId initId bmB ∧ K.lookup C = some (excClassObj nm q C N bs bm true sn sub ab col dd k0 k1 k2 k3 k5 newId) ∧
    bm.contains (.type B) = true ∧ bm.contains (.type "AttributeError") = false ∧ bm.contains (.type "NameError") = false
  st : ∃ T tail, StoreFacts T tail "object.__setattr__" "object" ∧ PySem.W.excOver K C tail = true
  sa : PySem.W.findIn K (.ref C) "__setattr__" = some (some (.builtin "object.__setattr__"))
  exC : PySem.W.subIn K (.ref C) (.type "BaseException") = some true
  tyC : PySem.W.typeIn K (.ref C) = some (.type "type")
  kC : PySem.W.keepIn K (.ref C) = true
def exgA (K : PySem.W.Frag) (C : Addr) (B newId : String) (tail : List Value) : Bool := (match K.lookup C with
  | some ⟨.type T, _, .cls cd, sl⟩ => match cd.mro, sl.toList with
    | .ref D :: bm, [_, _, _, _, k4, _] => decide (T = "type") && (decide (D = C) && (cd.hasDict && (!cd.hasDel && (decide (k4 = some (.builtin newId)) && (bm.contains (.type B) && (!bm.contains (.type "AttributeError") && !bm.contains (.type "NameError")))))))
    | _, _ => false
  | _ => false) && (PySem.W.excOver K C tail && (He.eqO (findIn K (.ref C) "__setattr__") (some (some (.builtin "object.__setattr__"))) && (decide (subIn K (.ref C) (.type "BaseException") = some true) && (decide (typeIn K (.ref C) = some (.type "type")) && keepIn K (.ref C)))))
/-- over which built-in one: KeyError, IndexError, OverflowError, LookupError -/
def exgB (K : PySem.W.Frag) (C : Addr) : Nat → Bool
  | 0 => exgA K C "LookupError" "LookupError.__new__" keyTail
  | 1 => exgA K C "IndexError" "IndexError.__new__" [.type "IndexError", .type "LookupError", .type "Exception", .type "BaseException", .type "object"]
  | 2 => exgA K C "OverflowError" "OverflowError.__new__" [.type "OverflowError", .type "ArithmeticError", .type "Exception", .type "BaseException", .type "object"]
  | 3 => exgA K C "LookupError" "LookupError.__new__" [.type "LookupError", .type "Exception", .type "BaseException", .type "object"]
  | _ => false
def ownB (K : PySem.W.Frag) (D : Addr) : Bool := PySem.W.plainGet K D "__class__" && (PySem.W.hasDictIn K D && (He.eqO (PySem.W.findIn K (.ref D) "__class__") (some (some (.builtin "object.__class__"))) && (He.eqO (PySem.W.specialIn K (.builtin "object.__class__") "__get__") (some (some (.builtin "getset_descriptor.__get__"))) &&
  (decide (PySem.W.takesIn K (.builtin "object.__class__") = some true) && decide (PySem.W.mroIn K D (.type "object") = some true)))))
def eicB (K : PySem.W.Frag) (D : Addr) : Bool := He.eqO (findIn K (.ref D) "__getattribute__") (some (some (.builtin "BaseException.__getattribute__"))) && (He.eqO (findIn K (.ref D) "__getattr__") (some none) && (decide (subIn K (.ref D) (.type "BaseException") = some true) && (hasDictIn K D && (He.eqO (findIn K (.ref D) "__class__") (some (some (.builtin "object.__class__"))) &&
  (He.eqO (specialIn K (.builtin "object.__class__") "__get__") (some (some (.builtin "getset_descriptor.__get__"))) && (decide (takesIn K (.builtin "object.__class__") = some true) && decide (mroIn K D (.type "object") = some true)))))))
theorem eicB_ok {K : PySem.W.Frag} {D : Addr} (h : eicB K D = true) : L2.ExcC K D := by
  obtain ⟨h1, h⟩ := He.ba h
  obtain ⟨h2, h⟩ := He.ba h
  obtain ⟨h3, h⟩ := He.ba h
  obtain ⟨h4, h⟩ := He.ba h
  obtain ⟨h5, h⟩ := He.ba h
  obtain ⟨h6, h⟩ := He.ba h
  obtain ⟨h7, h8⟩ := He.ba h
  exact ⟨He.eqO_ok h1, He.eqO_ok h2, of_decide_eq_true h3, h4, He.eqO_ok h5, He.eqO_ok h6, of_decide_eq_true h7, of_decide_eq_true h8⟩
structure ExOk (K : PySem.W.Frag) (C : Addr) : Prop where
  o : L2.OexC K C
  f : L2.XfC K C
  i : L2.ExcC K C
def exkB (K : PySem.W.Frag) (C : Addr) : Bool := oexB K C && (L2.xfB K C && eicB K C)
theorem exkB_ok {K : PySem.W.Frag} {C : Addr} (h : exkB K C = true) : ExOk K C := let ⟨h1, h⟩ := He.ba h; let ⟨h2, h3⟩ := He.ba h; ⟨oexB_ok h1, L2.xfB_ok h2, eicB_ok h3⟩
structure ExgOk (K : PySem.W.Frag) (C : Addr) : Prop where
  o : ExG K C
  f : L2.XfC K C
  i : L2.ExcC K C
def exgkB (K : PySem.W.Frag) (C : Addr) (b : Nat) : Bool := exgB K C b && (L2.xfB K C && eicB K C)
structure IniOk (K : PySem.W.Frag) (C f : Addr) : Prop where
  iC : findIn K (.ref C) "__init__" = some (some (.ref f))
  tI : typeIn K (.ref f) = some (.type "function")
def iniB (K : PySem.W.Frag) (C : Addr) : Bool := He.eqO (findIn K (.ref C) "__init__") (some (some (.ref (He.ma K C "__init__")))) && decide (typeIn K (.ref (He.ma K C "__init__")) = some (.type "function"))
theorem iniB_ok {K : PySem.W.Frag} {C : Addr} (h : iniB K C = true) : IniOk K C (He.ma K C "__init__") := let ⟨h1, h2⟩ := He.ba h; ⟨He.eqO_ok h1, of_decide_eq_true h2⟩
abbrev bmVE : List Value := [.type "ValueError", .type "Exception", .type "BaseException", .type "object"]
def tyB : Option Value → Bool
  | some (.type t) => decide (t = "type")
  | _ => false
/-- the class at C is an exception class over ValueError, none of its own has an __init__ -/
def exoB (K : PySem.W.Frag) (C : Addr) : Bool := PySem.W.excIn K C bmVE "ValueError.__new__" && (decide (PySem.W.subIn K (.ref C) (.type "BaseException") = some true) && (tyB (PySem.W.typeIn K (.ref C)) && PySem.W.keepIn K (.ref C)))
structure Exo (K : PySem.W.Frag) (C : Addr) : Prop where
  ex : PySem.W.excIn K C bmVE "ValueError.__new__" = true
  sub : PySem.W.subIn K (.ref C) (.type "BaseException") = some true
  ty : PySem.W.typeIn K (.ref C) = some (.type "type")
  kp : PySem.W.keepIn K (.ref C) = true
/-- the table of code objects of the def at f -/
def tabK (K : PySem.W.Frag) (f : Addr) : Option Addr := match K.lookup f with
  | some ⟨_, _, .func fd, _⟩ => match fd.code with
    | .ref c => match K.lookup c with
      | some ⟨_, _, .fields vs, _⟩ => match (vs[11]? : Option Value) with
        | some (.ref P) => some P
        | _ => none
      | _ => none
    | _ => none
  | _ => none
/-- the tables of these defs are all different -/
def tbsB (K : PySem.W.Frag) (xs : List Str) : Bool := xs.all fun x => (tabK K (He.ga K x)).isSome && xs.all fun y => decide (x = y) || !decide (tabK K (He.ga K x) = tabK K (He.ga K y))
/-- one fact more -/
inductive Fb where
  | fa (f : He.Fa)
  | prop (x m : Str)
  | cread (x : Str)
  | cmet (x m : Str)
  | con (x f : Str) (v : Value)
  | exk (x : Str)
  | exg (x : Str) (b : Nat)
  | ini (x : Str)
  | exo (x : Str)
  | xno (x f : Str)
  | exm (x D : Str) (b : Bool)
  | kit (x D : Str) (b : Bool)
  | kitT (x : Str) (T : String) (b : Bool)
  | sys
  | fnd (x f : Str) (v : Value)
  | sfi (x : Str)
  | fni (x f : Str)
  | own (x : Str)
  | tbs (xs : List Str)
  | cva (x f : Str) (n : Int)
  | nin (x : Str)
  | prs (x m : Str)
def Fb.ok (K : PySem.W.Frag) : Fb → Bool
  | .fa f => f.ok K
  | .prop x m => propB K (He.ga K x) m
  | .prs x m => propSB K (He.ga K x) m
  | .cread x => creadB K (He.ga K x)
  | .cmet x m => cmetB K (He.ga K x) m
  | .exk x => exkB K (He.ga K x)
  | .exg x b => exgkB K (He.ga K x) b
  | .ini x => iniB K (He.ga K x)
  | .exo x => exoB K (He.ga K x)
  | .xno x f => He.eqO (findIn K (.ref (He.ga K x)) f) (some none)
  | .exm x D b => decide (exmOne K (.ref (He.ga K x)) (.ref (He.ga K D)) = some b)
  | .kit x D b => decide (kitOne K (.ref (He.ga K x)) (.ref (He.ga K D)) = some b)
  | .kitT x T b => decide (kitOne K (.ref (He.ga K x)) (.type T) = some b)
  | .sys => (K.lookup sysModules).isSome
  | .fnd x f v => He.eqO (findIn K (.ref (He.ga K x)) f) (some (some v))
  | .sfi x => PySem.W.selfFirst K (He.ga K x)
  | .own x => ownB K (He.ga K x)
  | .tbs xs => tbsB K xs
  | .cva x f n => cvaB K (He.ga K x) f n
  | .nin x => ninB K (He.ga K x)
  | .fni x f => PySem.W.fnIn K (He.ma K (He.ga K x) f)
  | .con x f v => He.eqO (findIn K (.ref (He.ga K x)) f) (some (some v)) && He.eqO (specialIn K v "__get__") (some none)
def obsM (fa : List Fb) (fn : List He5.DefA) (K : PySem.W.Frag) : He.AlD := ((fa.all fun f => f.ok K) && fn.all fun d => d.ok K, fn.map fun d => He5.fnA K (d.at_ K))
def SaysM (fa : List Fb) (fn : List He5.DefA) (K : PySem.W.Frag) : Prop := obsM fa fn K = He5.valA fn
section
variable {fa : List Fb} {fn : List He5.DefA} {K : PySem.W.Frag}
theorem SaysM.fact (c : SaysM fa fn K) (i : Nat) {f : Fb} (h : fa[i]? = some f := by rfl) : f.ok K = true := by
  have c1 := (He.ba (show ((fa.all fun f => f.ok K) && fn.all fun d => d.ok K) = true from congrArg (fun z : He.AlD => z.1) c)).1
  exact List.all_eq_true.mp c1 f (List.mem_of_getElem? h)
theorem SaysM.def_ (c : SaysM fa fn K) (i : Nat) {d : He5.DefA} (h : fn[i]? = some d := by rfl) : ∃ fd, L2.FunD K d.name d.qual d.params d.body d.scope (d.dvs K) (d.kws K) (d.at_ K) fd := by
  have c2 := (He.ba (show ((fa.all fun f => f.ok K) && fn.all fun d => d.ok K) = true from congrArg (fun z : He.AlD => z.1) c)).2
  have e : fn.map (fun d => He5.fnA K (d.at_ K)) = fn.map He5.DefA.val := congrArg (fun z : He.AlD => z.2) c
  have e2 : (fn.map fun d => He5.fnA K (d.at_ K))[i]? = (fn.map He5.DefA.val)[i]? := by rw [e]
  rw [List.getElem?_map, List.getElem?_map, h] at e2
  exact He5.DefA.funD (Option.some.inj e2) (List.all_eq_true.mp c2 d (List.mem_of_getElem? h))
end
/-- what two runs say together -/
theorem obs_app {fa1 fa2 : List Fb} {fn1 fn2 : List He5.DefA} {K : PySem.W.Frag} (h1 : obsM fa1 fn1 K = He5.valA fn1) (h2 : obsM fa2 fn2 K = He5.valA fn2) : obsM (fa1 ++ fa2) (fn1 ++ fn2) K = He5.valA (fn1 ++ fn2) := by
  have a1 : ((fa1.all fun f => f.ok K) && fn1.all fun d => d.ok K) = true := congrArg (fun z : He.AlD => z.1) h1
  have a2 : ((fa2.all fun f => f.ok K) && fn2.all fun d => d.ok K) = true := congrArg (fun z : He.AlD => z.1) h2
  have b1 : fn1.map (fun d => He5.fnA K (d.at_ K)) = fn1.map He5.DefA.val := congrArg (fun z : He.AlD => z.2) h1
  have b2 : fn2.map (fun d => He5.fnA K (d.at_ K)) = fn2.map He5.DefA.val := congrArg (fun z : He.AlD => z.2) h2
  obtain ⟨c1, d1⟩ := He.ba a1
  obtain ⟨c2, d2⟩ := He.ba a2
  unfold obsM He5.valA
  rw [List.all_append, List.all_append, c1, c2, d1, d2, List.map_append, List.map_append, b1, b2]
  rfl
/-- a def of the module, a method, a property's getter, a classmethod's def -/
def dGlo (x : Str) (st : Stmt) : He5.DefA := ⟨fun K => He.ga K x, x, x, defArgs st, defBody st, defScope st, [], []⟩
def dMth (x m q : Str) (st : Stmt) : He5.DefA := ⟨fun K => He.ma K (He.ga K x) m, m, q, defArgs st, defBody st, defScope st, [], []⟩
def dPrp (x m q : Str) (st : Stmt) : He5.DefA := ⟨fun K => pf K (He.ga K x) m, m, q, defArgs st, defBody st, defScope st, [], []⟩
def dCmt (x m q : Str) (st : Stmt) : He5.DefA := ⟨fun K => He5.wf K (He.ga K x) "classmethod" m, m, q, defArgs st, defBody st, defScope st, [], []⟩
/-- a statement of a class's body -/
def inCls : Stmt → Nat → Stmt
  | .ClassDef (body := b) .., i => b.getD i (.Pass ⟨0, 0, 0, 0⟩)
  | _, _ => .Pass ⟨0, 0, 0, 0⟩
end M
namespace M
open PySem L2
theorem sw_trueD {kx vx : Expr} {gs : List Comprehension} {scope : Scope} {pos py : Pos} {y : Str} {l : Nat} {env : PySem.Env} (hk : env.scope.kind = .function) (hy : env.scope.names.lookup y = some .local) (hl : (py.line == pos.line) = true)
    (ha : (scope.names.any fun (n, k) => n == y && (k == .local || k == .cell)) = false) : swapsWith (.DictComp kx vx gs scope pos) (some (.Name y py)) l env = pure true := by
  have hb : env.blockKind = .function := by unfold PySem.Env.blockKind; rw [hk]; rfl
  unfold swapsWith
  simp only [hb, show env.kindOf y = some .local from hy, ha, Expr.pos, hl]
  rfl
section
variable {X : Cx} {A : Act} {W : WX} {kx vx tg iter : Expr} {ifs : List Expr} {scope : Scope} {own : List (Str × Nat)} {pos spos : Pos} {fi : IF} {t : TF} {c : BF} {fk f : EF} {st' sl : List Nat}
theorem ps_asgDc {i : Nat} {y : Str} {py : Pos} (hc : X.calm = true) (hN : X.N.Nodup) (hy : X.N[i]? = some y) (hyl : X.env.scope.names.lookup y = some .local) (hyi : i ∉ A.io)
    (hsw : swapsWith (.DictComp kx vx [⟨tg, iter, ifs, 0⟩] scope pos) (some (.Name y py)) spos.line X.env = pure true) (hi : PI X tg iter (tIt A W fi)) (ok : BlkOk X.N X.env.scope scope own)
    (hg : ∀ (s : Shared) (H : Hp) (C : Addr) (cl : List (Str × Addr)) (fp : List Addr), PG (X.blk s H scope (compEnvC scope cl C X.env) fp) tg (tTg A st' t))
    (ht : ∀ (s : Shared) (H : Hp) (C : Addr) (cl : List (Str × Addr)) (fp : List Addr), PTs (X.blk s H scope (compEnvC scope cl C X.env) fp) ifs (tBo A W0 c))
    (hk : ∀ (s : Shared) (H : Hp) (C : Addr) (cl : List (Str × Addr)) (fp : List Addr), PE (X.blk s H scope (compEnvC scope cl C X.env) fp) kx (tE A W0 fk))
    (he : ∀ (s : Shared) (H : Hp) (C : Addr) (cl : List (Str × Addr)) (fp : List Addr), PE (X.blk s H scope (compEnvC scope cl C X.env) fp) vx (tE A W0 f))
    (tok : TOk st' t) (hs' : ∀ j ∈ st', j ∈ sl) (hio : ∀ i ∈ A.io, i ∉ sl) (hsl : own.map (·.2) = sl := by rfl) (hs : ∀ x, foldedSetIterable iter X.env x = pure x := by intro _; rfl) :
    PS X (.Assign [.Name y py] (.DictComp kx vx [⟨tg, iter, ifs, 0⟩] scope pos) spos) (tSt A W (asg i (dc fi t c fk f sl))) := by
  subst hsl
  refine ⟨fun pins s σ H D I h => ?_⟩
  have h2 : tDc (tIt A W fi) (tTg A st' t) (tBo A W0 c) (tE A W0 (frz fk)) (tE A W0 (frz f)) (own.map (·.2)) σ H (fun x H1 => gName i x σ H1 D.nx) := by
    obtain ⟨r, G, k, m⟩ := tSt_iff.mp h
    refine dc_of tok hs' hio ⟨r, G, k, ?_⟩
    unfold asg at m
    cases hf : dc fi t c fk f (own.map (·.2)) r with
    | bad => rw [hf] at m; exact m.elim
    | ex e r' => simp only [hf] at m ⊢; exact m σ
    | ok o v r' => simp only [hf] at m ⊢; exact fun x G' H' R => m _ G' H' (R.ok.store R.tr hyi) R.st.ex
  rw [exec_Assign_Name_used _ _ _ _ hsw]
  refine wpAny_bind (wpAny_standAt (wpAny_bind ?_))
  show wpAny _ X.A (do let _ ← comprehension (.DictComp kx vx [⟨tg, iter, ifs, 0⟩] scope pos) scope X.env (firstIterPos [⟨tg, iter, ifs, 0⟩] pos) newDict false (eval iter X.env) (some (assign (.Name y py) X.env))) _ _ s
  refine wpAny_bind (thn (dc_core (Qf := fun _ s' => SP X pins D .next s') hc hN I hi ok hg ht (fun s H C cl fp => pe_frz (hk s H C cl fp)) (fun s H C cl fp => pe_frz (he s H C cl fp)) hs h2 fun L C s' m H' I' q hn fp => ?_) fun _ s' hq => wpAny_pure (wpAny_pure hq))
  obtain ⟨a0, a1, a2, a3, a4, a5⟩ := fp
  show wpAny _ _ (assign (.Name y py) X.env (.ref L)) _ _ _
  refine wpAny_assign_Name (store_ok2 (v := V.ref L) I' hN hy (.inl hyl) rfl (fun s2 I2 ⟨a, sb, ha⟩ => ?_) (.inr hyl))
  have ne : C ≠ a := ha.elim (fun z => by rw [z]; exact a1) fun z e => a4 y a z e.symm
  exact ⟨m, hn.sameBut sb ne, fun h3 sb3 => ⟨_, H', I2.turned (t' := s2.toks) (fun b o hb e => (sb3.2 b hb).trans e) a0 a1 a3 a4 a5, q⟩⟩
end
/-- the world of a module whose classes stand under their names -/
def cmK (K : PySem.W.Frag) : Str → Option Addr := fun c => some (He.ga K c)
section
variable {X : Cx} {wd : Wd} {lvl lv n : Nat} {m c q x : Str} {st : Stmt} {ps : List Str} {g : GF} {C f : Addr}
theorem mth_of (d : DefQ X.prog X.w X.K X.mg X.base wd lv m q st ps g f) (hk : lv ≤ lvl) (hC : wd.CM c = some C) (cl : Cls X.K C) (me : Meth X.K C m f) (hn : ps.length = n := by rfl) : MthOk X wd lvl m c n g := ⟨⟨_, _, hC, cl, me, d.fnP hk hn⟩⟩
theorem prp_of {p : Addr} (d : DefQ X.prog X.w X.K X.mg X.base wd lv m q st ps g f) (hk : lv ≤ lvl) (hC : wd.CM c = some C) (cl : Cls X.K C) (po : PropOf X.K C m p f) (hn : ps.length = n := by rfl) : PrpOk X wd lvl m c n g := ⟨⟨_, _, _, hC, cl, po, d.fnP hk hn⟩⟩
theorem mk_ofP (F : FnP X.prog X.w X.K X.mg X.base (L2.CX X.prog X.w) lv f (spF wd n g)) (hk : lv ≤ lvl) (hC : wd.CM c = some C) (mo : Mk X.K C f) : MkOk X wd lvl c n g := ⟨⟨_, _, hC, mo, F.up hk⟩⟩
theorem cmt_of {mc : Value} {p : Addr} (d : DefQ X.prog X.w X.K X.mg X.base wd lv m q st ps g f) (hk : lv ≤ lvl) (hC : wd.CM c = some C) (cr : ClX.CRead X.K C mc) (cm : ClX.CMet X.K C mc m p f) (hn : ps.length = n := by rfl) : CmtOk X wd lvl m c n g := ⟨⟨_, _, _, _, hC, cr, cm, d.fnP hk hn⟩⟩
theorem fld_nil {f : Str} : FldOk wd [] f := fun _ h => nomatch h
theorem fld_cons {cs : List Str} {f : Str} (hC : wd.CM c = some C) (cl : Cls wd.K C) (na : NoAttr wd.K C f) (h : FldOk wd cs f) : FldOk wd (c :: cs) f := fun d hd => (List.mem_cons.mp hd).elim (fun z => by subst z; exact ⟨C, hC, cl, na⟩) (h d)
end
theorem bf_sorted : bootBuiltins "sorted" = some (.builtin "sorted") := by decide +kernel
/-- ps_whl' with the bound found by the goal (an explicit argument behind the proofs would keep the elaborator from looking at the goal first) -/
theorem ps_whlN {X : Cx} {A : Act} {W : WX} {c : BF} {f : SF} {t : Expr} {body : List Stmt} {pos : Pos} {n : Nat} (hp : PassesOwn (model X.prog X.w) X.A X.env X.xe) (hc : PT X t (tBo A W c)) (hb : PSs X body (tSt A W f)) : PS X (.While t body [] pos) (tSt A W (whl c f n)) := ps_whl' hp hc hb n
end M
namespace M
open PySem L2
section
variable {X : Cx} {w : Wd} {G H : Hp}
end
end M
namespace M
open PySem L2
section
variable {r : Env} {i n : Nat} {f fk fv : EF} {fo : OF} {fs : OsF} {g : AF} {tbl : Tbl} {m c : Str} {gf : GF} {cs : List Str}
def koCl1 (c m : Str) (h : Hd) (r : Env) (Q : OR → Prop) : Option Val → Prop
  | some (.obj c' fs) => (if c' = c ∧ fs.lookup m = none then Q (.ok h r) else Q .bad)
  | _ => Q .bad
def koCl (c m : Str) (Q : OR → Prop) : OR → Prop
  | .ok h r1 => koCl1 c m h r1 Q (h.get r1)
  | .ex e r1 => Q (.ex e r1)
  | .bad => Q .bad
theorem wO_Cl {Q : OR → Prop} : wO (oCl c m fo) r Q = wO fo r (koCl c m Q) := by
  unfold wO oCl
  cases fo r with
  | ok h r1 =>
    simp only [koCl]
    cases h.get r1 with
    | none => rfl
    | some v =>
      cases v with
      | obj c' xs => simp only [koCl1]; split <;> rfl
      | _ => rfl
  | _ => rfl
def kcm2 (c m : Str) (fo : OF) (fs : OsF) (r : Env) (Q : ER → Prop) : Option (Nat × GF) → Prop
  | some (n, g) => wE (callG n g (osCons (oCl c m fo) fs)) r Q
  | none => Q .bad
def kcm1 (tbl : Tbl) (m : Str) (fo : OF) (fs : OsF) (r : Env) (Q : ER → Prop) : Option Val → Prop
  | some (.obj c _) => kcm2 c m fo fs r Q (tbl.lookup c)
  | _ => Q .bad
def kcm (tbl : Tbl) (m : Str) (fo : OF) (fs : OsF) (r : Env) (Q : ER → Prop) : OR → Prop
  | .ok h r1 => kcm1 tbl m fo fs r Q (h.get r1)
  | .ex e r1 => Q (.ex e r1)
  | .bad => Q .bad
theorem wE_callM {Q : ER → Prop} : wE (callM tbl m fo fs) r Q = wO fo r (kcm tbl m fo fs r Q) := by
  unfold wE wO callM
  cases fo r with
  | ok h r1 =>
    simp only [kcm]
    cases h.get r1 with
    | none => rfl
    | some v =>
      cases v with
      | obj c xs =>
        simp only [kcm1]
        cases tbl.lookup c with
        | none => rfl
        | some p => rfl
      | _ => rfl
  | _ => rfl
def knoX (Q : ER → Prop) : ER → Prop
  | .ok o v r' => Q (.ok o v r')
  | .ex _ _ => Q .bad
  | .bad => Q .bad
theorem wE_noX {Q : ER → Prop} : wE (noX f) r Q = wE f r (knoX Q) := by unfold wE noX; cases f r <;> rfl
def kmk3 (r1 : Env) (Q : ER → Prop) : Bool → Val → Option (Bool × Val) → Prop
  | false, .non, some (true, v) => Q (.ok true v r1)
  | _, _, _ => Q .bad
def kmk2 (r1 : Env) (Q : ER → Prop) : GR → Prop
  | .ok o z out => kmk3 r1 Q o z out
  | .ex e _ => Q (.ex e r1)
  | .bad => Q .bad
def kmk1 (c : Str) (n : Nat) (g : GF) (r1 : Env) (Q : ER → Prop) : Option (List (Bool × Val)) → Prop
  | some as => (if lents as = 0 ∧ as.length + 1 = n then wG g ((true, .obj c []) :: as) (kmk2 r1 Q) else Q .bad)
  | none => Q .bad
def kmk (c : Str) (n : Nat) (g : GF) (Q : ER → Prop) : OsR → Prop
  | .ok hs r1 => kmk1 c n g r1 Q (lend r1 hs)
  | .ex e r1 => Q (.ex e r1)
  | .bad => Q .bad
theorem wE_mkC {Q : ER → Prop} : wE (mkC c n gf fs) r Q = wOs fs r (kmk c n gf Q) := by
  unfold wE wOs mkC
  cases fs r with
  | ok hs r1 =>
    simp only [kmk]
    cases lend r1 hs with
    | none => rfl
    | some as =>
      simp only [kmk1, wG]
      split
      · cases gf ((true, .obj c []) :: as) with
        | ok o z out =>
          simp only [kmk2]
          rcases o with _ | _
          · cases z with
            | non =>
              rcases out with _ | ⟨_ | _, v⟩ <;> rfl
            | _ => rfl
          · rfl
        | _ => rfl
      · rfl
  | _ => rfl
def kmd1 (c : Str) (fs : OsF) (r : Env) (Q : ER → Prop) : Option (Nat × GF) → Prop
  | some (n, g) => wE (mkC c n g fs) r Q
  | none => Q .bad
def kmd (tbl : Tbl) (fs : OsF) (r : Env) (Q : ER → Prop) : Option Slot → Prop
  | some (some (false, .cls c)) => kmd1 c fs r Q (tbl.lookup c)
  | _ => Q .bad
theorem wE_mkD {Q : ER → Prop} : wE (mkD tbl i fs) r Q = kmd tbl fs r Q r[i]? := by
  unfold wE mkD
  rcases r[i]? with _ | _ | ⟨_ | _, v⟩
  · rfl
  · rfl
  · cases v with
    | cls c =>
      simp only [kmd]
      cases tbl.lookup c <;> rfl
    | _ => rfl
  · rfl
def ksf1 (cs : List Str) (i : Nat) (x : Str) (v : Val) (r1 : Env) (Q : SR → Prop) : Option Slot → Prop
  | some (some (true, .obj c fs)) => (if c ∈ cs ∧ fs.length < 1000 then Q (.nx (r1.set i (some (true, .obj c (putV x v fs))))) else Q .bad)
  | _ => Q .bad
def ksf (cs : List Str) (i : Nat) (x : Str) (Q : SR → Prop) : ER → Prop
  | .ok _ v r1 => ksf1 cs i x v r1 Q r1[i]?
  | .ex e r1 => Q (.ex e r1)
  | .bad => Q .bad
theorem wS_setFld {x : Str} {Q : SR → Prop} : wS (setFld cs i x f) r Q = wE f r (ksf cs i x Q) := by
  unfold wS wE setFld frz
  cases f r with
  | ok o v r1 =>
    simp only [ksf]
    rcases r1[i]? with _ | _ | ⟨_ | _, u⟩
    · rfl
    · rfl
    · rfl
    · cases u with
      | obj c xs => simp only [ksf1]; split <;> rfl
      | _ => rfl
  | _ => rfl
theorem wS_never {Q : SR → Prop} : wS never r Q = Q .bad := rfl
def kitI (Q : IR → Prop) : ER → Prop
  | .ok _ (.dct false kvs) r' => Q (.ok (pairsOf kvs) r')
  | .ok _ _ _ => Q .bad
  | .ex e r' => Q (.ex e r')
  | .bad => Q .bad
theorem wI_I {Q : IR → Prop} : wI (itI f) r Q = wE f r (kitI Q) := by
  unfold wI wE itI frz
  cases f r with
  | ok o v r' =>
    cases v with
    | dct t kvs => cases t <;> rfl
    | _ => rfl
  | _ => rfl
def kitE (Q : IR → Prop) : ER → Prop
  | .ok _ (.lst vs) r' => Q (.ok (enumV vs) r')
  | .ok _ (.tup vs) r' => Q (.ok (enumV vs) r')
  | .ok _ _ _ => Q .bad
  | .ex e r' => Q (.ex e r')
  | .bad => Q .bad
theorem wI_E {Q : IR → Prop} : wI (itE f) r Q = wE f r (kitE Q) := by
  unfold wI wE itE frz
  cases f r with
  | ok o v r' => cases v <;> rfl
  | _ => rfl
def kasD2 (ds : List (Val × Val)) (Q : AR → Prop) : AR → Prop
  | .ok vs r2 => Q (.ok (keysOfD ds ++ vs) r2)
  | .ex e r2 => Q (.ex e r2)
  | .bad => Q .bad
def kasD (g : AF) (Q : AR → Prop) : ER → Prop
  | .ok _ (.dct false ds) r1 => wA g r1 (kasD2 ds Q)
  | .ok _ _ _ => Q .bad
  | .ex e r1 => Q (.ex e r1)
  | .bad => Q .bad
theorem wA_StD {Q : AR → Prop} : wA (asStD f g) r Q = wE f r (kasD g Q) := by
  unfold wA wE asStD frz
  cases f r with
  | ok o v r' =>
    cases v with
    | dct t kvs =>
      cases t with
      | false => simp only [kasD, wA]; cases g r' <;> rfl
      | true => rfl
    | _ => rfl
  | _ => rfl
def wF (fs : List EF) (acc : Str) (r : Env) (Q : ER → Prop) : Prop := Q (fsL fs acc r)
theorem wE_fstr {l : List EF} {Q : ER → Prop} : wE (fstr l) r Q = wF l Str.empty r Q := rfl
theorem wF_nil {acc : Str} {Q : ER → Prop} : wF [] acc r Q = Q (.ok false (.str acc) r) := rfl
def kF (l : List EF) (acc : Str) (Q : ER → Prop) : ER → Prop
  | .ok _ (.str y) r1 => (if (acc ++ y).length ≤ sizeLine then wF l (acc ++ y) r1 Q else Q .bad)
  | .ok _ _ _ => Q .bad
  | .ex e r1 => Q (.ex e r1)
  | .bad => Q .bad
theorem wF_cons {l : List EF} {acc : Str} {Q : ER → Prop} : wF (f :: l) acc r Q = wE f r (kF l acc Q) := by
  unfold wF wE
  rw [fsL]
  cases f r with
  | ok o v r1 =>
    cases v with
    | str y => simp only [kF, wF]; split <;> rfl
    | _ => rfl
  | _ => rfl
def kdst4 (ds : List (Val × Val)) (v : Val) (r3 : Env) (Q : ER → Prop) : Option Key → Prop
  | some q => Q (.ok true (.dct false (dPut ds q v)) r3)
  | none => Q .bad
def kdst3 (ds : List (Val × Val)) (k : Val) (Q : ER → Prop) : ER → Prop
  | .ok _ v r3 => kdst4 ds v r3 Q (keyOf k)
  | .ex e r3 => Q (.ex e r3)
  | .bad => Q .bad
def kdst2 (ds : List (Val × Val)) (fv : EF) (Q : ER → Prop) : ER → Prop
  | .ok _ k r2 => wE fv r2 (kdst3 ds k Q)
  | .ex e r2 => Q (.ex e r2)
  | .bad => Q .bad
def kdst1 (fk fv : EF) (Q : ER → Prop) : ER → Prop
  | .ok _ (.dct false ds) r1 => (if ds.length < 100000 then wE fk r1 (kdst2 ds fv Q) else Q .bad)
  | .ok _ _ _ => Q .bad
  | .ex e r1 => Q (.ex e r1)
  | .bad => Q .bad
theorem wE_dst {Q : ER → Prop} : wE (dst f fk fv) r Q = wE f r (kdst1 fk fv Q) := by
  unfold wE dst frz
  cases f r with
  | ok o v r1 =>
    cases v with
    | dct t ds =>
      cases t with
      | true => rfl
      | false =>
        simp only [kdst1]
        by_cases h : ds.length < 100000
        · simp only [if_pos h, wE]
          cases fk r1 with
          | ok o2 k r2 =>
            simp only [kdst2, wE]
            cases fv r2 with
            | ok o3 v r3 => simp only [kdst3]; cases keyOf k <;> rfl
            | _ => rfl
          | _ => rfl
        · simp only [if_neg h]
    | _ => rfl
  | _ => rfl
theorem wG_runS {b : SF} {kw : Bool} {ios : List Nat} {np N : Nat} {as : List (Bool × Val)} {Q : GR → Prop} (h : np ≤ as.length ∧ lents (as.drop np) = 0 ∧ as.length ≤ 100000 ∧ (∀ i ∈ ownIx (packS np kw as), i < np)) :
    wG (runDefS kw ios np N b) as Q = wG (runDef ios (np + 1 + (if kw then 1 else 0)) N b) (packS np kw as) Q := by
  unfold wG runDefS
  rw [if_pos h]
def wDC (t : TF) (c : BF) (fk f : EF) (sl : List Nat) (vs : List Val) (acc : List (Val × Val)) (r : Env) (Q : DR → Prop) : Prop := Q (dcL t c fk f sl vs acc r)
def kdc2 (r1 : Env) (sl : List Nat) (Q : ER → Prop) : DR → Prop
  | .ok ys r2 => Q (.ok true (.dct false ys) (restR r1 r2 sl))
  | _ => Q .bad
def kdc (t : TF) (c : BF) (fk f : EF) (sl : List Nat) (Q : ER → Prop) : IR → Prop
  | .ok vs r1 => wDC t c fk f sl vs [] (wipeR r1 sl) (kdc2 r1 sl Q)
  | .ex e r1 => Q (.ex e r1)
  | .bad => Q .bad
theorem wE_dc {fi : IF} {t : TF} {c : BF} {sl : List Nat} {Q : ER → Prop} : wE (dc fi t c fk f sl) r Q = wI fi r (kdc t c fk f sl Q) := by
  unfold wE wI dc
  cases fi r with
  | ok vs r1 => simp only [kdc, wDC]; cases dcL t c fk f sl vs [] (wipeR r1 sl) <;> rfl
  | _ => rfl
end
theorem lk1 {α : Type} (c : Str) (x : α) : List.lookup c [(c, x)] = some x := by simp [List.lookup]
def kitVs (Q : IR → Prop) : ER → Prop
  | .ok _ (.dct false kvs) r' => Q (.ok (kvs.map (·.2)) r')
  | .ok _ _ _ => Q .bad
  | .ex e r' => Q (.ex e r')
  | .bad => Q .bad
section
variable {r : Env} {f : EF}
theorem wI_Vs {Q : IR → Prop} : wI (itVs f) r Q = wE f r (kitVs Q) := by
  unfold wI wE itVs frz
  cases f r with
  | ok o v r' =>
    cases v with
    | dct t kvs => cases t <;> rfl
    | _ => rfl
  | _ => rfl
end
theorem wDC_map {α : Type} {t : TF} {c : BF} {fk f : EF} {sl : List Nat} {env : Env} {Q : DR → Prop} (y : α → Val) (kf : α → Str) (z : α → Val) (p : α → Bool) (xs : List α)
    (h : ∀ x ∈ xs, ∃ r1, t (y x) env = some r1 ∧ wB c r1 (fun s => s = .ok (p x) r1) ∧ wipeR r1 sl = env ∧ (p x = true → wE fk r1 fun s => ∃ o, s = .ok o (.str (kf x)) r1 ∧ wE f r1 fun s => ∃ o r3, s = .ok o (z x) r3 ∧ wipeR r3 sl = env)) (hl : xs.length ≤ 100000)
    (nd : ((xs.filter p).map kf).Nodup) (q : Q (.ok (sd ((xs.filter p).map fun x => (kf x, z x))) env)) : wDC t c fk f sl (xs.map y) [] env Q := by
  have key : ∀ (xs : List α) (acc : List (Str × Val)), (∀ x ∈ xs, ∃ r1, t (y x) env = some r1 ∧ wB c r1 (fun s => s = .ok (p x) r1) ∧ wipeR r1 sl = env ∧ (p x = true → wE fk r1 fun s => ∃ o, s = .ok o (.str (kf x)) r1 ∧ wE f r1 fun s => ∃ o r3, s = .ok o (z x) r3 ∧ wipeR r3 sl = env)) → acc.length + xs.length ≤ 100000 →
      ((acc.map (·.1)) ++ (xs.filter p).map kf).Nodup → dcL t c fk f sl (xs.map y) (sd acc) env = .ok (sd (acc ++ (xs.filter p).map fun x => (kf x, z x))) env := by
    intro xs
    induction xs with
    | nil => intro acc _ _ _; simp [dcL]
    | cons x xs ih =>
      intro acc h hl nd
      obtain ⟨r1, e1, e2, e3, e4⟩ := h x (by simp)
      unfold wB at e2
      rw [List.length_cons] at hl
      rw [List.map_cons, dcL]
      cases hp : p x with
      | false =>
        rw [hp] at e2
        rw [List.filter_cons_of_neg (by simp [hp])] at nd
        simp only [e1, e2, e3]
        rw [ih acc (fun x' hx' => h x' (List.mem_cons_of_mem _ hx')) (by omega) nd, List.filter_cons_of_neg (by simp [hp])]
      | true =>
        rw [hp] at e2
        obtain ⟨o, e5, o2, r3, e6, e7⟩ := e4 hp
        rw [List.filter_cons_of_pos (by simp [hp]), List.map_cons] at nd
        have hn : kf x ∉ acc.map (·.1) := fun hm => by
          have := (List.nodup_append.mp nd).2.2 _ hm (kf x) (by simp)
          exact this rfl
        have ha : (sd acc).length < 100000 := by rw [sd_len]; omega
        simp only [e1, e2, frz, e5, e6, keyOf, if_pos ha, e7]
        rw [dPut_new hn, ih (acc ++ [(kf x, z x)]) (fun x' hx' => h x' (List.mem_cons_of_mem _ hx')) (by simp; omega) (by simpa using nd), List.filter_cons_of_pos (by simp [hp])]
        simp
  unfold wDC
  have := key xs [] h (by simpa using hl) (by simpa using nd)
  rw [show (sd [] : List (Val × Val)) = [] from rfl] at this
  rw [this]
  simpa using q
def insS (acc : List Str) (x : Str) : List Str := if x ∈ acc then acc else acc ++ [x]
def insAll (acc xs : List Str) : List Str := xs.foldl insS acc
theorem insS_mem {acc : List Str} {x y : Str} : y ∈ insS acc x ↔ y ∈ acc ∨ y = x := by
  unfold insS
  split
  · constructor
    · exact .inl
    · rintro (h | h)
      · exact h
      · rw [h]; assumption
  · simp
theorem insAll_mem {xs : List Str} : ∀ {acc : List Str} {y : Str}, y ∈ insAll acc xs ↔ y ∈ acc ∨ y ∈ xs := by
  induction xs with
  | nil => intro acc y; simp [insAll]
  | cons x xs ih =>
    intro acc y
    have := ih (acc := insS acc x) (y := y)
    rw [insAll, List.foldl_cons]
    rw [insAll] at this
    rw [this, insS_mem, List.mem_cons, or_assoc]
theorem insS_nodup {acc : List Str} {x : Str} (h : acc.Nodup) : (insS acc x).Nodup := by
  unfold insS
  split
  · exact h
  · rename_i hx
    rw [List.nodup_append]
    exact ⟨h, by simp, fun a ha b hb e => hx (by rw [List.mem_singleton.mp hb] at e; rw [← e]; exact ha)⟩
theorem insAll_nodup {xs : List Str} : ∀ {acc : List Str}, acc.Nodup → (insAll acc xs).Nodup := by
  induction xs with
  | nil => exact fun h => h
  | cons x xs ih => exact fun h => ih (insS_nodup h)
theorem insS_len {acc : List Str} {x : Str} : (insS acc x).length ≤ acc.length + 1 := by
  unfold insS
  split <;> simp
theorem insAll_len {xs : List Str} : ∀ {acc : List Str}, (insAll acc xs).length ≤ acc.length + xs.length := by
  induction xs with
  | nil => intro acc; simp [insAll]
  | cons x xs ih =>
    intro acc
    have := ih (acc := insS acc x)
    have h2 := insS_len (acc := acc) (x := x)
    rw [insAll, List.foldl_cons, List.length_cons]
    rw [insAll] at this
    omega
theorem insAll_app {acc xs ys : List Str} : insAll acc (xs ++ ys) = insAll (insAll acc xs) ys := by unfold insAll; rw [List.foldl_append]
/-- a dict that is a set -/
abbrev tdict (u : Val) (ks : List Str) : List (Val × Val) := sd (ks.map fun k => (k, u))
theorem dPut_set {u : Val} {acc : List Str} {x : Str} : dPut (tdict u acc) (.inr x) u = tdict u (insS acc x) := by
  unfold insS
  by_cases h : x ∈ acc
  · rw [if_pos h]
    have hk : ((tdict u acc).any fun p => M.keyIs (.inr x) p.1) = true := by
      rw [sd_any]; exact decide_eq_true (by simpa using h)
    unfold dPut
    rw [if_pos hk]
    refine (List.map_congr_left fun p hp => ?_).trans (List.map_id _)
    obtain ⟨q, hq, rfl⟩ := List.mem_map.mp hp
    obtain ⟨k, _, rfl⟩ := List.mem_map.mp hq
    simp
  · rw [if_neg h, dPut_new (by simpa using h)]
    simp [tdict]
def wCL (t : TF) (c : BF) (m : List (Val × Val) → Env → DR) (sl : List Nat) (vs : List Val) (acc : List (Val × Val)) (r : Env) (Q : DR → Prop) : Prop := Q (clL t c m sl vs acc r)
def kdcc (t : TF) (c : BF) (m : List (Val × Val) → Env → DR) (sl : List Nat) (Q : ER → Prop) : IR → Prop
  | .ok vs r1 => wCL t c m sl vs [] (wipeR r1 sl) (kdc2 r1 sl Q)
  | .ex e r1 => Q (.ex e r1)
  | .bad => Q .bad
section
variable {r : Env} {f fk : EF}
theorem wE_dc2 {fi fi1 : IF} {t t1 : TF} {c c1 : BF} {sl sl1 : List Nat} {Q : ER → Prop} : wE (dc2 fi t c fi1 t1 c1 fk f sl sl1) r Q = wI fi r (kdcc t c (secM fi1 t1 c1 (layM fk f) sl1) sl Q) := by
  unfold wE wI dc2
  cases fi r with
  | ok vs r1 => simp only [kdcc, wCL]; cases clL t c (secM fi1 t1 c1 (layM fk f) sl1) sl vs [] (wipeR r1 sl) <;> rfl
  | _ => rfl
/-- the inner clause -/
theorem clL_in {t1 : TF} {c1 : BF} {sl1 : List Nat} {env : Env} {u : Val} : ∀ (ys : List Str) (acc : List Str), (∀ y ∈ ys, ∃ r1 o, t1 (.str y) env = some r1 ∧ c1 r1 = .ok true r1 ∧ fk r1 = .ok o (.str y) r1 ∧ (∃ o2, f r1 = .ok o2 u r1) ∧ wipeR r1 sl1 = env) → acc.length + ys.length ≤ 100000 →
    clL t1 c1 (layM fk f) sl1 (ys.map .str) (tdict u acc) env = .ok (tdict u (insAll acc ys)) env
  | [], acc, _, _ => by simp [clL, insAll]
  | y :: ys, acc, h, hl => by
    obtain ⟨r1, o, e1, e2, e3, ⟨o2, e4⟩, e5⟩ := h y (by simp)
    rw [List.length_cons] at hl
    have ha : (tdict u acc).length < 100000 := by simp [sd_len]; omega
    rw [List.map_cons, clL]
    have hb := insS_len (acc := acc) (x := y)
    simp only [e1, e2, layM, frz, e3, e4, keyOf, if_pos ha, e5, dPut_set]
    rw [clL_in ys (insS acc y) (fun y' hy => h y' (List.mem_cons_of_mem _ hy)) (by omega)]
    rfl
theorem wCL_set {α : Type} {t : TF} {c : BF} {fi1 : IF} {t1 : TF} {c1 : BF} {sl sl1 : List Nat} {env : Env} {u : Val} {Q : DR → Prop} (y : α → Val) (ys : α → List Str) (xs : List α)
    (h : ∀ x ∈ xs, ∃ r1, t (y x) env = some r1 ∧ c r1 = .ok true r1 ∧ wI fi1 r1 (fun s => ∃ r2, s = .ok ((ys x).map .str) r2 ∧ wipeR (wipeR r2 sl1) sl = env ∧
      ∀ z ∈ ys x, ∃ r3 o, t1 (.str z) (wipeR r2 sl1) = some r3 ∧ c1 r3 = .ok true r3 ∧ fk r3 = .ok o (.str z) r3 ∧ (∃ o2, f r3 = .ok o2 u r3) ∧ wipeR r3 sl1 = wipeR r2 sl1))
    (hl : (xs.flatMap ys).length ≤ 100000) (q : Q (.ok (tdict u (insAll [] (xs.flatMap ys))) env)) : wCL t c (secM fi1 t1 c1 (layM fk f) sl1) sl (xs.map y) [] env Q := by
  have key : ∀ (xs : List α) (acc : List Str), (∀ x ∈ xs, ∃ r1, t (y x) env = some r1 ∧ c r1 = .ok true r1 ∧ wI fi1 r1 (fun s => ∃ r2, s = .ok ((ys x).map .str) r2 ∧ wipeR (wipeR r2 sl1) sl = env ∧
      ∀ z ∈ ys x, ∃ r3 o, t1 (.str z) (wipeR r2 sl1) = some r3 ∧ c1 r3 = .ok true r3 ∧ fk r3 = .ok o (.str z) r3 ∧ (∃ o2, f r3 = .ok o2 u r3) ∧ wipeR r3 sl1 = wipeR r2 sl1)) → acc.length + (xs.flatMap ys).length ≤ 100000 →
      clL t c (secM fi1 t1 c1 (layM fk f) sl1) sl (xs.map y) (tdict u acc) env = .ok (tdict u (insAll acc (xs.flatMap ys))) env := by
    intro xs
    induction xs with
    | nil => intro acc _ _; simp [clL, insAll]
    | cons x xs ih =>
      intro acc h hl
      obtain ⟨r1, e1, e2, r2, e3, e4, e5⟩ := h x (by simp)
      rw [List.flatMap_cons, List.length_append] at hl
      have hb := insAll_len (acc := acc) (xs := ys x)
      rw [List.map_cons, clL]
      simp only [e1, e2, secM, e3]
      rw [clL_in (ys x) acc e5 (by omega)]
      simp only [e4]
      have := ih (insAll acc (ys x)) (fun x' hx => h x' (List.mem_cons_of_mem _ hx)) (by omega)
      skip
      rw [this, List.flatMap_cons, insAll_app]
  unfold wCL
  have := key xs [] h (by simpa using hl)
  rw [show (tdict u [] : List (Val × Val)) = [] from rfl] at this
  rw [this]
  exact q
end
def tyOf_e1 := @tyOf.eq_1
def tyOf_e2 := @tyOf.eq_2
def tyOf_e3 := @tyOf.eq_3
def tyOf_e4 := @tyOf.eq_4
def tyOf_e5 := @tyOf.eq_5
def tyOf_e6 := @tyOf.eq_6
def tyOf_e7 := @tyOf.eq_7
def tyOf_e8 := @tyOf.eq_8
def itemsOf_e1 := @itemsOf.eq_1
def itemsOf_e2 := @itemsOf.eq_2
def itemsOf_e3 := @itemsOf.eq_3
def itemsOf_e4 := @itemsOf.eq_4
def itemsOf_e5 := @itemsOf.eq_5
def Plen_e1 := @Plen.eq_1
def Plen_e2 := @Plen.eq_2
def Plen_e3 := @Plen.eq_3
def Plen_e4 := @Plen.eq_4
def Plist_e1 := @Plist.eq_1
def Plist_e2 := @Plist.eq_2
def Plist_e3 := @Plist.eq_3
def Ptuple_e1 := @Ptuple.eq_1
def Ptuple_e2 := @Ptuple.eq_2
def cmpI_e1 := @cmpI.eq_1
def Pint_e1 := @Pint.eq_1
def Pint_e2 := @Pint.eq_2
def Pneg_e1 := @Pneg.eq_1
def Prev_e1 := @Prev.eq_1
def koCl1_e1 := @koCl1.eq_1
def koCl1_e2 := @koCl1.eq_2
def koCl_e1 := @koCl.eq_1
def koCl_e2 := @koCl.eq_2
def koCl_e3 := @koCl.eq_3
def kcm2_e1 := @kcm2.eq_1
def kcm2_e2 := @kcm2.eq_2
def kcm1_e1 := @kcm1.eq_1
def kcm1_e2 := @kcm1.eq_2
def kcm_e1 := @kcm.eq_1
def kcm_e2 := @kcm.eq_2
def kcm_e3 := @kcm.eq_3
def knoX_e1 := @knoX.eq_1
def knoX_e2 := @knoX.eq_2
def knoX_e3 := @knoX.eq_3
def kmk3_e1 := @kmk3.eq_1
def kmk3_e2 := @kmk3.eq_2
def kmk2_e1 := @kmk2.eq_1
def kmk2_e2 := @kmk2.eq_2
def kmk2_e3 := @kmk2.eq_3
def kmk1_e1 := @kmk1.eq_1
def kmk1_e2 := @kmk1.eq_2
def kmk_e1 := @kmk.eq_1
def kmk_e2 := @kmk.eq_2
def kmk_e3 := @kmk.eq_3
def kmd1_e1 := @kmd1.eq_1
def kmd1_e2 := @kmd1.eq_2
def kmd_e1 := @kmd.eq_1
def kmd_e2 := @kmd.eq_2
def ksf1_e1 := @ksf1.eq_1
def ksf1_e2 := @ksf1.eq_2
def ksf_e1 := @ksf.eq_1
def ksf_e2 := @ksf.eq_2
def ksf_e3 := @ksf.eq_3
def kitI_e1 := @kitI.eq_1
def kitI_e2 := @kitI.eq_2
def kitI_e3 := @kitI.eq_3
def kitI_e4 := @kitI.eq_4
def kitE_e1 := @kitE.eq_1
def kitE_e2 := @kitE.eq_2
def kitE_e3 := @kitE.eq_3
def kitE_e4 := @kitE.eq_4
def kitE_e5 := @kitE.eq_5
def kasD2_e1 := @kasD2.eq_1
def kasD2_e2 := @kasD2.eq_2
def kasD2_e3 := @kasD2.eq_3
def kasD_e1 := @kasD.eq_1
def kasD_e2 := @kasD.eq_2
def kasD_e3 := @kasD.eq_3
def kasD_e4 := @kasD.eq_4
def kF_e1 := @kF.eq_1
def kF_e2 := @kF.eq_2
def kF_e3 := @kF.eq_3
def kF_e4 := @kF.eq_4
def kdst4_e1 := @kdst4.eq_1
def kdst4_e2 := @kdst4.eq_2
def kdst3_e1 := @kdst3.eq_1
def kdst3_e2 := @kdst3.eq_2
def kdst3_e3 := @kdst3.eq_3
def kdst2_e1 := @kdst2.eq_1
def kdst2_e2 := @kdst2.eq_2
def kdst2_e3 := @kdst2.eq_3
def kdst1_e1 := @kdst1.eq_1
def kdst1_e2 := @kdst1.eq_2
def kdst1_e3 := @kdst1.eq_3
def kdst1_e4 := @kdst1.eq_4
def kdc2_e1 := @kdc2.eq_1
def kdc2_e2 := @kdc2.eq_2
def kdc_e1 := @kdc.eq_1
def kdc_e2 := @kdc.eq_2
def kdc_e3 := @kdc.eq_3
def kitVs_e1 := @kitVs.eq_1
def kitVs_e2 := @kitVs.eq_2
def kitVs_e3 := @kitVs.eq_3
def kitVs_e4 := @kitVs.eq_4
def kdcc_e1 := @kdcc.eq_1
def kdcc_e2 := @kdcc.eq_2
def kdcc_e3 := @kdcc.eq_3
end M
namespace M
open PySem L2 PySem.Spec PyProof.Rows
section
variable {X : Cx} {pins : List (Addr × Obj)} {σ : L2.St} {H : Hp} {s : Shared}
end
/-- behind a suite that bound its exception at slot i -/
def gone (i : Nat) (D : Ends) : Ends := { nx := fun σ' H' => D.nx (σ'.set i none) H', rt := D.rt, bk := fun σ' H' => D.bk (σ'.set i none) H', ct := fun σ' H' => D.ct (σ'.set i none) H' }
/-- whether an exception of a class is taken by a clause of one class, or of some -/
def exmL (K : PySem.W.Frag) (cls : Value) : List Value → Option Bool
  | [c] => PySem.W.exmOne K cls c
  | cs => PySem.W.exmAny K cls cs
/-- names of classes, one behind another -/
inductive NamesL (X : Cx) : List Expr → List Value → Prop
  | nil : NamesL X [] []
  | cons {x : Str} {c : Value} {p : Pos} {es : List Expr} {cs : List Value} (h : Names X x c) (r : NamesL X es cs) : NamesL X (.Name x p :: es) (c :: cs)
/-- what a clause names: a class, or two or three of them, or more -/
inductive Tst (X : Cx) : Expr → List Value → Prop
  | one {x : Str} {c : Value} {p : Pos} (h : Names X x c) : Tst X (.Name x p) [c]
  | two {x1 x2 : Str} {c1 c2 : Value} {p1 p2 p : Pos} {k : Nat} (h1 : Names X x1 c1) (h2 : Names X x2 c2) : Tst X (.Tuple [.Name x1 p1, .Name x2 p2] k p) [c1, c2]
  | three {x1 x2 x3 : Str} {c1 c2 c3 : Value} {p1 p2 p3 p : Pos} {k : Nat} (h1 : Names X x1 c1) (h2 : Names X x2 c2) (h3 : Names X x3 c3) : Tst X (.Tuple [.Name x1 p1, .Name x2 p2, .Name x3 p3] k p) [c1, c2, c3]
  | many {es : List Expr} {cs : List Value} {p : Pos} {k : Nat} (h : NamesL X es cs) (hl : (decide (2 ≤ cs.length) && decide (cs.length ≤ 100)) = true) : Tst X (.Tuple es k p) cs
section
variable {X : Cx} {pn : List (Addr × Obj)} {σ : L2.St} {H : Hp} {s : Shared} {a : Addr}
theorem named {x : Str} {c : Value} {p : Pos} {A : Around} {Q E : Value → Shared → Prop} (S : L2.Inv (X.suite a pn) [] σ H s) (hA : A = X.A.mark (some (.ref a))) (h : Names X x c) (q : Q c s) : wpAny (model X.prog X.w) A (eval (.Name x p) X.env) Q E s := by
  subst hA
  obtain ⟨hg, hdbg, hm | ⟨hm, hv, hnn⟩⟩ := h
  · exact ld_glob (X := X.suite a pn) S hg hm q hdbg
  · exact ld_blt (X := X.suite a pn) S hg hm hv q hnn hdbg
end
/-- an except clause: its classes, the slot of its name, its suite -/
structure Hsp where
  c : List Value
  nm : Option Nat
  ts : Addr → Value → Option Addr → TS
inductive HdsT (X : Cx) : List ExceptHandler → List Hsp → Prop
  | nil : HdsT X [] []
  | one {e : Expr} {c : List Value} {ts : Addr → Value → Option Addr → TS} {b₀ : Stmt} {suite : List Stmt} {pos' : Pos} {hds : List ExceptHandler} {l : List Hsp} (hc : Tst X e c)
      (hsu : ∀ (a : Addr) (cls : Value) (d : Option Addr) (pn : List (Addr × Obj)), PSs (X.suite a pn) (b₀ :: suite) (ts a cls d)) (r : HdsT X hds l) :
      HdsT X (.ExceptHandler (some e) none (b₀ :: suite) pos' :: hds) (⟨c, none, ts⟩ :: l)
  | as_ {e : Expr} {n : Str} {i : Nat} {c : List Value} {ts : Addr → Value → Option Addr → TS} {b₀ : Stmt} {suite : List Stmt} {pos' : Pos} {hds : List ExceptHandler} {l : List Hsp} (hc : Tst X e c) (hi : X.N[i]? = some n) (hln : X.env.kindOf n = some .local)
      (hsu : ∀ (a : Addr) (cls : Value) (d : Option Addr) (pn : List (Addr × Obj)), PSs (X.suite a pn) (b₀ :: suite) (ts a cls d)) (r : HdsT X hds l) :
      HdsT X (.ExceptHandler (some e) (some n) (b₀ :: suite) pos' :: hds) (⟨c, some i, ts⟩ :: l)
section
variable {X : Cx}
end
end M
namespace PySem.W
open PySem PySem.Spec PySem.Calls PyProof.Rows
section
variable {prog : Program} {w : World} {A : Around} {E : Value → Shared → Prop} {s : Shared} {K : Frag} {x D : Addr} {ox : Obj} {od : Option Obj}
end
end PySem.W
namespace M
open PySem L2 PySem.Spec PyProof.Rows
section
variable {X : Cx} {pins : List (Addr × Obj)} {σ : L2.St} {H : Hp} {s : Shared} {w : Wd} {G : Hp}
end
section
variable {w : Wd} {G H : Hp}
end
end M
namespace M
open PySem L2 PySem.Spec PyProof.Rows
/-- an except clause: of which classes it takes, the slot of its name, its suite -/
structure Hnd where
  m : List (Str × Bool)
  nm : Option Nat
  su : SF
def endS (nm : Option Nat) : SR → SR
  | .nx r => .nx (match nm with | some i => r.set i none | none => r)
  | .bk r => .bk (match nm with | some i => r.set i none | none => r)
  | .ct r => .ct (match nm with | some i => r.set i none | none => r)
  | .rt o v r => .rt o v r
  | .ex _ _ => .bad
  | .bad => .bad
def hndS : List Hnd → Str → List (Str × Val) → Env → SR
  | [], c, fs, r => .ex (.exc c fs) r
  | h :: hs, c, fs, r => match h.m.lookup c with
    | some true => endS h.nm (h.su (match h.nm with | some i => r.set i (some (false, .exc c fs)) | none => r))
    | some false => hndS hs c fs r
    | none => .bad
def tryS (b : SF) (hs : List Hnd) : SF := fun r => match b r with
  | .ex (.exc c fs) r1 => hndS hs c fs r1
  | .ex _ _ => .bad
  | x => x
/-- what a clause's table says is so -/
def MOk (w : Wd) (cv : List Value) (m : List (Str × Bool)) : Prop := ∀ c b, m.lookup c = some b → ∃ C, w.CM c = some C ∧ exmL w.K (.ref C) cv = some b
section
variable {A : Act} {G H : Hp} {σ : L2.St} {r : Env}
/-- the slot of a caught exception -/
theorem Ok.caught {a : Addr} {o : HO} (k : Ok A G H σ r) (n : H a = none) (ho : ∀ ps, o ≠ .tbl ps := by intro _ z; cases z) : Ok A (upd G a o) (upd H a o) σ r := by
  have ng : G a = none := k.sub.back n
  exact k.freezeT ng (.inl n) ho (k.notRt n) (k.fresh n)
end
/-- the clauses, as HandS's and as combinators -/
inductive HdsM (X : Cx) (A : Act) : List ExceptHandler → List Hnd → List Hsp → Prop
  | nil : HdsM X A [] [] []
  | one {e : Expr} {c : List Value} {b₀ : Stmt} {suite : List Stmt} {pos' : Pos} {m : List (Str × Bool)} {su : SF} {hds : List ExceptHandler} {hs : List Hnd} {l : List Hsp} (hc : Tst X e c) (hm : MOk A.w c m)
      (hsu : ∀ (a : Addr) (pn : List (Addr × Obj)), PSs (X.suite a pn) (b₀ :: suite) (tSt A W0 su)) (r : HdsM X A hds hs l) :
      HdsM X A (.ExceptHandler (some e) none (b₀ :: suite) pos' :: hds) (⟨m, none, su⟩ :: hs) (⟨c, none, fun _ _ _ => tSt A W0 su⟩ :: l)
  | as_ {e : Expr} {n : Str} {i : Nat} {c : List Value} {b₀ : Stmt} {suite : List Stmt} {pos' : Pos} {m : List (Str × Bool)} {su : SF} {hds : List ExceptHandler} {hs : List Hnd} {l : List Hsp} (hc : Tst X e c) (hm : MOk A.w c m) (hi : X.N[i]? = some n) (hln : X.env.kindOf n = some .local) (hio : i ∉ A.io)
      (hsu : ∀ (a : Addr) (pn : List (Addr × Obj)), PSs (X.suite a pn) (b₀ :: suite) (tSt A W0 su)) (r : HdsM X A hds hs l) :
      HdsM X A (.ExceptHandler (some e) (some n) (b₀ :: suite) pos' :: hds) (⟨m, some i, su⟩ :: hs) (⟨c, some i, fun _ _ _ => tSt A W0 su⟩ :: l)
theorem HdsM.hds {X : Cx} {A : Act} {h : List ExceptHandler} {hs : List Hnd} {l : List Hsp} (k : HdsM X A h hs l) : HdsT X h l := by
  induction k with
  | nil => exact .nil
  | one hc _ hsu _ ih => exact .one hc (fun a _ _ pn => hsu a pn) ih
  | as_ hc _ hi hln _ hsu _ ih => exact .as_ hc hi hln (fun a _ _ pn => hsu a pn) ih
def raiC (c : Str) (fl : List Str) (f : OsF) : SF := fun r => match f r with
  | .ok hs r1 => match lend r1 hs with
    | some as => if lents as = 0 ∧ as.length = fl.length then .ex (.exc c (fl.zip (as.map (·.2))).reverse) r1 else .bad
    | none => .bad
  | .ex e r1 => .ex e r1
  | .bad => .bad
/-- what the making of an exception by its own __init__ leaves -/
def spIni (C : Addr) (fl : List Str) : Sp := fun vs H Q _ => ∃ a ys, vs = .ref a :: ys ∧ ys.length = fl.length ∧ H a = some (exo a C none) ∧ ∀ d, H d = none → d ≠ a → Q .non (upd (upd H d (exd d (fl.zip ys).reverse)) a (exo a C (some d)))
section
variable {w : Wd} {G : Hp}
theorem repF_app : ∀ {fs gs : List (Str × Val)} {xs ys : List (Str × V)}, RepF w G fs xs → RepF w G gs ys → RepF w G (fs ++ gs) (xs ++ ys)
  | [], _, _, _, r, q => by rw [repF_nil.mp r]; exact q
  | (k, d) :: fs, _, _, _, r, q => by
    obtain ⟨y, ys, rfl, r1, r2⟩ := repF_cons.mp r
    exact repF_cons.mpr ⟨y, _, rfl, r1, repF_app r2 q⟩
theorem repF_rev : ∀ {fs : List (Str × Val)} {xs : List (Str × V)}, RepF w G fs xs → RepF w G fs.reverse xs.reverse
  | [], _, r => by rw [repF_nil.mp r]; exact repF_nil.mpr rfl
  | (k, d) :: fs, _, r => by
    obtain ⟨y, ys, rfl, r1, r2⟩ := repF_cons.mp r
    rw [List.reverse_cons, List.reverse_cons]
    exact repF_app (repF_rev r2) (repF_cons.mpr ⟨y, [], rfl, r1, repF_nil.mpr rfl⟩)
theorem repF_zip : ∀ {fl : List Str} {vs : List Val} {xs : List V}, Reps w G vs xs → RepF w G (fl.zip vs) (fl.zip xs)
  | [], _, _, _ => repF_nil.mpr rfl
  | _ :: _, [], _, r => by rw [reps_nil.mp r]; exact repF_nil.mpr rfl
  | f :: fl, v :: vs, _, r => by
    obtain ⟨y, ys, rfl, r1, r2⟩ := reps_cons.mp r
    exact repF_cons.mpr ⟨y, _, rfl, r1, repF_zip r2⟩
end
theorem rai_of {A : Act} {W : WX} {cn : Str} {fl : List Str} {f : OsF} {C : Addr} {σ : L2.St} {H : Hp} {D : Ends} (hC : A.w.CM cn = some C) (hl : fl.length ≤ 1000) (h : tSt A W (raiC cn fl f) D σ H) : tMkO C (spIni C fl) [] (tOs A W f) σ H fun cls d H' => W cls d σ H' := by
  obtain ⟨r, G, k, m⟩ := h
  refine ⟨r, G, k, ?_⟩
  unfold raiC at m
  cases hf : f r with
  | bad => rw [hf] at m; exact m.elim
  | ex e r' => rw [hf] at m; exact m σ
  | ok hs r1 =>
    simp only [hf] at m
    intro xs G1 H1 k1 st1 t1
    cases hld : lend r1 hs with
    | none => simp only [hld] at m; exact m.elim
    | some as =>
      simp only [hld] at m
      by_cases hc : lents as = 0 ∧ as.length = fl.length
      · rw [if_pos hc] at m
        have ar := lend_rel k1 hld t1
        have len := arel_length ar
        refine ⟨by omega, fun a na => ⟨a, xs, by rw [List.append_nil], by omega, upd_same, fun d nd hda => ⟨rfl, d, (fl.zip xs).reverse, upd_same, ?_, ?_, ?_⟩⟩⟩
        · rw [upd_ne hda, upd_same]
        · rw [upd_ne hda] at nd; exact nd
        · have nd1 : H1 d = none := by rw [upd_ne hda] at nd; exact nd
          have e : upd (del (upd (upd (upd H1 a (exo a C none)) d (exd d (fl.zip xs).reverse)) a (exo a C (some d))) a) d (.xd (fl.zip xs).reverse) = upd H1 d (.xd (fl.zip xs).reverse) := by
            funext b
            by_cases hb : b = d
            · subst hb; rw [upd_same, upd_same]
            · rw [upd_ne hb, upd_ne hb]
              by_cases hb2 : b = a
              · subst hb2; rw [del_same, na]
              · rw [del_ne hb2, upd_ne hb2, upd_ne hb, upd_ne hb2]
          rw [e]
          have ng : G1 d = none := k1.sub.back nd1
          exact m σ _ _ C (some d) (k1.caught nd1) (st1.ex.trans (Le.new ng)) hC (.inr ⟨d, _, rfl, upd_same, (repF_rev (repF_zip (arel_reps hc.1 ar))).mono (Le.new ng)⟩)
      · rw [if_neg hc] at m; exact m.elim
theorem ps_raiM {X : Cx} {A : Act} {W : WX} {e : Expr} {pos : Pos} {cn : Str} {fl : List Str} {f : OsF} {C : Addr} (c : Cal X A.w) (tk : Takes X W) (hC : A.w.CM cn = some C) (he : PMk X e (tMkO C (spIni C fl) [] (tOs A W f))) (hl : fl.length ≤ 1000 := by decide) : PS X (.Raise (some e) none pos) (tSt A W (raiC cn fl f)) :=
  PS.imp (ps_raise c.calm tk he) fun D σ H h => rai_of hC hl h
section
variable {P : Program} {w : World} {K : PySem.W.Frag} {mg : Str → Option Value} {base : Heap}
theorem vis_of {N ps : List Str} {sc : Scope} (S : FnScope N ps sc) {x : Str} (h : x ∈ ps) : Vis sc x := (S.par x h).elim .inl fun z => .inr (.inl z)
theorem ini1 {qual n0 n1 f1 : Str} {st : Stmt} {fI C : Addr} {fd : FuncData} {q1 q2 q3 q4 : Pos} (F : FunQ K "__init__" qual st fI fd) (S : FnScope [n0, n1] [n0, n1] (defScope st)) (T : OexC K C) (hno : PySem.W.findIn K (.ref C) f1 = some none)
    (hst : defBody st = [.Assign [.Attribute (.Name n0 q1) f1 q2] (.Name n1 q3) q4]) (h0 : (n0 == ("__debug__" : Str)) = false := by decide) (h0' : (n0 == ("__classdict__" : Str)) = false := by decide) (h1 : (n1 == ("__debug__" : Str)) = false := by decide) (h1' : (n1 == ("__classdict__" : Str)) = false := by decide) :
    FnOk P w K mg base (L2.CX P w) 1 fI fd [n0, n1] (spIni C [f1]) := by
  refine FunD.ok F S (fun vs H Q E ⟨a, ys, e, l, _⟩ => by subst e; simpa using l) fun cdv A outer s H vs Q E _ ⟨a, ys, e, l, ea, q⟩ => ?_
  subst e
  obtain ⟨y, rfl⟩ : ∃ y, ys = [y] := by
    cases ys with
    | nil => cases l
    | cons y r => cases r with
      | nil => exact ⟨y, rfl⟩
      | cons _ _ => cases l
  rw [hst]
  refine ⟨_, pss_one (ps_ost (pe_var (i := 0) rfl (vis_of S (by simp)) h0 h0') (pe_var (i := 1) rfl (vis_of S (by simp)) h1 h1')), ?_⟩
  exact ⟨y, rfl, .ref a, rfl, a, C, rfl, T, hno, .inl ⟨ea, fun d hd hda => q d hd hda⟩⟩
end
/-- C(e, ..) that is raised -/
theorem pmk_M {X : Cx} {x : Str} {C fI : Addr} {k : Nat} {fd : FuncData} {ps : List Str} {fl : List Str} {e : Expr} {es : List Expr} {ta : TA} {p pos : Pos} (T : OexC X.K C) (iC : PySem.W.findIn X.K (.ref C) "__init__" = some (some (.ref fI))) (tI : PySem.W.typeIn X.K (.ref fI) = some (.type "function"))
    (F1 : FnOk X.prog X.w X.K X.mg X.base (L2.CX X.prog X.w) k fI fd ps (spIni C fl)) (hr : RoomG (k + 1) X.A) (hb : Binds X.K fd ps []) (hg : Gl X x) (hm : X.mg x = some (.ref C)) (ha : PA X (e :: es) ta)
    (hdb : (x == ("__debug__" : Str)) = false := by decide) (he : NoStar X e es := by rfl) (hpl : NoStars X es pos := by rfl) :
    PMk X (.Call (.Name x p) (e :: es) [] pos) (tMkO C (spIni C fl) [] ta) :=
  pmk_oex T iC tI F1 hr.room hb .nil (fun _ _ _ _ _ _ _ ⟨_, _, _, _, _, _, _, _, _, _, _, _, z⟩ => z.elim) hg hm ha hdb he hpl
theorem Cal.tr {X : Cx} {w : Wd} {pn : List (Addr × Obj)} {xe : Value → Shared → Prop} (c : Cal X w) : Cal (X.tr pn xe) w := ⟨c.K, c.calm, c.un, c.gs, c.sy, c.W⟩
end M
namespace M
open PySem PySem.Spec PyProof.Rows L2
def rai0 (c : Str) : SF := fun r => .ex (.exc c []) r
theorem wS_rai0 {c : Str} {r : Env} {Q : SR → Prop} : wS (rai0 c) r Q = Q (.ex (.exc c []) r) := rfl
end M
namespace M
open PySem PySem.Spec PyProof.Rows L2
section
variable {X : Cx} {w : Wd}
end
end M
namespace M
open PySem PySem.Spec PyProof.Rows L2
section
variable {X : Cx} {w : Wd}
end
end M
namespace M
open PySem PySem.Spec PyProof.Rows L2
/-- a value in which no list stands that begins with a text -/
def hdI : List Val → Bool
  | [] => true
  | .int _ :: _ => true
  | _ => false
def hdS : List Val → Bool
  | .str _ :: _ => true
  | _ => false
mutual
def noL : Val → Bool
  | .non => true
  | .bl _ => true
  | .int _ => true
  | .str _ => true
  | .ty _ => true
  | .tup ds => noLs ds
  | .lst ds => hdI ds && noLs ds
  | .dct t kvs => !t && noLk kvs
  | _ => false
def noLs : List Val → Bool
  | [] => true
  | d :: ds => noL d && noLs ds
def noLk : List (Val × Val) → Bool
  | [] => true
  | (_, d) :: ds => noL d && noLk ds
end
/-- .. below the container itself -/
def noR : Val → Bool
  | .lst ds => noLs ds
  | .dct t kvs => !t && noLk kvs
  | _ => false
def noT (o : Bool) (v : Val) : Bool := if o = true then noR v else noL v
section
variable {w : Wd} {G G' : Hp} {a : Addr} {xs : List V} {s : Str} {xs0 : List V}
/-- G without a -/
def less (G : Hp) (a : Addr) : Hp := fun b => if b = a then none else G b
theorem less_ne {b : Addr} (h : b ≠ a) : less G a b = G b := if_neg h
theorem rd_less {b : Addr} {u : HO} (hu : ∀ ys, u ≠ .lst ys) (hG : G a = some (.lst xs)) (r : Rd G b u) : Rd (less G a) b u := by
  rcases r with r | ⟨o, r⟩
  · have ne : b ≠ a := fun z => by
      subst z
      rw [hG] at r
      exact hu xs (Option.some.inj r).symm
    exact .inl (by rw [less_ne ne]; exact r)
  · have ne : b ≠ a := fun z => by
      subst z
      rw [hG] at r
      cases r
    exact .inr ⟨o, by rw [less_ne ne]; exact r⟩
theorem reps_hd {ds : List Val} {ys : List V} (h : hdI ds = true) (r : Reps w G ds ys) : ∀ t l, ys ≠ .str t :: l := by
  intro t l e
  cases ds with
  | nil => rw [reps_nil] at r; rw [r] at e; cases e
  | cons d ds =>
    obtain ⟨y, l', e2, r1, _⟩ := reps_cons.mp r
    cases d with
    | int i =>
      have := rep_int.mp r1
      rw [e2, this] at e
      cases e
    | _ => cases h
mutual
theorem rep_less (hG : G a = some (.lst (.str s :: xs0))) : ∀ {v : Val} {x : V}, noL v = true → Rep w G v x → Rep w (less G a) v x
  | .non, _, _, r => by rw [Rep] at r ⊢; exact r
  | .bl _, _, _, r => by rw [Rep] at r ⊢; exact r
  | .int _, _, _, r => by rw [Rep] at r ⊢; exact r
  | .str _, _, _, r => by rw [Rep] at r ⊢; exact r
  | .ty _, _, _, r => by rw [Rep] at r ⊢; exact r
  | .tup ds, _, h, r => by
    rw [noL] at h
    rw [Rep] at r ⊢; obtain ⟨b, ys, e, q, r⟩ := r
    exact ⟨b, ys, e, q.elim (fun q => .inl (rd_less (fun _ z => by cases z) hG q)) .inr, reps_less hG h r⟩
  | .lst ds, _, h, r => by
    rw [noL, Bool.and_eq_true] at h
    rw [Rep] at r ⊢; obtain ⟨b, ys, e, q, r⟩ := r
    have ne : b ≠ a := fun z => by
      subst z
      rw [hG] at q
      have : HO.lst (V.str s :: xs0) = HO.lst ys := Option.some.inj q
      injection this with this
      exact reps_hd h.1 r s xs0 this.symm
    exact ⟨b, ys, e, by rw [less_ne ne]; exact q, reps_less hG h.2 r⟩
  | .dct t ds, _, h, r => by
    rw [noL, Bool.and_eq_true] at h
    rw [Rep] at r ⊢; obtain ⟨b, e, ⟨ht, kvs, o, q, r⟩ | ⟨ht, kvs, q, r⟩⟩ := r
    · have ne : b ≠ a := fun z => by
        subst z
        rw [hG] at q
        cases q
      exact ⟨b, e, .inl ⟨ht, kvs, o, by rw [less_ne ne]; exact q, repk_less hG h.2 r⟩⟩
    · rw [ht] at h; exact absurd h.1 (by decide)
  | .obj c fs, _, h, r => by simp [noL] at h
  | .exc c fs, _, h, r => by simp [noL] at h
  | .cls _, _, h, r => by simp [noL] at h
  | .scr _, _, h, r => by simp [noL] at h
  | .ows _, _, h, r => by simp [noL] at h
  | .oob _ _, _, h, r => by simp [noL] at h
theorem reps_less (hG : G a = some (.lst (.str s :: xs0))) : ∀ {ds : List Val} {ys : List V}, noLs ds = true → Reps w G ds ys → Reps w (less G a) ds ys
  | [], _, _, r => by rw [Reps] at r ⊢; exact r
  | d :: ds, _, h, r => by
    rw [noLs, Bool.and_eq_true] at h
    rw [Reps] at r ⊢; obtain ⟨y, ys, e, r1, r2⟩ := r
    exact ⟨y, ys, e, rep_less hG h.1 r1, reps_less hG h.2 r2⟩
theorem repk_less (hG : G a = some (.lst (.str s :: xs0))) : ∀ {ds : List (Val × Val)} {ys : List (Key × V)}, noLk ds = true → RepK w G ds ys → RepK w (less G a) ds ys
  | [], _, _, r => by rw [RepK] at r ⊢; exact r
  | (k, d) :: ds, _, h, r => by
    rw [noLk, Bool.and_eq_true] at h
    rw [RepK] at r ⊢; obtain ⟨q, y, ys, e, e2, r1, r2⟩ := r
    exact ⟨q, y, ys, e, e2, rep_less hG h.1 r1, repk_less hG h.2 r2⟩
end
theorem Le.less {G G' : Hp} {a : Addr} (n : G a = none) (h : Le G G') : Le G (less G' a) := fun b o e => by
  have ne : b ≠ a := fun z => by subst z; rw [n] at e; cases e
  rw [less_ne ne]; exact h b o e
end
def noOut : Option (Bool × Val) → Bool
  | some (o, v) => noT o v
  | none => true
def callB (bi n : Nat) (g : GF) (f : OsF) : EF := fun r => match f r with
  | .ok hs r1 => match r1[bi]? with
    | some (some (true, .lst ds)) => match lend (r1.set bi (some (false, .lst ds))) hs with
      | some as => if lents as ≤ 1 ∧ as.length = n then match g as with
        | .ok o z out => if hdS ds = true then (if noT o z = true ∧ noOut out = true then .ok o z (back r1 (lentIx (r1.set bi (some (false, .lst ds))) hs) out) else .bad)
          else .ok o z (back (r1.set bi (some (false, .lst ds))) (lentIx (r1.set bi (some (false, .lst ds))) hs) out)
        | .ex _ _ => .bad
        | .bad => .bad
        else .bad
      | none => .bad
    | _ => callG n g (fun r => .ok hs r) r1
  | .ex e r1 => .ex e r1
  | .bad => .bad
section
variable {A : Act} {W : WX} {G H G1 H1 G' H' : Hp} {σ : L2.St} {r r1 : Env}
end
section
variable {X : Cx} {A : Act} {W : WX} {lvl n bi : Nat} {x : Str} {st : Stmt} {ps : List Str} {g : GF} {p pos : Pos} {e : Expr} {es : List Expr} {fo : OsF}
end
section
variable {r : Env} {fs : OsF}
def kbb (ds : List Val) (r1 rb : Env) (ix : Option Nat) (Q : ER → Prop) : GR → Prop
  | .ok o z out => (if hdS ds = true then (if noT o z = true ∧ noOut out = true then Q (.ok o z (back r1 ix out)) else Q .bad) else Q (.ok o z (back rb ix out)))
  | .ex _ _ => Q .bad
  | .bad => Q .bad
def kcb1 (n : Nat) (g : GF) (Q : ER → Prop) (ds : List Val) (r1 rb : Env) (ix : Option Nat) : Option (List (Bool × Val)) → Prop
  | some as => (if lents as ≤ 1 ∧ as.length = n then wG g as (kbb ds r1 rb ix Q) else Q .bad)
  | none => Q .bad
def kcb (bi n : Nat) (g : GF) (Q : ER → Prop) (hs : List Hd) (r1 : Env) : Option Slot → Prop
  | some (some (true, .lst ds)) => kcb1 n g Q ds r1 (r1.set bi (some (false, .lst ds))) (lentIx (r1.set bi (some (false, .lst ds))) hs) (lend (r1.set bi (some (false, .lst ds))) hs)
  | _ => kc1 n g Q r1 (lentIx r1 hs) (lend r1 hs)
def kcallB (bi n : Nat) (g : GF) (Q : ER → Prop) : OsR → Prop
  | .ok hs r1 => kcb bi n g Q hs r1 r1[bi]?
  | .ex e r1 => Q (.ex e r1)
  | .bad => Q .bad
theorem wE_callB {bi n : Nat} {g : GF} {Q : ER → Prop} : wE (callB bi n g fs) r Q = wOs fs r (kcallB bi n g Q) := by
  unfold wE wOs callB
  cases fs r with
  | ok hs r1 =>
    simp only [kcallB]
    have fb : Q (callG n g (fun r => OsR.ok hs r) r1) = kc1 n g Q r1 (lentIx r1 hs) (lend r1 hs) := by
      have := wE_call (n := n) (g := g) (Q := Q) (fs := fun r => OsR.ok hs r) (r := r1)
      exact this
    cases hq : r1[bi]? with
    | none => exact fb
    | some t =>
      cases t with
      | none => exact fb
      | some t =>
        obtain ⟨o, v⟩ := t
        cases o with
        | false => exact fb
        | true =>
          cases v with
          | lst ds =>
            simp only [kcb]
            cases lend (r1.set bi (some (false, .lst ds))) hs with
            | none => rfl
            | some as =>
              simp only [kcb1, wG]
              split
              · cases g as with
                | ok o z out => simp only [kbb]; split <;> (try split) <;> rfl
                | _ => rfl
              · rfl
          | _ => exact fb
  | _ => rfl
variable {bi n : Nat} {g : GF} {Q : ER → Prop} {hs : List Hd} {r1 rb : Env} {ds : List Val} {ix : Option Nat} {o : Bool} {v z : Val} {out : Option (Bool × Val)}
theorem kcb_t : kcb bi n g Q hs r1 (some (some (true, .lst ds))) = kcb1 n g Q ds r1 (r1.set bi (some (false, .lst ds))) (lentIx (r1.set bi (some (false, .lst ds))) hs) (lend (r1.set bi (some (false, .lst ds))) hs) := rfl
theorem kcb_f : kcb bi n g Q hs r1 (some (some (false, v))) = kc1 n g Q r1 (lentIx r1 hs) (lend r1 hs) := rfl
def kcallB_e1 := @kcallB.eq_1
def kcallB_e2 := @kcallB.eq_2
def kcallB_e3 := @kcallB.eq_3
def kcb1_e1 := @kcb1.eq_1
def kcb1_e2 := @kcb1.eq_2
def kbb_e1 := @kbb.eq_1
end
end M
namespace M
open PySem L2
section
variable {r : Env} {fs : OsF} {b : SF}
def krai2 (c : Str) (fl : List Str) (r1 : Env) (Q : SR → Prop) : Option (List (Bool × Val)) → Prop
  | some as => (if lents as = 0 ∧ as.length = fl.length then Q (.ex (.exc c (fl.zip (as.map (·.2))).reverse) r1) else Q .bad)
  | none => Q .bad
def krai (c : Str) (fl : List Str) (Q : SR → Prop) : OsR → Prop
  | .ok hs r1 => krai2 c fl r1 Q (lend r1 hs)
  | .ex e r1 => Q (.ex e r1)
  | .bad => Q .bad
theorem wS_rai {c : Str} {fl : List Str} {Q : SR → Prop} : wS (raiC c fl fs) r Q = wOs fs r (krai c fl Q) := by
  unfold wS wOs raiC
  cases fs r with
  | ok hs r1 =>
    simp only [krai]
    cases lend r1 hs with
    | none => rfl
    | some as => simp only [krai2]; split <;> rfl
  | _ => rfl
def wH (hs : List Hnd) (c : Str) (fs : List (Str × Val)) (r : Env) (Q : SR → Prop) : Prop := Q (hndS hs c fs r)
def kend (nm : Option Nat) (Q : SR → Prop) (s : SR) : Prop := Q (endS nm s)
def khn (nm : Option Nat) (su : SF) (hs : List Hnd) (c : Str) (fs : List (Str × Val)) (r : Env) (Q : SR → Prop) : Option Bool → Prop
  | some true => wS su (match nm with | some i => r.set i (some (false, .exc c fs)) | none => r) (kend nm Q)
  | some false => wH hs c fs r Q
  | none => Q .bad
theorem wH_nil {c : Str} {fs : List (Str × Val)} {Q : SR → Prop} : wH [] c fs r Q = Q (.ex (.exc c fs) r) := rfl
theorem wH_cons {m : List (Str × Bool)} {nm : Option Nat} {su : SF} {hs : List Hnd} {c : Str} {fs : List (Str × Val)} {Q : SR → Prop} : wH (⟨m, nm, su⟩ :: hs) c fs r Q = khn nm su hs c fs r Q (m.lookup c) := by
  unfold wH
  rw [hndS]
  rcases m.lookup c with _ | _ | _ <;> rfl
def ktry (hs : List Hnd) (Q : SR → Prop) : SR → Prop
  | .ex (.exc c fs) r1 => wH hs c fs r1 Q
  | .ex _ _ => Q .bad
  | x => Q x
theorem wS_try {hs : List Hnd} {Q : SR → Prop} : wS (tryS b hs) r Q = wS b r (ktry hs Q) := by
  unfold wS tryS
  cases b r with
  | ex e r1 => cases e <;> rfl
  | _ => rfl
theorem ktry_ex {hs : List Hnd} {c : Str} {fs : List (Str × Val)} {Q : SR → Prop} : ktry hs Q (.ex (.exc c fs) r) = wH hs c fs r Q := rfl
theorem ktry_nx {hs : List Hnd} {Q : SR → Prop} : ktry hs Q (.nx r) = Q (.nx r) := rfl
theorem ktry_rt {hs : List Hnd} {o : Bool} {v : Val} {Q : SR → Prop} : ktry hs Q (.rt o v r) = Q (.rt o v r) := rfl
theorem khn_t {nm : Option Nat} {su : SF} {hs : List Hnd} {c : Str} {fs : List (Str × Val)} {Q : SR → Prop} : khn nm su hs c fs r Q (some true) = wS su (match nm with | some i => r.set i (some (false, .exc c fs)) | none => r) (kend nm Q) := rfl
theorem khn_f {nm : Option Nat} {su : SF} {hs : List Hnd} {c : Str} {fs : List (Str × Val)} {Q : SR → Prop} : khn nm su hs c fs r Q (some false) = wH hs c fs r Q := rfl
theorem kend_nx0 {Q : SR → Prop} : kend none Q (.nx r) = Q (.nx r) := rfl
theorem kend_nx {i : Nat} {Q : SR → Prop} : kend (some i) Q (.nx r) = Q (.nx (r.set i none)) := rfl
theorem kend_rt {nm : Option Nat} {o : Bool} {v : Val} {Q : SR → Prop} : kend nm Q (.rt o v r) = Q (.rt o v r) := rfl
def krai2_e1 := @krai2.eq_1
def krai2_e2 := @krai2.eq_2
def krai_e1 := @krai.eq_1
def krai_e2 := @krai.eq_2
def krai_e3 := @krai.eq_3
end
end M
namespace M
open PySem L2

/-- data that can be shown: how long, how deep -/
structure Shw (v : Val) (d : PyData) (n k : Nat) : Prop where
  e : toE v = some d
  s : d.showable = true
  t : txOk d = true
  dp : d.depth ≤ k
  z : rsz d ≤ n
structure ShwL (vs : List Val) (ds : List PyData) (n k : Nat) : Prop where
  e : toEs vs = some ds
  s : PyData.showableAll ds = true
  t : txOks ds = true
  dp : PyData.depthAll ds ≤ k
  z : rszs ds ≤ n
structure ShwK (ps : List (Val × Val)) (ds : List (PyData × PyData)) (n k : Nat) : Prop where
  e : toEk ps = some ds
  s : PyData.showableKv ds = true
  t : txOkk ds = true
  dp : PyData.depthKv ds ≤ k
  z : rszk ds ≤ n
theorem Shw.mono {v : Val} {d : PyData} {n k n' k' : Nat} (h : Shw v d n k) (h1 : n ≤ n' := by omega) (h2 : k ≤ k' := by omega) : Shw v d n' k' := ⟨h.e, h.s, h.t, Nat.le_trans h.dp h2, Nat.le_trans h.z h1⟩
theorem shw_bl (b : Bool) : Shw (.bl b) (.bool b) 5 0 := ⟨rfl, rfl, rfl, by simp [PyData.depth], by simp [rsz]⟩
theorem log_lt {n : Nat} (h : n < 10 ^ 20) : n.log2 < 1920 := by
  by_cases z : n = 0
  · subst z; decide
  · have := (Nat.log2_lt z (k := 1920)).mpr (Nat.lt_of_lt_of_le h (by decide +kernel))
    exact this
theorem shw_int {i : Int} (h : i.natAbs < 10 ^ 20) : Shw (.int i) (.int i) 21 0 := ⟨rfl, by simpa [PyData.showable] using log_lt h, rfl, by simp [PyData.depth], int_rsz h⟩
theorem shw_str {s : Str} (h : CpOk s) : Shw (.str s) (.str s) (10 * s.length + 2) 0 := ⟨rfl, rfl, by rw [txOk]; exact strOk_iff.mpr h, by simp [PyData.depth], by simp [rsz]⟩
theorem shl_nil : ShwL [] [] 0 0 := ⟨rfl, rfl, rfl, by simp [PyData.depthAll], by simp [rszs]⟩
theorem shl_cons {v : Val} {d : PyData} {vs : List Val} {ds : List PyData} {n k n' k' : Nat} (h : Shw v d n k) (t : ShwL vs ds n' k') : ShwL (v :: vs) (d :: ds) (n + 2 + n') (max k k') :=
  ⟨by rw [toEs, h.e, t.e], by rw [PyData.showableAll, h.s, t.s]; rfl, by rw [txOks, h.t, t.t]; rfl, by rw [PyData.depthAll]; have := h.dp; have := t.dp; omega, by rw [rszs]; have := h.z; have := t.z; omega⟩
theorem shw_tup {vs : List Val} {ds : List PyData} {n k : Nat} (h : ShwL vs ds n k) : Shw (.tup vs) (.tuple ds) (n + 3) (k + 1) :=
  ⟨by rw [toE, h.e]; rfl, by rw [PyData.showable]; exact h.s, by rw [txOk]; exact h.t, by rw [PyData.depth]; have := h.dp; omega, by rw [rsz]; have := h.z; omega⟩
theorem shw_lst {vs : List Val} {ds : List PyData} {n k : Nat} (h : ShwL vs ds n k) : Shw (.lst vs) (.list ds) (n + 2) (k + 1) :=
  ⟨by rw [toE, h.e]; rfl, by rw [PyData.showable]; exact h.s, by rw [txOk]; exact h.t, by rw [PyData.depth]; have := h.dp; omega, by rw [rsz]; have := h.z; omega⟩
mutual
theorem toD_E : ∀ {v : Val} {d d' : PyData}, toD v = some d → toE v = some d' → d = d'
  | .non, _, _, h, h' => by rw [toD] at h; rw [toE] at h'; cases h; cases h'; rfl
  | .bl _, _, _, h, h' => by rw [toD] at h; rw [toE] at h'; cases h; cases h'; rfl
  | .int _, _, _, h, h' => by rw [toD] at h; rw [toE] at h'; cases h; cases h'; rfl
  | .str _, _, _, h, h' => by rw [toD] at h; rw [toE] at h'; cases h; cases h'; rfl
  | .tup ds, _, _, h, h' => by
    rw [toD, Option.map_eq_some_iff] at h
    rw [toE, Option.map_eq_some_iff] at h'
    obtain ⟨a, e, rfl⟩ := h
    obtain ⟨b, e', rfl⟩ := h'
    rw [toDs_E e e']
  | .lst ds, _, _, h, h' => by
    rw [toD, Option.map_eq_some_iff] at h
    rw [toE, Option.map_eq_some_iff] at h'
    obtain ⟨a, e, rfl⟩ := h
    obtain ⟨b, e', rfl⟩ := h'
    rw [toDs_E e e']
  | .dct _ _, _, _, h, _ => by simp [toD] at h
  | .obj _ _, _, _, h, _ => by simp [toD] at h
  | .exc _ _, _, _, h, _ => by simp [toD] at h
  | .ty _, _, _, h, _ => by simp [toD] at h
  | .cls _, _, _, h, _ => by simp [toD] at h
  | .scr _, _, _, _, h => by simp [toE] at h
theorem toDs_E : ∀ {vs : List Val} {ds ds' : List PyData}, toDs vs = some ds → toEs vs = some ds' → ds = ds'
  | [], _, _, h, h' => by rw [toDs] at h; rw [toEs] at h'; cases h; cases h'; rfl
  | v :: vs, _, _, h, h' => by
    rw [toDs] at h; rw [toEs] at h'
    split at h
    · rename_i a as h1 h2
      split at h'
      · rename_i b bs h3 h4
        cases h; cases h'
        rw [toD_E h1 h3, toDs_E h2 h4]
      · cases h'
    · cases h
end
theorem toDkv_E : ∀ {ps : List (Val × Val)} {ds ds' : List (PyData × PyData)}, toDkv ps = some ds → toEk ps = some ds' → ds = ds'
  | [], _, _, h, h' => by rw [toDkv] at h; rw [toEk] at h'; cases h; cases h'; rfl
  | (k, v) :: ps, _, _, h, h' => by
    rw [toDkv] at h; rw [toEk] at h'
    split at h
    · rename_i a b as h1 h2 h3
      split at h'
      · rename_i a' b' as' h4 h5 h6
        cases h; cases h'
        rw [h1] at h4; cases h4
        rw [toD_E h2 h5, toDkv_E h3 h6]
      · cases h'
    · cases h
mutual
theorem E_D : ∀ {v : Val} {d : PyData}, toE v = some d → d.hasDict = false → toD v = some d
  | .non, _, h, _ => by rw [toE] at h; rw [toD]; exact h
  | .bl _, _, h, _ => by rw [toE] at h; rw [toD]; exact h
  | .int _, _, h, _ => by rw [toE] at h; rw [toD]; exact h
  | .str _, _, h, _ => by rw [toE] at h; rw [toD]; exact h
  | .tup ds, _, h, n => by
    rw [toE, Option.map_eq_some_iff] at h
    obtain ⟨a, e, rfl⟩ := h
    rw [toD, Es_D e (by simpa [PyData.hasDict] using n)]; rfl
  | .lst ds, _, h, n => by
    rw [toE, Option.map_eq_some_iff] at h
    obtain ⟨a, e, rfl⟩ := h
    rw [toD, Es_D e (by simpa [PyData.hasDict] using n)]; rfl
  | .dct true _, _, h, _ => by simp [toE] at h
  | .dct false _, _, h, n => by
    rw [toE, Option.map_eq_some_iff] at h
    obtain ⟨a, e, rfl⟩ := h
    simp [PyData.hasDict] at n
  | .obj _ _, _, h, _ => by simp [toE] at h
  | .exc _ _, _, h, _ => by simp [toE] at h
  | .ty _, _, h, _ => by simp [toE] at h
  | .cls _, _, h, _ => by simp [toE] at h
  | .scr _, _, h, _ => by simp [toE] at h
theorem Es_D : ∀ {vs : List Val} {ds : List PyData}, toEs vs = some ds → PyData.hasDictAll ds = false → toDs vs = some ds
  | [], _, h, _ => by rw [toEs] at h; rw [toDs]; exact h
  | v :: vs, _, h, n => by
    rw [toEs] at h
    split at h
    · rename_i a as h1 h2
      cases h
      simp only [PyData.hasDictAll, Bool.or_eq_false_iff] at n
      rw [toDs, E_D h1 n.1, Es_D h2 n.2]
    · cases h
end
theorem repr_shw {v : Val} {d : PyData} {n k : Nat} (h : Shw v d n k) (hb : isBox v = true) (hn : n ≤ 16777216 := by omega) (hk : k ≤ 60 := by omega) : PreprX [v] = some (false, .str d.shown) := by
  have h4 : d.shown.length ≤ sizeLine := by
    have := shown_le d h.t
    have := h.z
    have e : sizeLine = 16777216 := rfl
    omega
  have hG : PreprG [v] = some (false, .str d.shown) := by
    simp only [PreprG, h.e]
    rw [if_pos ⟨hb, h.s, by have := h.dp; omega, h4⟩]
  have hP : ∀ r, Prepr [v] = some r → r = (false, .str d.shown) := fun r hr => by
    simp only [Prepr] at hr
    split at hr
    · rename_i d' hd
      split at hr
      · cases hr; rw [toD_E hd h.e]
      · cases hr
    · cases hr
  have hD : ∀ r, PreprD [v] = some r → r = (false, .str d.shown) := fun r hr => by
    unfold PreprD at hr
    split at hr
    · rename_i kvs e
      cases e
      split at hr
      · rename_i ds hd
        split at hr
        · cases hr
          have he := h.e
          rw [toE, Option.map_eq_some_iff] at he
          obtain ⟨ds', e', rfl⟩ := he
          rw [toDkv_E hd e']
        · cases hr
      · cases hr
    · cases hr
  unfold PreprX orP
  cases e1 : PreprD [v] with
  | some r => exact congrArg some (hD r e1)
  | none =>
    simp only [orP]
    cases e2 : Prepr [v] with
    | some r => exact congrArg some (hP r e2)
    | none => exact hG
end M
namespace M
open PySem PySem.Spec PyProof.Rows L2
section
variable {X : Cx} {w : Wd} {pins : List (Addr × Obj)} {s : Shared} {σ : L2.St} {G H : Hp}
end
section
variable {X : Cx} {A : Act} {W : WX} {e : Expr} {es : List Expr} {g : OsF}
theorem RRep.up {w : Wd} {G H : Hp} {p : Addr} {o : HO} {v : Val} {x : V} (n : H p = none) (r : RRep w G H v x) : RRep w G (upd H p o) v x := by
  rcases r with r | ⟨a, e, r⟩
  · exact .inl r
  · exact .inr ⟨a, e, r.mono (Le.refl _) fun _ _ u hu => by rw [upd_ne (ne_of_none hu n)]; exact hu⟩
theorem RReps.up {w : Wd} {G H : Hp} {p : Addr} {o : HO} (n : H p = none) : ∀ {vs : List Val} {xs : List V}, RReps w G H vs xs → RReps w G (upd H p o) vs xs
  | [], _, r => r
  | _ :: _, _, ⟨y, ys, e, r1, r2⟩ => ⟨y, ys, e, r1.up n, RReps.up n r2⟩
theorem RReps.len {w : Wd} {G H : Hp} : ∀ {vs : List Val} {xs : List V}, RReps w G H vs xs → vs.length = xs.length
  | [], _, r => by have r' : _ = [] := r; subst r'; rfl
  | _ :: _, _, ⟨y, ys, e, r1, r2⟩ => by subst e; simp [RReps.len r2]
end
end M
namespace PySem.W
open PySem PySem.Calls PyProof.Rows Builtin
section
variable {prog : Program} {w : World} {A : Around} {E : Value → Shared → Prop} {s : Shared} {K : Frag} {x C L f : Addr} {h₀ : Heap} {m : Str → Option Value} {ox : Obj} {od : Option Obj} {b tb : Value}
end
end PySem.W

namespace M
open PySem PySem.Spec PyProof.Rows L2
/-- the first operand is an instance; two: the second one is one of the same class -/
def hdObj : Bool → List (Bool × Val) → Option (Str × List (Str × Val))
  | false, (_, .obj c fl) :: _ => some (c, fl)
  | true, (_, .obj c fl) :: (_, .obj c2 _) :: _ => if c2 = c then some (c, fl) else none
  | _, _ => none
/-- the own method m of the first operand's class, called with all -/
def dun (two : Bool) (tbl : Tbl) (m : Str) (fs : OsF) : EF := fun r => match fs r with
  | .ok hs r1 => match (lend r1 hs).bind (hdObj two) with
    | some (c, fl) => match fl.lookup m with
      | none => match tbl.lookup c with
        | some (n, g) => callG n g fs r
        | none => .bad
      | some _ => .bad
    | none => .bad
  | .ex e r1 => .ex e r1
  | .bad => .bad
section
variable {A : Act} {W : WX} {σ : L2.St} {H : Hp} {Q : VK} {tbl : Tbl} {mn : Str} {fs : OsF} {two : Bool}
/-- what gives a bool out, turned about or not, and no exception -/
def blX (neg : Bool) (f : EF) : EF := fun r => match f r with
  | .ok false (.bl b) r' => .ok false (.bl (if neg = true then !b else b)) r'
  | _ => .bad
/-- what gives a small number out, and no exception -/
def lnX (f : EF) : EF := fun r => match f r with
  | .ok false (.int i) r' => if 0 ≤ i ∧ i.toNat < 1000000000 then .ok false (.int i) r' else .bad
  | _ => .bad
end
section
variable {X : Cx} {A : Act} {W : WX} {lvl : Nat} {tbl : Tbl} {a b e : Expr} {fa fb : OF} {pos p apos : Pos} {pins : List (Addr × Obj)} {σ : L2.St} {H : Hp} {s : Shared} {Q : VK}
/-- the class has == of its own, and object's != -/
structure NeOk (X : Cx) (w : Wd) (c : Str) : Prop where
  ok : ∃ C, w.CM c = some C ∧ PySem.W.findIn X.K (.ref C) "__ne__" = some (some (.builtin "object.__ne__"))
/-- the class stands first in its own order -/
structure SfOk (X : Cx) (w : Wd) (c : Str) : Prop where
  ok : ∃ C, w.CM c = some C ∧ PySem.W.selfFirst X.K C = true
/-- f(e, ..), f gives an instance with __call__ -/
structure ClOk (X : Cx) (w : Wd) (lvl : Nat) (c : Str) (n : Nat) (g : GF) : Prop where
  ok : ∃ C f, w.CM c = some C ∧ StX.CallO X.K C f ∧ FnP X.prog X.w X.K X.mg X.base (L2.CX X.prog X.w) lvl f (spF w n g)
/-- an operand that is an instance -/
def oOb (fo : OF) : OF := fun r => match fo r with
  | .ok h r1 => match h.get r1 with
    | some (.obj _ _) => .ok h r1
    | _ => .bad
  | .ex e r1 => .ex e r1
  | .bad => .bad
end
section
variable {r : Env} {fs : OsF} {tbl : Tbl} {m : Str} {two : Bool}
def kdu4 (hs : List Hd) (r1 : Env) (Q : ER → Prop) : Option (Nat × GF) → Prop
  | some (n, g) => kcall n g Q (.ok hs r1)
  | none => Q .bad
def kdu3 (tbl : Tbl) (c : Str) (hs : List Hd) (r1 : Env) (Q : ER → Prop) : Option Val → Prop
  | none => kdu4 hs r1 Q (tbl.lookup c)
  | some _ => Q .bad
def kdu2 (tbl : Tbl) (m : Str) (hs : List Hd) (r1 : Env) (Q : ER → Prop) : Option (Str × List (Str × Val)) → Prop
  | some (c, fl) => kdu3 tbl c hs r1 Q (fl.lookup m)
  | none => Q .bad
def kdu (two : Bool) (tbl : Tbl) (m : Str) (Q : ER → Prop) : OsR → Prop
  | .ok hs r1 => kdu2 tbl m hs r1 Q ((lend r1 hs).bind (hdObj two))
  | .ex e r1 => Q (.ex e r1)
  | .bad => Q .bad
theorem wE_dun {Q : ER → Prop} : wE (dun two tbl m fs) r Q = wOs fs r (kdu two tbl m Q) := by
  have key : ∀ (n : Nat) (g : GF) (hs : List Hd) (r1 : Env), fs r = .ok hs r1 → Q (callG n g fs r) = kcall n g Q (.ok hs r1) := fun n g hs r1 h => by
    have e := wE_call (n := n) (fs := fs) (r := r) (g := g) (Q := Q)
    unfold wE wOs at e
    rw [e, h]
  unfold wE wOs dun
  cases hf : fs r with
  | ok hs r1 =>
    simp only [kdu]
    cases (lend r1 hs).bind (hdObj two) with
    | none => rfl
    | some p =>
      obtain ⟨c, fl⟩ := p
      simp only [kdu2]
      cases fl.lookup m with
      | some _ => rfl
      | none =>
        simp only [kdu3]
        cases tbl.lookup c with
        | none => rfl
        | some ng => exact key _ _ _ _ hf
  | _ => rfl
def kbl (neg : Bool) (Q : ER → Prop) : ER → Prop
  | .ok false (.bl b) r' => Q (.ok false (.bl (if neg = true then !b else b)) r')
  | _ => Q .bad
theorem wE_blX {neg : Bool} {f : EF} {Q : ER → Prop} : wE (blX neg f) r Q = wE f r (kbl neg Q) := by
  unfold wE blX
  rcases f r with ⟨_ | _, v, r'⟩ | _ | _
  · cases v <;> rfl
  · rfl
  · rfl
  · rfl
def kln (Q : ER → Prop) : ER → Prop
  | .ok false (.int i) r' => if 0 ≤ i ∧ i.toNat < 1000000000 then Q (.ok false (.int i) r') else Q .bad
  | _ => Q .bad
theorem wE_lnX {f : EF} {Q : ER → Prop} : wE (lnX f) r Q = wE f r (kln Q) := by
  unfold wE lnX
  rcases f r with ⟨_ | _, v, r'⟩ | _ | _
  · cases v <;> first | rfl | (simp only [kln]; split <;> rfl)
  · rfl
  · rfl
  · rfl
def koOb (h : Hd) (r1 : Env) (Q : OR → Prop) : Option Val → Prop
  | some (.obj _ _) => Q (.ok h r1)
  | _ => Q .bad
def koO (Q : OR → Prop) : OR → Prop
  | .ok h r1 => koOb h r1 Q (h.get r1)
  | .ex e r1 => Q (.ex e r1)
  | .bad => Q .bad
theorem wO_Ob {fo : OF} {Q : OR → Prop} : wO (oOb fo) r Q = wO fo r (koO Q) := by
  unfold wO oOb
  cases fo r with
  | ok h r1 =>
    simp only [koO]
    cases h.get r1 with
    | none => rfl
    | some v => cases v <;> rfl
  | _ => rfl
theorem kdu_ok {Q : ER → Prop} {hs : List Hd} {r1 : Env} : kdu two tbl m Q (.ok hs r1) = kdu2 tbl m hs r1 Q ((lend r1 hs).bind (hdObj two)) := rfl
theorem kbl_f {Q : ER → Prop} {b : Bool} : kbl false Q (.ok false (.bl b) r) = Q (.ok false (.bl b) r) := rfl
theorem kbl_t {Q : ER → Prop} {b : Bool} : kbl true Q (.ok false (.bl b) r) = Q (.ok false (.bl (!b)) r) := rfl
theorem hd_f {o : Bool} {c : Str} {fl : List (Str × Val)} {as : List (Bool × Val)} : hdObj false ((o, .obj c fl) :: as) = some (c, fl) := rfl
theorem hd_t {o o2 : Bool} {c : Str} {fl fl2 : List (Str × Val)} {as : List (Bool × Val)} : hdObj true ((o, .obj c fl) :: (o2, .obj c fl2) :: as) = some (c, fl) := if_pos rfl
def kdu4_e1 := @kdu4.eq_1
def kdu3_e1 := @kdu3.eq_1
def kdu2_e1 := @kdu2.eq_1
def kdu_e2 := @kdu.eq_2
def koOb_e1 := @koOb.eq_1
def koO_e1 := @koO.eq_1
def koO_e2 := @koO.eq_2
def kln_e1 := @kln.eq_1
end
end M
namespace M
open PySem PySem.Spec PyProof.Rows L2
def seqOf : Val → Option (List Val)
  | .tup vs => some vs
  | .lst vs => some vs
  | _ => none
/-- *e among arguments: the items, frozen -/
def osStarA (f : EF) (g : OsF) : OsF := fun r => match frz f r with
  | .ok _ v r1 => match seqOf v with
    | some vs => match g r1 with
      | .ok hs r2 => .ok (vs.map (Hd.tmp false) ++ hs) r2
      | .ex e r2 => .ex e r2
      | .bad => .bad
    | none => .bad
  | .ex e r1 => .ex e r1
  | .bad => .bad
section
variable {X : Cx} {A : Act} {W : WX} {σ : L2.St} {H : Hp} {e : Expr} {es : List Expr} {f : EF} {g : OsF} {p pos sp_ : Pos}
/-- C(..) whatever the number of arguments -/
def mkCS (c : Str) (g : GF) (f : OsF) : EF := fun r => mkC c (match f r with | .ok hs _ => hs.length + 1 | _ => 0) g f r
variable {lvl : Nat} {c x : Str} {gf : GF} {fs : OsF} {tbl : Tbl} {i : Nat}
/-- x(..), x a name that holds a class -/
def mkDS (tbl : Tbl) (i : Nat) (fs : OsF) : EF := fun r => match r[i]? with
  | some (some (false, .cls c)) => match tbl.lookup c with
    | some (_, g) => mkCS c g fs r
    | none => .bad
  | _ => .bad
end
section
variable {r : Env} {fs g : OsF} {f : EF} {gf : GF} {c : Str} {tbl : Tbl} {i : Nat}
def ksta2 (vs : List Val) (Q : OsR → Prop) : OsR → Prop
  | .ok hs r2 => Q (.ok (vs.map (Hd.tmp false) ++ hs) r2)
  | .ex e r2 => Q (.ex e r2)
  | .bad => Q .bad
def ksta1 (g : OsF) (r1 : Env) (Q : OsR → Prop) : Option (List Val) → Prop
  | some vs => wOs g r1 (ksta2 vs Q)
  | none => Q .bad
def ksta (g : OsF) (Q : OsR → Prop) : ER → Prop
  | .ok _ v r1 => ksta1 g r1 Q (seqOf v)
  | .ex e r1 => Q (.ex e r1)
  | .bad => Q .bad
theorem wOs_starA {Q : OsR → Prop} : wOs (osStarA f g) r Q = wE f r (ksta g Q) := by
  unfold wOs wE osStarA frz
  cases f r with
  | ok o v r1 =>
    simp only [ksta]
    cases seqOf v with
    | none => rfl
    | some vs =>
      simp only [ksta1, wOs]
      cases g r1 <;> rfl
  | _ => rfl
def kmkS (c : Str) (gf : GF) (Q : ER → Prop) : OsR → Prop
  | .ok hs r1 => kmk c (hs.length + 1) gf Q (.ok hs r1)
  | .ex e r1 => Q (.ex e r1)
  | .bad => Q .bad
theorem wE_mkCS {Q : ER → Prop} : wE (mkCS c gf fs) r Q = wOs fs r (kmkS c gf Q) := by
  have key : ∀ (n : Nat), wE (mkC c n gf fs) r Q = wOs fs r (kmk c n gf Q) := fun n => wE_mkC
  unfold wE mkCS
  have k2 := key (match fs r with | .ok hs _ => hs.length + 1 | _ => 0)
  unfold wE at k2
  rw [k2]
  unfold wOs
  cases fs r <;> rfl
def kmdS1 (c : Str) (fs : OsF) (r : Env) (Q : ER → Prop) : Option (Nat × GF) → Prop
  | some (_, g) => wE (mkCS c g fs) r Q
  | none => Q .bad
def kmdS (tbl : Tbl) (fs : OsF) (r : Env) (Q : ER → Prop) : Option Slot → Prop
  | some (some (false, .cls c)) => kmdS1 c fs r Q (tbl.lookup c)
  | _ => Q .bad
theorem wE_mkDS {Q : ER → Prop} : wE (mkDS tbl i fs) r Q = kmdS tbl fs r Q r[i]? := by
  unfold wE mkDS
  rcases r[i]? with _ | _ | ⟨_ | _, v⟩
  · rfl
  · rfl
  · cases v with
    | cls c =>
      simp only [kmdS]
      cases tbl.lookup c <;> rfl
    | _ => rfl
  · rfl
def ksta2_e1 := @ksta2.eq_1
def ksta1_e1 := @ksta1.eq_1
def ksta_e1 := @ksta.eq_1
def ksta_e2 := @ksta.eq_2
def seqOf_e1 := @seqOf.eq_1
def seqOf_e2 := @seqOf.eq_2
def kmkS_e1 := @kmkS.eq_1
def kmkS_e2 := @kmkS.eq_2
def kmdS1_e1 := @kmdS1.eq_1
def kmdS_e1 := @kmdS.eq_1
end
end M
namespace M
open PySem PySem.Spec PyProof.Rows L2
structure OwnC (K : PySem.W.Frag) (D : Addr) : Prop where
  hg : PySem.W.plainGet K D "__class__" = true
  hd : PySem.W.hasDictIn K D = true
  ha : PySem.W.findIn K (.ref D) "__class__" = some (some (.builtin "object.__class__"))
  hn : PySem.W.specialIn K (.builtin "object.__class__") "__get__" = some (some (.builtin "getset_descriptor.__get__"))
  ht : PySem.W.takesIn K (.builtin "object.__class__") = some true
  hm : PySem.W.mroIn K D (.type "object") = some true
end M
namespace M
open PySem PySem.Spec PyProof.Rows L2 HT
section
variable {prog : Program} {w : World} {A : Around} {E : Value → Shared → Prop} {s : Shared}
end
section
variable {X : Cx} {k : Nat} {p1 p2 p3 pos : Pos}
end
def PrevX : List Val → Option (Bool × Val)
  | [.tup ds] => some (false, .tup ds.reverse)
  | _ => none
section
variable {X : Cx} {A : Act} {W : WX} {x : Expr} {fo : OF} {k0 : Nat} {p1 p2 p3 pos : Pos}
end
def PrevX_e1 := @PrevX.eq_1
end M
namespace M
open PySem PySem.Spec PyProof.Rows L2
section
variable {X : Cx} {w : Wd}
end
end M
namespace M
open PySem PySem.Spec PyProof.Rows L2
/-- no value of a built-in kind is one of c's -/
structure NinD (X : Cx) (w : Wd) (c : Str) : Prop where
  ok : ∃ C, w.CM c = some C ∧ NinOk X.K C
section
variable {A : Act} {W : WX} {σ : L2.St} {H : Hp} {Q : VK} {tbl : Tbl} {mn : Str} {fs : OsF}
end
section
variable {X : Cx} {A : Act} {W : WX} {lvl : Nat} {tbl : Tbl} {a b e : Expr} {fa fb : OF} {pos p apos : Pos} {pins : List (Addr × Obj)} {σ : L2.St} {H : Hp} {s : Shared} {Q : VK}
/-- the def of x[i] stands where the package has put it -/
structure GetD (X : Cx) (w : Wd) (c : Str) : Prop where
  ok : ∃ C f, w.CM c = some C ∧ PySem.W.findIn X.K (.ref C) "__getitem__" = some (some (.ref f)) ∧ PySem.W.fnIn X.K f = true
end
section
variable {r : Env} {fs : OsF} {tbl : Tbl} {m : Str}
end
end M
namespace M
open PySem PySem.Spec PyProof.Rows L2
section
variable {X : Cx} {A : Act} {W : WX} {lvl : Nat} {tbl : Tbl} {a e : Expr} {p pos : Pos} {fa : OF} {pins : List (Addr × Obj)} {σ : L2.St} {H : Hp} {s : Shared} {Q : VK}
section
open PySem.SeqAt PySem.MeetsSeq PySem.AutoSeq1
end
end
end M
namespace M
open PySem PySem.Spec PyProof.Rows L2
def gtP (a b c d : Int) : Bool := decide (c < a ∨ (a = c ∧ d < b))
def PgtT : List Val → Option (Bool × Val)
  | [.tup [.int a, .int b], .tup [.int c, .int d]] => some (false, .bl (gtP a b c d))
  | _ => none
section
variable {X : Cx} {w : Wd}
theorem two_ints {G : Hp} {a b : Int} {xs : List V} (r : Reps w G [.int a, .int b] xs) : xs = [V.int a, V.int b] := reps_ints (ns := [a, b]) r
theorem at_two {a b : Int} {its : List Value} (r : Vals [V.int a, V.int b] its) : ∃ t u, its = [.int a t, .int b u] := by
  obtain ⟨x, y, e, ⟨t, h1⟩, ⟨u, h2⟩⟩ := vals2 r
  exact ⟨t, u, by rw [e, h1, h2]⟩
theorem eq_ints {A : Around} {s : Shared} (a b : Int) (t u : Tok) : SeqAt.EqAt A s (.int a t) (.int b u) (decide (a = b)) := by
  have z : (a == b) = decide (a = b) := by
    by_cases q : a = b
    · rw [decide_eq_true q]; exact beq_iff_eq.mpr q
    · rw [decide_eq_false q]; exact beq_eq_false_iff_ne.mpr q
  rw [← z]
  exact SeqAt.EqAt.int_int _ _ _ _
theorem opr_gtT (c : Cal X w) : OpR X (compareOp .Gt) (r2Of w PgtT) := by
  intro pins s σ H x y v u Q I rx ry ⟨G, vs, o, z, le, rr, hp, q⟩
  unfold PgtT at hp
  split at hp
  · rename_i i j k l
    cases hp
    obtain ⟨_, _, e, r1, r2⟩ := rreps_two rr
    cases e
    obtain ⟨p1, xs1, rfl, q1, s1⟩ := rrep_tup le r1
    obtain ⟨p2, xs2, rfl, q2, s2⟩ := rrep_tup le r2
    rw [two_ints s1, c.K] at q1
    rw [two_ints s2, c.K] at q2
    cases (show v = Value.ref p1 from rx)
    cases (show u = Value.ref p2 from ry)
    obtain ⟨its1, v1, t1, _⟩ := I.tuple q1
    obtain ⟨its2, v2, t2, _⟩ := I.tuple q2
    obtain ⟨tk1, tk2, rfl⟩ := at_two v1
    obtain ⟨tk3, tk4, rfl⟩ := at_two v2
    have R := Ob.RcOp.tuples_gt (A := X.A) (s := s) (e := fun n => if n = 0 then decide (i = k) else decide (j = l)) (r := fun n => if n = 0 then decide (k < i) else decide (l < j)) t1 t2 (by have := c.un; omega)
      (fun n h1 h2 => by
        match n, h1, h2 with
        | 0, _, _ => exact eq_ints _ _ _ _
        | 1, _, _ => exact eq_ints _ _ _ _
        | n + 2, h1, _ => exact absurd h1 (by simp))
      (fun n h1 h2 _ => by
        match n, h1, h2 with
        | 0, _, _ => exact Ob.RcOp.gt_int _ _ _ _
        | 1, _, _ => exact Ob.RcOp.gt_int _ _ _ _
        | n + 2, h1, _ => exact absurd h1 (by simp))
    have eb : Ob.lexAt (fun n => if n = 0 then decide (i = k) else decide (j = l)) (fun n => if n = 0 then decide (k < i) else decide (l < j)) (decide (2 > 2)) 0 2 = gtP i j k l := by
      unfold gtP
      simp only [Ob.lexAt]
      by_cases h1 : i = k
      · by_cases h2 : j = l
        · simp [h1, h2]
        · simp [h1, h2]
      · by_cases h2 : k < i
        · simp [h1, h2]
        · simp [h1, h2]
    have R' : Ob.RcOp .Gt X.A s (.ref p1) (.ref p2) (gtP i j k l) := by rw [← eb]; exact R
    exact R' X.prog X.w X.xe (EP X pins σ Q) ⟨.bl _, H, I, rfl, bl_new le q⟩
  · cases hp
end
def PgtX := orP Pgt PgtT
theorem opr_gtX {X : Cx} {w : Wd} (c : Cal X w) : OpR X (compareOp .Gt) (r2Of w PgtX) := opr_or opr_gt (opr_gtT c)
theorem pgtx_tup (a b c d : Int) : PgtX [.tup [.int a, .int b], .tup [.int c, .int d]] = some (false, .bl (gtP a b c d)) := rfl
/-- slot i holds the tuple that was made of the values behind the parameters: nothing else belongs to it -/
def StarP (A : Act) (i : Nat) : Prop := i ∈ A.io ∧ ∃ (T : Addr) (ob : Obj) (xs : List V), A.x0 i = some (.ref T) ∧ A.H0 T = some (.frz ob (.tup xs)) ∧ ¬ A.L T ∧ ob.dict = none
structure SVS (X : Cx) (w : Wd) (ios : List Nat) (i : Nat) (sts : List Stmt) (f : SF) : Prop where
  run : ∀ (A : Act) (W : WX), A.w = w → (∀ j ∈ A.io, j ∈ ios) → StarP A i → Takes X W → PSs X sts (tSt A W f)
section
variable {P : Program} {w : World} {K : PySem.W.Frag} {mg : Str → Option Value} {base : Heap}
end
end M
namespace M
open PySem PySem.Spec PyProof.Rows L2 LamX
/-- code objects of defs that make lambdas, their tables, the lambdas' names -/
abbrev Cds := List (Addr × Addr × Str)
section
variable {P : Program} {w : World} {K : PySem.W.Frag} {mg mb : Str → Option Value} {CM : Str → Option Addr} {k : Nat} {fa a : Addr} {fd : FuncData} {x : Str} {g : GF} {st : Shared} {us : List Value} {ns : List Int} {cs : Cds}
end
end M
namespace M
open PySem PySem.W PySem.Calls PyProof.Rows L2 LamX
/-- what is told: all objects below n, in their order (no walk from the names is computed) -/
def allA (n : Nat) : List Addr := List.range n ++ [sysModules]
def obsMS (n : Nat) (fa : List Fb) (fn : List He5.DefA) (g : Addr → Option Obj) : He.AlD := obsM fa fn (He.frG g (allA n))
def hookS (n : Nat) (fa : List Fb) (fn : List He5.DefA) : PySem.W.Hook where
  α := He.AlD
  obs := fun s => obsMS n fa fn s.heap.get?
  val := fun _ => He5.valA fn
  says := fun _ h => ∃ K : PySem.W.Frag, K.In h ∧ SaysM fa fn K
  of := fun _ _ e => ⟨_, He.frG_in, e⟩
  keeps := fun _ _ _ ⟨K, hK, c⟩ k => ⟨K, Frag.In.keeps hK k, c⟩
theorem obsMS_eq {n : Nat} {fa : List Fb} {fn : List He5.DefA} {g : Addr → Option Obj} {s : Shared} (h : ∀ a, g a = s.heap.get? a) : obsMS n fa fn g = (hookS n fa fn).obs s := by
  have e : g = s.heap.get? := funext h
  rw [e] <;> rfl
/-- what the run of a top shows of its end -/
def Shows {α : Type} (r : PySem.W.OpenRow) (N : Nat) (w : World) (f : PySem.W.SharedT → α) (v : α) : Prop := ∀ os : OsState, (HandSHeadRun.endF (HandSHeadRun.stepQ (HandSHeadRun.denQ HandSHeadRun.tabQ) r.prog w) N r.prog w os).map f = some v
theorem shows_app {r : PySem.W.OpenRow} {N : Nat} {w : World} {as : (Addr → Option Obj) → List Addr} {fa1 fa2 : List Fb} {fn1 fn2 : List He5.DefA} (h1 : Shows r N w (fun s => obsM fa1 fn1 (He.frG (HandSHeadRun.getT s) (as (HandSHeadRun.getT s)))) (He5.valA fn1))
    (h2 : Shows r N w (fun s => obsM fa2 fn2 (He.frG (HandSHeadRun.getT s) (as (HandSHeadRun.getT s)))) (He5.valA fn2)) :
    Shows r N w (fun s => obsM (fa1 ++ fa2) (fn1 ++ fn2) (He.frG (HandSHeadRun.getT s) (as (HandSHeadRun.getT s)))) (He5.valA (fn1 ++ fn2)) := fun os => by
  obtain ⟨s, es, g1⟩ := Option.map_eq_some_iff.mp (h1 os)
  obtain ⟨t, et, g2⟩ := Option.map_eq_some_iff.mp (h2 os)
  rw [es] at et
  cases et
  rw [es]
  exact congrArg some (obs_app g1 g2)
theorem shows_S {r : PySem.W.OpenRow} {n N : Nat} {w : World} {fa1 fa2 : List Fb} {fn1 fn2 : List He5.DefA} (h1 : Shows r N w (fun s => obsMS n fa1 fn1 (HandSHeadRun.getT s)) (He5.valA fn1)) (h2 : Shows r N w (fun s => obsMS n fa2 fn2 (HandSHeadRun.getT s)) (He5.valA fn2)) :
    Shows r N w (fun s => obsMS n (fa1 ++ fa2) (fn1 ++ fn2) (HandSHeadRun.getT s)) (He5.valA (fn1 ++ fn2)) := shows_app (as := fun _ => allA n) h1 h2
/-- a head's run from what it shows bit by bit -/
theorem run_bits {r : PySem.W.OpenRow} {q : Program} {H : PySem.W.Hook} {ob : PySem.W.SharedT → H.α} {N : Nat} {loose : List Str} {w : World}
    (hL : Shows r N w (fun s => HandSHeadRun.looksF r.prog (boot_heap w.params) s.abs) true)
    (hS : Shows r N w (fun s => HandSHeadRun.seenQ q loose (importedModules r.prog.main.body) (fun s => PySem.W.xlAt q [] s && PySem.W.recOk r.toRowW.records s) s.abs) (PySem.W.openGood q loose))
    (hO : Shows r N w ob (H.val w)) : HandSHeadRun.RunEq r q H ob N loose w := fun os => by
  obtain ⟨s, es, g1⟩ := Option.map_eq_some_iff.mp (hL os)
  obtain ⟨t, et, g2⟩ := Option.map_eq_some_iff.mp (hS os)
  obtain ⟨u, eu, g3⟩ := Option.map_eq_some_iff.mp (hO os)
  rw [es] at et eu
  cases et
  cases eu
  rw [es]
  exact congrArg some (Prod.ext g1 (Prod.ext g2 g3))
/-- the def at f makes lambdas named q: its code object, its table -/
structure LamD (K : PySem.W.Frag) (base : Heap) (mg : Str → Option Value) (T : List (Addr × Str)) (f : Addr) (q : Str) : Prop where
  ex : ∃ c P, (∀ o fd, K.lookup f = some o → o.data = .func fd → fd.code = .ref c) ∧ TabB base mg c P ∧ (P, q) ∈ T ∧ ∀ p ∈ T, p.1 = P → p.2 = q
end M
namespace M
open PySem L2 PySem.Spec PyProof.Rows

section
variable {w : Wd} {G H : Hp} {X : Cx} {pins : List (Addr × Obj)} {σ : L2.St} {s : Shared}
theorem rows_get {q : NestedKey} {d : Val} : ∀ {ds : List (Val × Val)} {kbs : List (NestedKey × V × V)} {xs : List (NestedKey × Addr × Value)}, RepT w G ds kbs → Paired Row kbs xs → getX ds q = some d →
    ∃ p y, atKey xs q = some p ∧ RelV y p.2 ∧ Rep w G d y
  | [], _, _, _, _, h => by simp [getX] at h
  | (k, e) :: ds, _, _, r, p, h => by
    rw [RepT] at r
    obtain ⟨q', z, y, ys, rfl, ek, r0, r1, r2⟩ := r
    cases p with
    | @cons _ x _ xs p1 p2 =>
      by_cases c : q' = q
      · subst c
        have : getX ((k, e) :: ds) q' = some e := by simp [getX, List.find?_cons, ek]
        rw [this] at h
        cases h
        refine ⟨x.2, y, ?_, p1.2.2, r1⟩
        have e1 : x.1 = q' := p1.1
        simp [atKey, List.find?_cons, e1]
      · have hk : ¬ keyN k = some q := by rw [ek]; simpa using c
        have : getX ((k, e) :: ds) q = getX ds q := by simp [getX, List.find?_cons, hk]
        rw [this] at h
        obtain ⟨p, y', h1, h2, h3⟩ := rows_get r2 p2 h
        refine ⟨p, y', ?_, h2, h3⟩
        have e1 : ¬ x.1 = q := by rw [show x.1 = q' from p1.1]; exact c
        have : atKey (x :: xs) q = atKey xs q := by simp [atKey, List.find?_cons, e1]
        rw [this]; exact h1
/-- what stands there, for the library's rules -/
theorem dx_there (c : Cal X w) (I : Inv X pins σ H s) (le : Le G H) {a : Addr} {ds : List (Val × Val)} {kbs : List (NestedKey × V × V)} (h : H a = some (DX w.W a kbs)) (rt : RepT w G ds kbs) (ha : allT ds = true) :
    ∃ xs, s.heap.DictOfH (nestedKind X.prog X.w) a xs ∧ Paired Row kbs xs ∧ xs.length ≤ sizeLine ∧ (a == sysModules) = false := by
  obtain ⟨⟨o, es, ep, ho, hx, hd, hp, hn, hz, hsys⟩, _⟩ := I.hok a _ h
  obtain ⟨xs, e1, e2, e3⟩ := rows_of I le c.K c.W rt ha hp
  exact ⟨xs, ⟨o, es, ep, ho, hx, hd, e1, e3, by rw [rows_keys e2]; exact hn⟩, e2, by rw [← Paired.length e2]; exact hz, hsys⟩
/-- a key that is looked up -/
theorem key_there (c : Cal X w) (I : Inv X pins σ H s) (le : Le G H) {k : Val} {y : V} {u : Value} {q : NestedKey} (hk : keyT k = some q) (r : Rep w G k y) (ry : RelV y u) :
    ∃ b, u = .ref b ∧ y = .ref b ∧ (nestedKind X.prog X.w).is s.heap q b := by
  obtain ⟨h1, h2, ds', rfl⟩ := keyT_n hk
  have r0 := r
  obtain ⟨b, zs, rfl, hs, rs⟩ := rep_tup.mp r
  obtain rfl : u = Value.ref b := ry
  exact ⟨b, rfl, rfl, rep_nested I le c.K r0 (show RelV (.ref b) (.ref b) from rfl) h1, h2⟩
end
def PixT : List Val → Option (Bool × Val)
  | [.dct true ds, k] => match keyT k with
    | some q => if allT ds = true then (getX ds q).map fun d => (false, d) else none
    | none => none
  | _ => none
def PixZ := orP Pix PixT
theorem ixr_t {X : Cx} {w : Wd} (c : Cal X w) : IxR X (r2Of w PixT) := by
  intro value slice pins s σ H x y v u Q I rx ry ⟨G, vs, o, z, le, rr, hp, q⟩ hs
  have fz : ∀ {d : Val} {a : V}, Rep w G d a → (∀ u G' H', Grow G H G' H' → NRep w G H G' H' false d u → Q u H') → Q a H := fun r q => q _ G H (Grow.refl le) (nrep_f r)
  unfold PixT at hp
  split at hp
  · obtain ⟨_, _, e, r1, r2⟩ := rreps_two rr
    cases e
    split at hp
    · rename_i k hk
      split at hp
      · rename_i ha
        rw [Option.map_eq_some_iff] at hp
        obtain ⟨d, hd, e⟩ := hp
        cases e
        obtain ⟨a, rfl, ⟨ht, _⟩ | ⟨_, kbs, h, rk⟩⟩ := rrep_dct le r1
        · cases ht
        · have r2' : Rep w G _ _ := r2.elim id fun ⟨b, _, r⟩ => by
            obtain ⟨_, _, ds', rfl⟩ := keyT_n hk
            exact r.elim
          obtain ⟨b, rfl, rfl, key⟩ := key_there c I le hk r2' ry
          obtain ⟨xs, dd, e2, _, _⟩ := dx_there c I le h rk ha
          obtain ⟨p, y', h1, h2, h3⟩ := rows_get rk e2 hd
          cases (show v = Value.ref a from rx)
          have room : (nestedKind X.prog X.w).room X.A.in1 := by show X.A.units + 1 + 8 < cLine; have := c.un; omega
          refine PyProof.Rows.tail_any dd.typeIs PySem.F.slot_dict_getitem.lookup (wpAny_getItem_heap room key dd h1 ?_) hs
          have I2 : Inv X pins σ H { s with toks := s.toks + (nestedKind X.prog X.w).draws k } := I.tok (s.toks + (nestedKind X.prog X.w).draws k)
          exact ⟨y', H, I2, h2, fz h3 q⟩
      · cases hp
    · cases hp
  · cases hp
theorem ixr_or {X : Cx} {w : Wd} {P P' : List Val → Option (Bool × Val)} (h : IxR X (r2Of w P)) (h' : IxR X (r2Of w P')) : IxR X (r2Of w (orP P P')) := fun value slice pins s σ H x y v u Q I rx ry q hs =>
  (rOf_or (xs := [x, y]) q).elim (fun q => h value slice pins s σ H x y v u Q I rx ry q hs) fun q => h' value slice pins s σ H x y v u Q I rx ry q hs
section
variable {X : Cx} {A : Act} {W : WX} {x y : Expr} {fa fb : OF} {pos : Pos}
theorem pe_idxZ (c : Cal X A.w) (ha : PE X x (tO A W fa)) (hb : PE X y (tO A W fb)) (hs : PlainIx y := by intro _ _; rfl) : PE X (.Subscript x y pos) (tE A W (bin PixZ fa fb)) := PE.imp (pe_ix (ixr_or (ixr_ix c) (ixr_t c)) ha hb hs) fun _ _ _ q => prim_os2 q
end
theorem pe_dNewX {X : Cx} {A : Act} {W : WX} {pos : Pos} (c : Cal X A.w) : PE X (.Dict [] [] pos) (tE A W (dNew true)) :=
  PE.imp (t := fun _ H Q => ∀ p, H p = none → Q (.ref p) (upd H p (DX A.w.W p []))) ⟨fun pins s σ H Q I h =>
    wpAny_Dict_empty ⟨.ref s.heap.objs.size, _, I.laid (a := s.heap.objs.size) (o := DX A.w.W s.heap.objs.size []) (t' := s.toks) (fun _ _ q => Heap.get?_push_of_some _ q) (Nat.le_refl _) (objOk_dx (dx_new s.heap I.big)), rfl, h _ (I.hok.fresh (Nat.le_refl _))⟩⟩
    fun σ H Q ⟨r, G, k, m⟩ p hp => by
  have gr := Grow.laidH (o := DX A.w.W p []) k.sub hp
  exact m _ G _ ⟨k.grow gr, gr.step k, trep_t (.inr ⟨rfl, _, upd_same, by rw [RepT]⟩) (k.sub.back hp) (fun z => k.notRt hp ((k.rtK (Ok.growK gr) p).mp z)) (k.fresh hp), fr_one (.inl hp)⟩
def putIxT : Val → Val → Val → Option Val
  | .dct true ds, k, v => (PputX ds k v).map (.dct true)
  | _, _, _ => none
def setIxT (i : Nat) (fk fe : EF) : SF := fun r => match frz fe r with
  | .ok _ v r1 => match r1[i]? with
    | some (some (true, _)) => match frz fk r1 with
      | .ok _ k r2 => match r2[i]? with
        | some (some (true, d)) => match putIxT d k v with
          | some d' => .nx (r2.set i (some (true, d')))
          | none => .bad
        | _ => .bad
      | .ex e r2 => .ex e r2
      | .bad => .bad
    | _ => .bad
  | .ex e r1 => .ex e r1
  | .bad => .bad
def rPutT (w : Wd) : V → V → V → Hp → (Hp → Prop) → Prop := fun o k x H Q => ∃ a d kd v d' G, o = .ref a ∧ Le G H ∧ G a = none ∧ Root w G H d a ∧ Rep w G kd k ∧ Rep w G v x ∧ putIxT d kd v = some d' ∧ ∀ u, flat d' = true → Root w G (upd H a u) d' a → Q (upd H a u)
theorem set_putT {X : Cx} {w : Wd} (c : Cal X w) : PSet X (rPutT w) := by
  intro pins s σ H o k x ov kvv u Q I ro rk rx ⟨a, d, kd, v, d', G, eo, le, n, rt, rpk, rpx, hp, q⟩
  subst eo
  unfold putIxT at hp
  split at hp
  · rename_i ds kd' v'
    rw [Option.map_eq_some_iff] at hp
    obtain ⟨es, hP, e⟩ := hp
    subst e
    unfold PputX at hP
    split at hP
    · rename_i qk hk
      split at hP
      · rename_i hal
        cases hP
        obtain ⟨ht, _⟩ | ⟨_, kbs, e, r⟩ := rt
        · cases ht
        · obtain ⟨b, rfl, rfl, key⟩ := key_there c I le hk rpk rk
          obtain ⟨xs, dd, e2, hz, hsys⟩ := dx_there c I le e r hal.1
          have room : (nestedKind X.prog X.w).room X.A.in1 := by show X.A.units + 1 + 8 < cLine; have := c.un; omega
          cases (show ov = Value.ref a from ro)
          have hlk : kbs.length < sizeLine := by rw [← repT_length r]; exact Nat.lt_of_lt_of_le hal.2 (by decide)
          refine wpAny_setItem_heap (hsz := hz) room key dd fun h' dd' hsb => ?_
          refine ⟨upd H a (DX w.W a (storedX kbs qk (.ref b) x)), ?_, q _ rfl (.inr ⟨rfl, _, upd_same, repT_put r (keyT_n hk).1 rpk rpx⟩)⟩
          obtain ⟨o', es', ep', ho', hx', hd', he', _, hn'⟩ := dd'
          refine d_write I (by rw [e]; exact True.intro) hsb ⟨o', ho'⟩ (objOk_dx ?_)
          have rows := rows_stored (q := qk) (a := b) e2 rx
          refine ⟨o', es', ep', ho', hx', hd', ?_, ?_, ?_, hsys⟩
          · rw [he']; exact rows_back c.W rows
          · rw [← rows_keys rows]; exact hn'
          · have := storedX_length kbs qk (.ref b) x; omega
      · cases hP
    · cases hP
  · cases hp
theorem ps_setIxT {X : Cx} {A : Act} {W : WX} {o ke e : Expr} {i : Nat} {fk fe : EF} {pos pos' : Pos} (c : Cal X A.w) (ho : PE X o (tVar i)) (hk : PE X ke (tE A W fk)) (he : PE X e (tE A W fe))
    (hs : swapsWithSole [.Subscript o ke pos'] e pos.line X.env = pure false := by rfl) (hw : swappedStores [.Subscript o ke pos'] e X.env = pure none := by rfl)
    (h1 : (assignEach [.Subscript o ke pos'] X.env).map (·.2) = [assign (.Subscript o ke pos') X.env] := by rfl)
    (ha : ∀ v, assign (.Subscript o ke pos') X.env v = (do
      let ov ← holding [v] (eval o X.env)
      let iv ← holding [v, ov] (eval ke X.env)
      standAt pos'
      holding [v, ov, iv] (setItem ov iv v)
      release [v, ov, iv] []) := by intro _; rfl) : PS X (.Assign [.Subscript o ke pos'] e pos) (tSt A W (setIxT i fk fe)) := by
  refine PS.imp (ps_asg (pe_frz he) (pg_sub ho (pe_frz hk) (set_putT c) ha) hs hw h1) fun D σ H h => ?_
  obtain ⟨r, G, k, m⟩ := tSt_iff.mp h
  refine ⟨r, G, k, ?_⟩
  unfold setIxT at m
  cases hf : frz fe r with
  | bad => rw [hf] at m; exact m.elim
  | ex e r' => rw [hf] at m; exact m σ
  | ok o0 v r1 =>
    have eo := frz_false hf
    subst eo
    simp only [hf] at m ⊢
    intro x G1 H1 R1
    have k1 := R1.ok
    rcases q1 : r1[i]? with _ | _ | ⟨_ | _, d0⟩
    · simp only [q1] at m; exact m.elim
    · simp only [q1] at m; exact m.elim
    · simp only [q1] at m; exact m.elim
    · simp only [q1] at m
      obtain ⟨a, e1, ro, n⟩ := k1.ow i d0 q1
      refine ⟨.ref a, e1, r1, G1, k1, ?_⟩
      cases hk' : frz fk r1 with
      | bad => simp only [hk'] at m; exact m.elim
      | ex e r2 => simp only [hk'] at m ⊢; exact (show ExP A W G σ e r2 from m σ).mono R1.st.ex
      | ok o1 kd r2 =>
        have eo := frz_false hk'
        subst eo
        simp only [hk'] at m ⊢
        intro y G2 H2 R2
        have k2 := R2.ok
        rcases q2 : r2[i]? with _ | _ | ⟨_ | _, d⟩
        · simp only [q2] at m; exact m.elim
        · simp only [q2] at m; exact m.elim
        · simp only [q2] at m; exact m.elim
        · simp only [q2] at m
          cases hp : putIxT d kd v with
          | none => simp only [hp] at m; exact m.elim
          | some d' =>
            simp only [hp] at m
            obtain ⟨b, e2, ro2, n2⟩ := k2.ow i d q2
            rw [e1] at e2; cases e2
            exact ⟨a, d, kd, v, d', G2, rfl, k2.sub, (n2 a fp_self).1, ro2, R2.tr, Rep.mono R2.st.ex R1.tr, hp, fun u hf hr => m σ G2 _ (k2.mut q2 e1 hf hr) (R1.st.ex.trans R2.st.ex)⟩
section
variable {i : Nat} {r : Env} {f fk : EF}
def ktx4 (i : Nat) (r : Env) (Q : SR → Prop) : Option Val → Prop
  | some d' => Q (.nx (r.set i (some (true, d'))))
  | none => Q .bad
def ktx3 (i : Nat) (k v : Val) (r : Env) (Q : SR → Prop) : Option Slot → Prop
  | some (some (true, d)) => ktx4 i r Q (putIxT d k v)
  | _ => Q .bad
def ktx2 (i : Nat) (v : Val) (Q : SR → Prop) : ER → Prop
  | .ok _ k r2 => ktx3 i k v r2 Q r2[i]?
  | .ex e r2 => Q (.ex e r2)
  | .bad => Q .bad
def ktx1 (i : Nat) (fk : EF) (v : Val) (r : Env) (Q : SR → Prop) : Option Slot → Prop
  | some (some (true, _)) => wE fk r (ktx2 i v Q)
  | _ => Q .bad
def ktx (i : Nat) (fk : EF) (Q : SR → Prop) : ER → Prop
  | .ok _ v r1 => ktx1 i fk v r1 Q r1[i]?
  | .ex e r1 => Q (.ex e r1)
  | .bad => Q .bad
theorem wS_setIxT {Q : SR → Prop} : wS (setIxT i fk f) r Q = wE f r (ktx i fk Q) := by
  unfold wS wE setIxT frz
  cases f r with
  | ok o v r1 =>
    simp only [ktx]
    rcases r1[i]? with _ | _ | ⟨_ | _, d0⟩
    · rfl
    · rfl
    · rfl
    · simp only [ktx1, wE]
      cases fk r1 with
      | ok o k r2 =>
        simp only [ktx2]
        rcases r2[i]? with _ | _ | ⟨_ | _, d⟩
        · rfl
        · rfl
        · rfl
        · simp only [ktx3]; cases putIxT d k v <;> rfl
      | _ => rfl
  | _ => rfl
theorem ktx_e1 {i : Nat} {fk : EF} {Q : SR → Prop} {o : Bool} {v : Val} {r1 : Env} : ktx i fk Q (.ok o v r1) = ktx1 i fk v r1 Q r1[i]? := rfl
theorem ktx1_e1 {i : Nat} {fk : EF} {v d : Val} {r1 : Env} {Q : SR → Prop} : ktx1 i fk v r1 Q (some (some (true, d))) = wE fk r1 (ktx2 i v Q) := rfl
theorem ktx2_e1 {i : Nat} {v k : Val} {o : Bool} {r2 : Env} {Q : SR → Prop} : ktx2 i v Q (.ok o k r2) = ktx3 i k v r2 Q r2[i]? := rfl
theorem ktx3_e1 {i : Nat} {k v d : Val} {r2 : Env} {Q : SR → Prop} : ktx3 i k v r2 Q (some (some (true, d))) = ktx4 i r2 Q (putIxT d k v) := rfl
theorem ktx4_e1 {i : Nat} {r : Env} {Q : SR → Prop} {d : Val} : ktx4 i r Q (some d) = Q (.nx (r.set i (some (true, d)))) := rfl
end
end M
local macro_rules
  | `(tactic| simp? only [$xs,*] $[$loc]?) => `(tactic| simp only [M.tyOf_e1, M.tyOf_e2, M.tyOf_e3, M.tyOf_e4, M.tyOf_e5, M.tyOf_e6, M.tyOf_e7, M.tyOf_e8, M.itemsOf_e1, M.itemsOf_e2, M.itemsOf_e3, M.itemsOf_e4, M.itemsOf_e5, M.Plen_e1, M.Plen_e2, M.Plen_e3, M.Plen_e4, M.Plist_e1, M.Plist_e2, M.Plist_e3, M.Ptuple_e1, M.Ptuple_e2, M.Pgt, M.Pge, M.Plt, M.Ple, M.cmpI_e1, M.Pint_e1, M.Pint_e2, M.Pneg_e1, M.Prev_e1, M.PrevX_e1, M.wE_cst, M.wE_var, M.wE_mv, M.wE_frz, M.wO_V, M.wO_S, M.wOs_nil, M.wOs_cons, M.wE_prim, M.wB_tst, M.wB_and, M.wB_or, M.wB_not, M.wB_yes, M.wE_andV, M.wE_orV, M.wE_notV, M.wE_ite, M.wA_nil, M.wA_cons, M.wA_star, M.wE_tup, M.wE_lst, M.wE_call, M.wS_seq, M.wS_skip, M.wS_brk, M.wS_cont, M.wS_asg, M.wS_drop, M.wS_ret, M.wS_if, M.wS_aug, M.wI_V, M.wI_R, M.wI_zip, M.wS_for, M.wE_lc, M.wP_no, M.wP_int, M.wE_slc, M.wE_chn, M.wO_Ty, M.wE_mut, M.wS_setIx, M.wE_dNew, M.wD_nil, M.wD_cons, M.wE_dsp, M.wE_lenSet, M.wS_asg2, M.wS_asgT, M.wOs_app, M.wOs_N, M.wOs_pick, M.kvar_e1, M.kvar_e2, M.kvar_e3, M.kmv_e1, M.kmv_e2, M.kfrz_e1, M.kfrz_e2, M.kfrz_e3, M.koV_e1, M.koV_e2, M.koV_e3, M.koS_e1, M.koS_e2, M.kcons2_e1, M.kcons2_e2, M.kcons2_e3, M.kcons_e1, M.kcons_e2, M.kcons_e3, M.kp2_e1, M.kp2_e2, M.kp1_e1, M.kp1_e2, M.kprim_e1, M.kprim_e2, M.kprim_e3, M.ktst_e1, M.ktst_e2, M.ktst_e3, M.ktst_e4, M.kand_e1, M.kand_e2, M.kor_e1, M.kor_e2, M.knot_e1, M.knot_e2, M.kandV_e1, M.kandV_e2, M.kandV_e3, M.kandV_e4, M.korV_e1, M.korV_e2, M.korV_e3, M.korV_e4, M.knotV_e1, M.knotV_e2, M.knotV_e3, M.kite_e1, M.kite_e2, M.kite_e3, M.kite_e4, M.kac2_e1, M.kac2_e2, M.kac2_e3, M.kac_e1, M.kac_e2, M.kac_e3, M.kstar2_e1, M.kstar2_e2, M.kstar2_e3, M.kstar1_e1, M.kstar1_e2, M.kstar_e1, M.kstar_e2, M.kstar_e3, M.ktup_e1, M.ktup_e2, M.ktup_e3, M.klst_e1, M.klst_e2, M.klst_e3, M.kback_e1, M.kback_e2, M.kback_e3, M.kc1_e1, M.kc1_e2, M.kcall_e1, M.kcall_e2, M.kcall_e3, M.kd1_e1, M.kd1_e2, M.kd2_e1, M.kd2_e2, M.kd3_e1, M.kd3_e2, M.kdef_e1, M.kdef_e2, M.kdef_e3, M.kdef_e4, M.kseq_e1, M.kseq_e2, M.kasg_e1, M.kasg_e2, M.kasg_e3, M.kdrop_e1, M.kdrop_e2, M.kdrop_e3, M.kret_e1, M.kret_e2, M.kret_e3, M.kif_e1, M.kif_e2, M.kif_e3, M.kif_e4, M.kaug2_e1, M.kaug2_e2, M.kaug2_e3, M.kaug2_e4, M.kaug_e1, M.kaug_e2, M.kitV1_e1, M.kitV1_e2, M.kitV_e1, M.kitV_e2, M.kitV_e3, M.kitR_e1, M.kitR_e2, M.kitR_e3, M.kfor_e1, M.kfor_e2, M.kfor_e3, M.kT_e1, M.kT_e2, M.kTurn_e1, M.kTurn_e2, M.kTurn_e3, M.kTurn_e4, M.kTurnW_e1, M.kTurnW_e2, M.kTurnW_e3, M.kTurnW_e4, M.klc2_e1, M.klc2_e2, M.klc_e1, M.klc_e2, M.klc_e3, M.kU2_e1, M.kU2_e2, M.kU1_e1, M.kU1_e2, M.kU1_e3, M.kU0_e1, M.kU0_e2, M.kpInt_e1, M.kpInt_e2, M.kpInt_e3, M.kpInt_e4, M.ksl4_e1, M.ksl4_e2, M.ksl3_e1, M.ksl3_e2, M.ksl3_e3, M.ksl2_e1, M.ksl2_e2, M.ksl2_e3, M.ksl1_e1, M.ksl1_e2, M.ksl1_e3, M.kch5_e1, M.kch5_e2, M.kch4_e1, M.kch4_e2, M.kch3b_e1, M.kch3b_e2, M.kch3b_e3, M.kch3_e1, M.kch3_e2, M.kch3_e3, M.kch2_e1, M.kch2_e2, M.kch1_e1, M.kch1_e2, M.kch1_e3, M.kch0_e1, M.kch0_e2, M.kch0_e3, M.koTy2_e1, M.koTy2_e2, M.koTy_e1, M.koTy_e2, M.koTy_e3, M.kmu3_e1, M.kmu3_e2, M.kmu2_e1, M.kmu2_e2, M.kmu1_e1, M.kmu1_e2, M.kmu1_e3, M.kmu_e1, M.kmu_e2, M.ksx4_e1, M.ksx4_e2, M.ksx3_e1, M.ksx3_e2, M.ksx2_e1, M.ksx2_e2, M.ksx2_e3, M.ksx1_e1, M.ksx1_e2, M.ksx_e1, M.ksx_e2, M.ksx_e3, M.kdp3_e1, M.kdp3_e2, M.kdp2_e1, M.kdp2_e2, M.kdp2_e3, M.kdp1_e1, M.kdp1_e2, M.kdp1_e3, M.kds2_e1, M.kds2_e2, M.kds_e1, M.kds_e2, M.kds_e3, M.kls2_e1, M.kls2_e2, M.kls_e1, M.kls_e2, M.kls_e3, M.kls_e4, M.kas2_e1, M.kas2_e2, M.kas2_e3, M.kas2_e4, M.kasT2_e1, M.kasT2_e2, M.kasT_e1, M.kasT_e2, M.kasT_e3, M.kapp2_e1, M.kapp2_e2, M.kapp2_e3, M.kapp_e1, M.kapp_e2, M.kapp_e3, M.kN_e1, M.kN_e2, M.kN_e3, M.kpick2_e1, M.kpick2_e2, M.kpick_e1, M.kpick_e2, M.kpick_e3, M.getAll, M.Hd.get, M.ownIx, M.outOf, M.lend, M.lentIx, M.back, M.lents, M.tgN, M.tgT, M.tgCons, M.tgNil, M.wipeR, M.restR, List.getElem?_cons_zero, List.getElem?_cons_succ, List.set_cons_zero, List.set_cons_succ, List.map_cons, List.map_nil, List.replicate_succ, List.replicate_zero, List.length_cons, List.length_nil, List.nil_append, List.cons_append, List.append_nil, List.filter_cons, List.filter_nil, Nat.reduceAdd, Nat.reduceSub, Nat.reduceLeDiff, Nat.reduceEqDiff, ↓reduceIte, if_true, if_false, Bool.false_eq_true, Option.map_some, Option.map_none, Option.getD_some, Option.getD_none, and_true, true_and, and_self, reduceCtorEq, Option.some.injEq, Bool.not_true, Bool.not_false, Nat.le_refl, M.wO_Cl, M.wE_callM, M.wE_noX, M.wE_mkC, M.wE_mkD, M.wS_setFld, M.wS_never, M.wI_I, M.wI_E, M.wA_StD, M.wE_fstr, M.wF_nil, M.wF_cons, M.wE_dst, M.wE_dc, M.wI_Vs, M.wE_dc2, M.koCl1_e1, M.koCl1_e2, M.koCl_e1, M.koCl_e2, M.koCl_e3, M.kcm2_e1, M.kcm2_e2, M.kcm1_e1, M.kcm1_e2, M.kcm_e1, M.kcm_e2, M.kcm_e3, M.knoX_e1, M.knoX_e2, M.knoX_e3, M.kmk3_e1, M.kmk3_e2, M.kmk2_e1, M.kmk2_e2, M.kmk2_e3, M.kmk1_e1, M.kmk1_e2, M.kmk_e1, M.kmk_e2, M.kmk_e3, M.kmd1_e1, M.kmd1_e2, M.kmd_e1, M.kmd_e2, M.ksf1_e1, M.ksf1_e2, M.ksf_e1, M.ksf_e2, M.ksf_e3, M.kitI_e1, M.kitI_e2, M.kitI_e3, M.kitI_e4, M.kitE_e1, M.kitE_e2, M.kitE_e3, M.kitE_e4, M.kitE_e5, M.kasD2_e1, M.kasD2_e2, M.kasD2_e3, M.kasD_e1, M.kasD_e2, M.kasD_e3, M.kasD_e4, M.kF_e1, M.kF_e2, M.kF_e3, M.kF_e4, M.kdst4_e1, M.kdst4_e2, M.kdst3_e1, M.kdst3_e2, M.kdst3_e3, M.kdst2_e1, M.kdst2_e2, M.kdst2_e3, M.kdst1_e1, M.kdst1_e2, M.kdst1_e3, M.kdst1_e4, M.kdc2_e1, M.kdc2_e2, M.kdc_e1, M.kdc_e2, M.kdc_e3, M.kitVs_e1, M.kitVs_e2, M.kitVs_e3, M.kitVs_e4, M.kdcc_e1, M.kdcc_e2, M.kdcc_e3, M.lk1, M.pairsOf, M.wS_rai, M.krai_e1, M.krai_e2, M.krai_e3, M.krai2_e1, M.krai2_e2, M.wS_try, M.ktry_ex, M.ktry_nx, M.ktry_rt, M.wH_nil, M.wH_cons, M.khn_t, M.khn_f, M.kend_nx0, M.kend_nx, M.kend_rt, M.wE_callB, M.kcallB_e1, M.kcallB_e2, M.kcallB_e3, M.kcb_t, M.kcb_f, M.kcb1_e1, M.kcb1_e2, M.kbb_e1, M.wS_rai0, M.wE_dun, M.kdu_ok, M.kdu_e2, M.kdu2_e1, M.kdu3_e1, M.kdu4_e1, M.wE_blX, M.kbl_f, M.kbl_t, M.wE_lnX, M.kln_e1, M.wO_Ob, M.koO_e1, M.koO_e2, M.koOb_e1, M.hd_f, M.hd_t, Option.bind_some, M.wOs_starA, M.ksta_e1, M.ksta_e2, M.ksta1_e1, M.ksta2_e1, M.seqOf_e1, M.seqOf_e2, M.wE_mkCS, M.kmkS_e1, M.kmkS_e2, M.wE_mkDS, M.kmdS_e1, M.kmdS1_e1, M.wS_setIxT, M.ktx_e1, M.ktx1_e1, M.ktx2_e1, M.ktx3_e1, M.ktx4_e1, $xs,*] $[$loc]?)
  | `(tactic| simp? [$xs,*] $[$loc]?) => `(tactic| simp only [M.tyOf_e1, M.tyOf_e2, M.tyOf_e3, M.tyOf_e4, M.tyOf_e5, M.tyOf_e6, M.tyOf_e7, M.tyOf_e8, M.itemsOf_e1, M.itemsOf_e2, M.itemsOf_e3, M.itemsOf_e4, M.itemsOf_e5, M.Plen_e1, M.Plen_e2, M.Plen_e3, M.Plen_e4, M.Plist_e1, M.Plist_e2, M.Plist_e3, M.Ptuple_e1, M.Ptuple_e2, M.Pgt, M.Pge, M.Plt, M.Ple, M.cmpI_e1, M.Pint_e1, M.Pint_e2, M.Pneg_e1, M.Prev_e1, M.PrevX_e1, M.wE_cst, M.wE_var, M.wE_mv, M.wE_frz, M.wO_V, M.wO_S, M.wOs_nil, M.wOs_cons, M.wE_prim, M.wB_tst, M.wB_and, M.wB_or, M.wB_not, M.wB_yes, M.wE_andV, M.wE_orV, M.wE_notV, M.wE_ite, M.wA_nil, M.wA_cons, M.wA_star, M.wE_tup, M.wE_lst, M.wE_call, M.wS_seq, M.wS_skip, M.wS_brk, M.wS_cont, M.wS_asg, M.wS_drop, M.wS_ret, M.wS_if, M.wS_aug, M.wI_V, M.wI_R, M.wI_zip, M.wS_for, M.wE_lc, M.wP_no, M.wP_int, M.wE_slc, M.wE_chn, M.wO_Ty, M.wE_mut, M.wS_setIx, M.wE_dNew, M.wD_nil, M.wD_cons, M.wE_dsp, M.wE_lenSet, M.wS_asg2, M.wS_asgT, M.wOs_app, M.wOs_N, M.wOs_pick, M.kvar_e1, M.kvar_e2, M.kvar_e3, M.kmv_e1, M.kmv_e2, M.kfrz_e1, M.kfrz_e2, M.kfrz_e3, M.koV_e1, M.koV_e2, M.koV_e3, M.koS_e1, M.koS_e2, M.kcons2_e1, M.kcons2_e2, M.kcons2_e3, M.kcons_e1, M.kcons_e2, M.kcons_e3, M.kp2_e1, M.kp2_e2, M.kp1_e1, M.kp1_e2, M.kprim_e1, M.kprim_e2, M.kprim_e3, M.ktst_e1, M.ktst_e2, M.ktst_e3, M.ktst_e4, M.kand_e1, M.kand_e2, M.kor_e1, M.kor_e2, M.knot_e1, M.knot_e2, M.kandV_e1, M.kandV_e2, M.kandV_e3, M.kandV_e4, M.korV_e1, M.korV_e2, M.korV_e3, M.korV_e4, M.knotV_e1, M.knotV_e2, M.knotV_e3, M.kite_e1, M.kite_e2, M.kite_e3, M.kite_e4, M.kac2_e1, M.kac2_e2, M.kac2_e3, M.kac_e1, M.kac_e2, M.kac_e3, M.kstar2_e1, M.kstar2_e2, M.kstar2_e3, M.kstar1_e1, M.kstar1_e2, M.kstar_e1, M.kstar_e2, M.kstar_e3, M.ktup_e1, M.ktup_e2, M.ktup_e3, M.klst_e1, M.klst_e2, M.klst_e3, M.kback_e1, M.kback_e2, M.kback_e3, M.kc1_e1, M.kc1_e2, M.kcall_e1, M.kcall_e2, M.kcall_e3, M.kd1_e1, M.kd1_e2, M.kd2_e1, M.kd2_e2, M.kd3_e1, M.kd3_e2, M.kdef_e1, M.kdef_e2, M.kdef_e3, M.kdef_e4, M.kasg_e1, M.kasg_e2, M.kasg_e3, M.kdrop_e1, M.kdrop_e2, M.kdrop_e3, M.kret_e1, M.kret_e2, M.kret_e3, M.kif_e1, M.kif_e2, M.kif_e3, M.kif_e4, M.kaug2_e1, M.kaug2_e2, M.kaug2_e3, M.kaug2_e4, M.kaug_e1, M.kaug_e2, M.kitV1_e1, M.kitV1_e2, M.kitV_e1, M.kitV_e2, M.kitV_e3, M.kitR_e1, M.kitR_e2, M.kitR_e3, M.kfor_e1, M.kfor_e2, M.kfor_e3, M.kT_e1, M.kT_e2, M.kTurn_e1, M.kTurn_e2, M.kTurn_e3, M.kTurn_e4, M.kTurnW_e1, M.kTurnW_e2, M.kTurnW_e3, M.kTurnW_e4, M.klc2_e1, M.klc2_e2, M.klc_e1, M.klc_e2, M.klc_e3, M.kU2_e1, M.kU2_e2, M.kU1_e1, M.kU1_e2, M.kU1_e3, M.kU0_e1, M.kU0_e2, M.kpInt_e1, M.kpInt_e2, M.kpInt_e3, M.kpInt_e4, M.ksl4_e1, M.ksl4_e2, M.ksl3_e1, M.ksl3_e2, M.ksl3_e3, M.ksl2_e1, M.ksl2_e2, M.ksl2_e3, M.ksl1_e1, M.ksl1_e2, M.ksl1_e3, M.kch5_e1, M.kch5_e2, M.kch4_e1, M.kch4_e2, M.kch3b_e1, M.kch3b_e2, M.kch3b_e3, M.kch3_e1, M.kch3_e2, M.kch3_e3, M.kch2_e1, M.kch2_e2, M.kch1_e1, M.kch1_e2, M.kch1_e3, M.kch0_e1, M.kch0_e2, M.kch0_e3, M.koTy2_e1, M.koTy2_e2, M.koTy_e1, M.koTy_e2, M.koTy_e3, M.kmu3_e1, M.kmu3_e2, M.kmu2_e1, M.kmu2_e2, M.kmu1_e1, M.kmu1_e2, M.kmu1_e3, M.kmu_e1, M.kmu_e2, M.ksx4_e1, M.ksx4_e2, M.ksx3_e1, M.ksx3_e2, M.ksx2_e1, M.ksx2_e2, M.ksx2_e3, M.ksx1_e1, M.ksx1_e2, M.ksx_e1, M.ksx_e2, M.ksx_e3, M.kdp3_e1, M.kdp3_e2, M.kdp2_e1, M.kdp2_e2, M.kdp2_e3, M.kdp1_e1, M.kdp1_e2, M.kdp1_e3, M.kds2_e1, M.kds2_e2, M.kds_e1, M.kds_e2, M.kds_e3, M.kls2_e1, M.kls2_e2, M.kls_e1, M.kls_e2, M.kls_e3, M.kls_e4, M.kas2_e1, M.kas2_e2, M.kas2_e3, M.kas2_e4, M.kasT2_e1, M.kasT2_e2, M.kasT_e1, M.kasT_e2, M.kasT_e3, M.kapp2_e1, M.kapp2_e2, M.kapp2_e3, M.kapp_e1, M.kapp_e2, M.kapp_e3, M.kN_e1, M.kN_e2, M.kN_e3, M.kpick2_e1, M.kpick2_e2, M.kpick_e1, M.kpick_e2, M.kpick_e3, M.getAll, M.Hd.get, M.ownIx, M.outOf, M.lend, M.lentIx, M.back, M.lents, M.tgN, M.tgT, M.tgCons, M.tgNil, M.wipeR, M.restR, List.getElem?_cons_zero, List.getElem?_cons_succ, List.set_cons_zero, List.set_cons_succ, List.map_cons, List.map_nil, List.replicate_succ, List.replicate_zero, List.length_cons, List.length_nil, List.nil_append, List.cons_append, List.append_nil, List.filter_cons, List.filter_nil, Nat.reduceAdd, Nat.reduceSub, Nat.reduceLeDiff, Nat.reduceEqDiff, ↓reduceIte, if_true, if_false, Bool.false_eq_true, Option.map_some, Option.map_none, Option.getD_some, Option.getD_none, and_true, true_and, and_self, reduceCtorEq, Option.some.injEq, Bool.not_true, Bool.not_false, Nat.le_refl, M.wO_Cl, M.wE_callM, M.wE_noX, M.wE_mkC, M.wE_mkD, M.wS_setFld, M.wS_never, M.wI_I, M.wI_E, M.wA_StD, M.wE_fstr, M.wF_nil, M.wF_cons, M.wE_dst, M.wE_dc, M.wI_Vs, M.wE_dc2, M.koCl1_e1, M.koCl1_e2, M.koCl_e1, M.koCl_e2, M.koCl_e3, M.kcm2_e1, M.kcm2_e2, M.kcm1_e1, M.kcm1_e2, M.kcm_e1, M.kcm_e2, M.kcm_e3, M.knoX_e1, M.knoX_e2, M.knoX_e3, M.kmk3_e1, M.kmk3_e2, M.kmk2_e1, M.kmk2_e2, M.kmk2_e3, M.kmk1_e1, M.kmk1_e2, M.kmk_e1, M.kmk_e2, M.kmk_e3, M.kmd1_e1, M.kmd1_e2, M.kmd_e1, M.kmd_e2, M.ksf1_e1, M.ksf1_e2, M.ksf_e1, M.ksf_e2, M.ksf_e3, M.kitI_e1, M.kitI_e2, M.kitI_e3, M.kitI_e4, M.kitE_e1, M.kitE_e2, M.kitE_e3, M.kitE_e4, M.kitE_e5, M.kasD2_e1, M.kasD2_e2, M.kasD2_e3, M.kasD_e1, M.kasD_e2, M.kasD_e3, M.kasD_e4, M.kF_e1, M.kF_e2, M.kF_e3, M.kF_e4, M.kdst4_e1, M.kdst4_e2, M.kdst3_e1, M.kdst3_e2, M.kdst3_e3, M.kdst2_e1, M.kdst2_e2, M.kdst2_e3, M.kdst1_e1, M.kdst1_e2, M.kdst1_e3, M.kdst1_e4, M.kdc2_e1, M.kdc2_e2, M.kdc_e1, M.kdc_e2, M.kdc_e3, M.kitVs_e1, M.kitVs_e2, M.kitVs_e3, M.kitVs_e4, M.kdcc_e1, M.kdcc_e2, M.kdcc_e3, M.lk1, M.pairsOf, M.wS_rai, M.krai_e1, M.krai_e2, M.krai_e3, M.krai2_e1, M.krai2_e2, M.wS_try, M.ktry_ex, M.ktry_nx, M.ktry_rt, M.wH_nil, M.wH_cons, M.khn_t, M.khn_f, M.kend_nx0, M.kend_nx, M.kend_rt, M.wE_callB, M.kcallB_e1, M.kcallB_e2, M.kcallB_e3, M.kcb_t, M.kcb_f, M.kcb1_e1, M.kcb1_e2, M.kbb_e1, M.wS_rai0, M.wE_dun, M.kdu_ok, M.kdu_e2, M.kdu2_e1, M.kdu3_e1, M.kdu4_e1, M.wE_blX, M.kbl_f, M.kbl_t, M.wE_lnX, M.kln_e1, M.wO_Ob, M.koO_e1, M.koO_e2, M.koOb_e1, M.hd_f, M.hd_t, Option.bind_some, M.wOs_starA, M.ksta_e1, M.ksta_e2, M.ksta1_e1, M.ksta2_e1, M.seqOf_e1, M.seqOf_e2, M.wE_mkCS, M.kmkS_e1, M.kmkS_e2, M.wE_mkDS, M.kmdS_e1, M.kmdS1_e1, M.wS_setIxT, M.ktx_e1, M.ktx1_e1, M.ktx2_e1, M.ktx3_e1, M.ktx4_e1, $xs,*] $[$loc]?)
namespace K21
open PySem L2 M 
abbrev top (i : Nat) : Stmt := PySem.Challenge.pw_passwidth_k21_places_and_bars.main.body.getD i (.Pass ⟨0, 0, 0, 0⟩)
abbrev s__law_pen : Stmt := top 41
abbrev s__law_draw : Stmt := top 42
abbrev s__law_names : Stmt := top 43
abbrev s__law_needs : Stmt := top 44
abbrev s__law_below : Stmt := top 45
abbrev s_is_name : Stmt := top 13
abbrev s_first_wrong : Stmt := top 35
abbrev s_need_rows : Stmt := top 37
abbrev s_are_needs : Stmt := top 36
abbrev s_need_needs : Stmt := top 38
abbrev s_unfinished : Stmt := top 28
abbrev s_ring_in : Stmt := top 29
abbrev s_C_Sheet_needs : Stmt := inCls (top 39) 6
abbrev s_row_text : Stmt := top 31
abbrev s_C_Sheet_rows : Stmt := inCls (top 39) 5
abbrev s_sheet_text : Stmt := top 32
abbrev s_C_Sheet_fill : Stmt := inCls (top 39) 2
abbrev s_C_Sheet___init__ : Stmt := inCls (top 39) 1
abbrev s_C_Sheet_of : Stmt := inCls (top 39) 3
abbrev s__law_copy : Stmt := top 47
abbrev s_place_in : Stmt := top 18
abbrev s_place_of : Stmt := top 20
abbrev s_is_bar : Stmt := top 19
abbrev s_closure : Stmt := top 2
abbrev s_bars : Stmt := top 21
abbrev s__law_bars : Stmt := top 46
abbrev s__law_order_right : Stmt := top 48
abbrev s_law : Stmt := top 49
abbrev s_C_InvalidRow___init__ : Stmt := inCls (top 5) 0
abbrev s_C_InvalidNeeds___init__ : Stmt := inCls (top 6) 0
abbrev s_C_HasRing___init__ : Stmt := inCls (top 7) 0
def d__law_pen : He5.DefA := dGlo "_law_pen" s__law_pen
def d__law_draw : He5.DefA := dGlo "_law_draw" s__law_draw
def d__law_names : He5.DefA := dGlo "_law_names" s__law_names
def d__law_needs : He5.DefA := dGlo "_law_needs" s__law_needs
def d__law_below : He5.DefA := dGlo "_law_below" s__law_below
def d_is_name : He5.DefA := dGlo "is_name" s_is_name
def d_first_wrong : He5.DefA := dGlo "first_wrong" s_first_wrong
def d_need_rows : He5.DefA := dGlo "need_rows" s_need_rows
def d_are_needs : He5.DefA := dGlo "are_needs" s_are_needs
def d_need_needs : He5.DefA := dGlo "need_needs" s_need_needs
def d_unfinished : He5.DefA := dGlo "unfinished" s_unfinished
def d_ring_in : He5.DefA := dGlo "ring_in" s_ring_in
def d_C_Sheet_needs : He5.DefA := dPrp "Sheet" "needs" "Sheet.needs" s_C_Sheet_needs
def d_row_text : He5.DefA := dGlo "row_text" s_row_text
def d_C_Sheet_rows : He5.DefA := dPrp "Sheet" "rows" "Sheet.rows" s_C_Sheet_rows
def d_sheet_text : He5.DefA := dGlo "sheet_text" s_sheet_text
def d_C_Sheet_fill : He5.DefA := dMth "Sheet" "fill" "Sheet.fill" s_C_Sheet_fill
def d_C_Sheet___init__ : He5.DefA := dMth "Sheet" "__init__" "Sheet.__init__" s_C_Sheet___init__
def d_C_Sheet_of : He5.DefA := dCmt "Sheet" "of" "Sheet.of" s_C_Sheet_of
def d__law_copy : He5.DefA := dGlo "_law_copy" s__law_copy
def d_place_in : He5.DefA := dGlo "place_in" s_place_in
def d_place_of : He5.DefA := dGlo "place_of" s_place_of
def d_is_bar : He5.DefA := dGlo "is_bar" s_is_bar
def d_closure : He5.DefA := dGlo "closure" s_closure
def d_bars : He5.DefA := dGlo "bars" s_bars
def d__law_bars : He5.DefA := dGlo "_law_bars" s__law_bars
def d__law_order_right : He5.DefA := dGlo "_law_order_right" s__law_order_right
def d_law : He5.DefA := dGlo "law" s_law
def d_C_InvalidRow___init__ : He5.DefA := dMth "InvalidRow" "__init__" "InvalidRow.__init__" s_C_InvalidRow___init__
def d_C_InvalidNeeds___init__ : He5.DefA := dMth "InvalidNeeds" "__init__" "InvalidNeeds.__init__" s_C_InvalidNeeds___init__
def d_C_HasRing___init__ : He5.DefA := dMth "HasRing" "__init__" "HasRing.__init__" s_C_HasRing___init__
def fn0 : List He5.DefA := ([d__law_pen, d__law_draw, d__law_names, d__law_needs, d__law_below, d_is_name, d_first_wrong, d_need_rows, d_are_needs, d_need_needs, d_unfinished, d_ring_in, d_C_Sheet_needs, d_row_text, d_C_Sheet_rows] : List He5.DefA)
def fa0 : List Fb := ([.fa (.glo "_law_pen"), .fa (.glo "_law_draw"), .fa (.glo "_law_names"), .fa (.glo "_law_needs"), .fa (.glo "_law_below"), .fa (.glo "is_name"), .fa (.glo "first_wrong"), .fa (.glo "need_rows"), .fa (.glo "are_needs"), .fa (.glo "need_needs"), .fa (.glo "unfinished"), .fa (.glo "ring_in"), .prop "Sheet" "needs", .fa (.glo "row_text"), .prop "Sheet" "rows", .fa (.glo "sheet_text"), .fa (.meth "Sheet" "fill"), .fa (.mkr "Sheet"), .cmet "Sheet" "of", .fa (.glo "_law_copy")] : List Fb) ++ ([.fa (.glo "place_in"), .fa (.glo "place_of"), .fa (.glo "is_bar"), .fa (.glo "closure"), .fa (.glo "bars"), .fa (.glo "_law_bars"), .fa (.glo "_law_order_right"), .fa (.glo "law"), .fa (.glo "Sheet"), .fa (.cls "Sheet"), .cread "Sheet", .fa (.noat "Sheet" "direct"), .fa (.noat "Sheet" "names")] : List Fb)
def fn1 : List He5.DefA := ([d_sheet_text, d_C_Sheet_fill, d_C_Sheet___init__, d_C_Sheet_of, d__law_copy, d_place_in, d_place_of, d_is_bar, d_closure, d_bars, d__law_bars, d__law_order_right, d_law, d_C_InvalidRow___init__, d_C_InvalidNeeds___init__, d_C_HasRing___init__] : List He5.DefA)
def fa1 : List Fb := ([.fa (.noat "Sheet" "order"), .fa (.noat "Sheet" "shown"), .fa (.glo "InvalidRow"), .fa (.glo "InvalidNeeds"), .fa (.glo "HasRing"), .exk "InvalidRow", .ini "InvalidRow", .exk "InvalidNeeds", .ini "InvalidNeeds", .exk "HasRing", .ini "HasRing", .xno "InvalidRow" "index", .xno "InvalidNeeds" "name", .xno "HasRing" "ring", .sys, .fa (.free "abs"), .fa (.free "all"), .fa (.free "any"), .fa (.free "dict"), .fa (.free "enumerate")] : List Fb) ++ ([.fa (.free "int"), .fa (.free "isinstance"), .fa (.free "len"), .fa (.free "list"), .fa (.free "range"), .fa (.free "repr"), .fa (.free "set"), .fa (.free "sorted"), .fa (.free "str"), .fa (.free "tuple"), .fa (.str "LETTERS" "abcdefghijklmnopqrstuvwxyz"), .fa (.int "LIMIT" 60), .fa (.int "LONGEST_NAME" 8)] : List Fb)
def fn : List He5.DefA := (fn0 ++ fn1)
def fa : List Fb := (fa0 ++ fa1)
abbrev R : PySem.W.OpenRow := PySem.W.OpenLaw.row PySem.Challenge.rw_passwidth_k21_places_and_bars
abbrev hk : PySem.W.Hook := hookS 1000 fa fn
def ob (s : PySem.W.SharedT) : He.AlD := obsMS 1000 fa fn (HandSHeadRun.getT s)
theorem ob_eq (s : PySem.W.SharedT) : ob s = hk.obs s.abs := obsMS_eq (HandSHeadRun.getT_eq s)
def loose : List Str := (["_wall", "closure", "PassError", "InvalidRow", "InvalidNeeds", "HasRing", "InvalidText", "NoPosition", "LETTERS", "LONGEST_NAME", "is_name", "is_integer", "is_between", "is_index", "place_in", "is_bar", "place_of", "bars", "MOST_ROWS", "lines_in"] : List Str) ++ (["row_in", "sheet_in", "unfinished", "ring_in", "row_text", "sheet_text", "LIMIT", "first_wrong", "are_needs", "need_rows", "need_needs", "Sheet", "_law_pen", "_law_draw", "_law_names", "_law_needs", "_law_below", "_law_bars", "_law_copy", "_law_order_right"] : List Str)
open PySem.W PySem.Calls PyProof.Rows in
theorem runLo (w : World) : Shows R 5000 w (fun s => HandSHeadRun.looksF R.prog (boot_heap w.params) s.abs) true := by
  intro os
  kernel_rfl
theorem runSe (w : World) : Shows R 5000 w (fun s => HandSHeadRun.seenQ (PySem.W.view R.prog [49]) loose (importedModules R.prog.main.body) (fun s => PySem.W.xlAt (PySem.W.view R.prog [49]) [] s && PySem.W.recOk R.toRowW.records s) s.abs) (PySem.W.openGood (PySem.W.view R.prog [49]) loose) := by
  intro os
  kernel_rfl
theorem runF0 (w : World) : Shows R 5000 w (fun s => obsMS 1000 fa0 fn0 (HandSHeadRun.getT s)) (He5.valA fn0) := by
  intro os
  kernel_rfl
theorem runF1 (w : World) : Shows R 5000 w (fun s => obsMS 1000 fa1 fn1 (HandSHeadRun.getT s)) (He5.valA fn1) := by
  intro os
  kernel_rfl
theorem runF (w : World) : Shows R 5000 w ob (hk.val w) := (shows_S (runF0 w) (runF1 w))
theorem run (w : World) : HandSHeadRun.RunEq R (PySem.W.view R.prog [49]) hk ob 5000 loose w := run_bits (runLo w) (runSe w) (runF w)
end K21
namespace PN
open PySem L2 M 
def E1_is_name : EF := (bin PinX (oS 1) (oV (cst (.str "abcdefghijklmnopqrstuvwxyz"))))
def b_is_name : SF := (seq (ifS (orB (notB (tst (prim Pisi (osCons (oS 0) (osCons (oV (cst (.ty "str"))) osNil))))) (notB (tst (chn Ple Ple (oV (cst (.int 1))) (oV (prim Plen (osCons (oS 0) osNil))) (oV (cst (.int 8))))))) (ret (cst (.bl false))) skip)
    (ret (prim Pall (osCons (oV (lc (itV (var 0)) (tgN 1) yesB E1_is_name [1])) osNil))))
def g_is_name : GF := runDef [0] 1 2 b_is_name
def L1_first_wrong : SF := (ifS (orB (tst (bin PeqX (oS 1) (oV (cst (.int 60))))) (orB (notB (tst (callG 1 g_is_name (osCons (oV (var 2)) osNil)))) (tst (bin PinX (oS 2) (oV (slc (oS 0) pNo (pInt (var 1)))))))) (ret (mv 1)) skip)
def b_first_wrong : SF := (seq (forS (itE (var 0)) (tgT (tgCons (tgN 1) (tgCons (tgN 2) tgNil))) L1_first_wrong)
    (ret (cst .non)))
def g_first_wrong : GF := runDef [0] 1 3 b_first_wrong
def b_need_rows : SF := (seq (ifS (notB (tst (prim Pisis (osCons (oS 0) (osCons (oV (tup (asCons (cst (.ty "tuple")) (asCons (cst (.ty "list")) asNil)))) osNil))))) (raiC "InvalidRow" ["index"] (osCons (oV (cst .non)) osNil)) skip)
    (seq (asg 1 (frz (callG 1 g_first_wrong (osCons (oV (var 0)) osNil))))
    (ifS (tst (bin PisNot (oS 1) (oV (cst .non)))) (raiC "InvalidRow" ["index"] (osCons (oV (var 1)) osNil)) skip)))
def g_need_rows : GF := runDef [0] 1 2 b_need_rows
def E1_are_needs : EF := (andV (callG 1 g_is_name (osCons (oV (var 2)) osNil)) (bin PinX (oS 2) (oS 0)))
def b_are_needs : SF := (seq (ifS (orB (notB (tst (prim Pisi (osCons (oS 1) (osCons (oV (cst (.ty "tuple"))) osNil))))) (notB (tst (prim Pall (osCons (oV (lc (itV (var 1)) (tgN 2) yesB E1_are_needs [2])) osNil))))) (ret (cst (.bl false))) skip)
    (ret (bin PeqX (oV (lenSet (var 1))) (oV (prim Plen (osCons (oS 1) osNil))))))
def g_are_needs : GF := runDef [0, 1] 2 3 b_are_needs
def L1_need_needs : SF := (ifS (orB (tst (bin PnotInX (oS 2) (oS 0))) (notB (tst (callG 2 g_are_needs (osCons (oV (var 0)) (osCons (oV (var 3)) osNil)))))) (raiC "InvalidNeeds" ["name"] (osCons (oV (var 2)) osNil)) skip)
def b_need_needs : SF := (seq (ifS (notB (tst (prim Pisi (osCons (oS 1) (osCons (oV (cst (.ty "dict"))) osNil))))) (raiC "InvalidNeeds" ["name"] (osCons (oV (cst .non)) osNil)) skip)
    (forS (itI (var 1)) (tgT (tgCons (tgN 2) (tgCons (tgN 3) tgNil))) L1_need_needs))
def g_need_needs : GF := runDef [0, 1] 2 4 b_need_needs
def E1_unfinished : EF := (var 3)
def F2_unfinished : BF := (tst (bin PeqX (oS 4) (oV (tup asNil))))
def F3_unfinished : BF := (tst (bin PnotInX (oS 3) (oS 2)))
def K4_unfinished : EF := (var 3)
def E5_unfinished : EF := (var 4)
def E6_unfinished : EF := (bin PinX (oS 5) (oS 1))
def E7_unfinished : EF := (var 3)
def F8_unfinished : BF := (notB (tst (prim Pany (osCons (oV (lc (itV (var 4)) (tgN 5) yesB E6_unfinished [5])) osNil))))
def L9_unfinished : SF := (seq (asg 1 (dc (itI (var 1)) (tgT (tgCons (tgN 3) (tgCons (tgN 4) tgNil))) F3_unfinished K4_unfinished E5_unfinished [3, 4]))
    (asg 2 (frz (lc (itI (var 1)) (tgT (tgCons (tgN 3) (tgCons (tgN 4) tgNil))) F8_unfinished E7_unfinished [3, 4]))))
def W10_unfinished : BF := (tst (bin PneX (oS 2) (oV (lst asNil))))
def b_unfinished : SF := (seq (asg 1 (prim Pdict (osCons (oS 0) osNil)))
    (seq (asg 2 (frz (lc (itI (var 1)) (tgT (tgCons (tgN 3) (tgCons (tgN 4) tgNil))) F2_unfinished E1_unfinished [3, 4])))
    (seq (whl W10_unfinished L9_unfinished 1000)
    (ret (mv 1)))))
def g_unfinished : GF := runDef [0] 1 6 b_unfinished
def E1_ring_in : EF := (var 4)
def F2_ring_in : BF := (tst (bin PinX (oS 4) (oS 1)))
def L3_ring_in : SF := (seq (asg 3 (bin Pix (oV (lc (itV (bin Pix (oS 1) (oV (bin Pix (oS 2) (oV (prim Pneg (osCons (oV (cst (.int 1))) osNil))))))) (tgN 4) F2_ring_in E1_ring_in [4])) (oV (cst (.int 0)))))
    (seq (ifS (tst (bin PinX (oS 3) (oS 2))) (ret (prim Ptuple (osCons (oV (slc (oS 2) (pInt (prim Pindex (osCons (oTy "list" (oS 2)) (osCons (oS 3) osNil)))) pNo)) osNil))) skip)
    (drop (mutE "list" 2 Mappend (asCons (var 3) asNil)))))
def W4_ring_in : BF := (tst (bin PneX (oS 2) (oV (lst asNil))))
def b_ring_in : SF := (seq (asg 1 (frz (callG 1 g_unfinished (osCons (oV (var 0)) osNil))))
    (seq (asg 2 (slc (oV (prim PlistX (osCons (oS 1) osNil))) pNo (pInt (cst (.int 1)))))
    (seq (whl W4_ring_in L3_ring_in 1000)
    (ret (cst .non)))))
def g_ring_in : GF := runDef [0] 1 5 b_ring_in
def b_C_Sheet_needs : SF := (ret (prim Pdict (osCons (oV (prim (Pfld ["Sheet"] "direct") (osCons (oS 0) osNil))) osNil)))
def g_C_Sheet_needs : GF := runDef [0] 1 1 b_C_Sheet_needs
def b_row_text : SF := (ret (ite (tst (bin PneX (oS 1) (oV (tup asNil)))) (prim Pjoin (osCons (oTy "str" (oV (cst (.str " ")))) (osCons (oV (lst (asCons (fstr [(prim Pfmt (osCons (oS 0) osNil)), (cst (.str ":"))]) (asStar (var 1) asNil)))) osNil))) (var 0)))
def g_row_text : GF := runDef [0, 1] 2 2 b_row_text
def b_C_Sheet_rows : SF := (ret (prim (Pfld ["Sheet"] "names") (osCons (oS 0) osNil)))
def g_C_Sheet_rows : GF := runDef [0] 1 1 b_C_Sheet_rows
def E1_sheet_text : EF := (callG 2 g_row_text (osCons (oV (var 2)) (osCons (oV (bin Pix (oS 1) (oS 2))) osNil)))
def b_sheet_text : SF := (seq (asg 1 (noX (callM [("Sheet", 1, g_C_Sheet_needs)] "needs" (oS 0) osNil)))
    (ret (prim Pjoin (osCons (oTy "str" (oV (cst (.str "\n")))) (osCons (oV (lc (itV (noX (callM [("Sheet", 1, g_C_Sheet_rows)] "rows" (oS 0) osNil))) (tgN 2) yesB E1_sheet_text [2])) osNil)))))
def g_sheet_text : GF := runDef [0] 1 3 b_sheet_text
def K1_C_Sheet_fill : EF := (var 5)
def E2_C_Sheet_fill : EF := (prim Ptuple (osCons (oV (prim PsortedX (osCons (oV (prim Pdget (osCons (oTy "dict" (oS 2)) (osCons (oS 5) (osCons (oV (tup asNil)) osNil))))) osNil))) osNil))
def K3_C_Sheet_fill : EF := (var 5)
def E4_C_Sheet_fill : EF := (var 6)
def b_C_Sheet_fill : SF := (seq (drop (callG 1 g_need_rows (osCons (oV (var 1)) osNil)))
    (seq (drop (callG 2 g_need_needs (osCons (oV (var 1)) (osCons (oV (var 2)) osNil))))
    (seq (asg 3 (dc (itV (var 1)) (tgN 5) yesB K1_C_Sheet_fill E2_C_Sheet_fill [5]))
    (seq (asg 4 (frz (callG 1 g_ring_in (osCons (oV (var 3)) osNil))))
    (seq (ifS (tst (bin PisNot (oS 4) (oV (cst .non)))) (raiC "HasRing" ["ring"] (osCons (oV (var 4)) osNil)) skip)
    (seq (setFld ["Sheet"] 0 "names" (prim Ptuple (osCons (oS 1) osNil)))
    (seq (setFld ["Sheet"] 0 "direct" (var 3))
    (seq (setFld ["Sheet"] 0 "order" (dc (itE (var 1)) (tgT (tgCons (tgN 6) (tgCons (tgN 5) tgNil))) yesB K3_C_Sheet_fill E4_C_Sheet_fill [6, 5]))
    (setFld ["Sheet"] 0 "shown" (callG 1 g_sheet_text (osCons (oS 0) osNil)))))))))))
def g_C_Sheet_fill : GF := runDef [0, 1, 2] 3 7 b_C_Sheet_fill
def b_C_Sheet___init__ : SF := (drop (callM [("Sheet", 3, g_C_Sheet_fill)] "fill" (oS 0) (osCons (oV (var 1)) (osCons (oV (var 2)) osNil))))
def g_C_Sheet___init__ : GF := runDefS true [0, 1, 2] 1 3 b_C_Sheet___init__
def b_C_Sheet_of : SF := (seq (asg 3 (mkD [("Sheet", 1, g_C_Sheet___init__)] 0 osNil))
    (seq (drop (callM [("Sheet", 3, g_C_Sheet_fill)] "fill" (oS 3) (osCons (oV (var 1)) (osCons (oV (var 2)) osNil))))
    (ret (mv 3))))
def g_C_Sheet_of : GF := runDef [0, 1, 2] 3 4 b_C_Sheet_of
def E1_closure : EF := (bin PinX (oS 5) (oS 2))
def K2_closure : EF := (var 6)
def E3_closure : EF := (cst (.bl true))
def L4_closure : SF := (ifS (andB (tst (bin PnotInX (oS 3) (oS 2))) (tst (prim Pall (osCons (oV (lc (itV (var 4)) (tgN 5) yesB E1_closure [5])) osNil)))) (setIx 2 (var 3) (dc2 (itV (var 4)) (tgN 5) yesB (itV (tup (asCons (var 5) (asStD (bin Pix (oS 2) (oS 5)) asNil)))) (tgN 6) yesB K2_closure E3_closure [5, 6] [6])) skip)
def L5_closure : SF := (forS (itI (var 1)) (tgT (tgCons (tgN 3) (tgCons (tgN 4) tgNil))) L4_closure)
def W6_closure : BF := (tst (bin Plt (oV (prim PlenX (osCons (oS 2) osNil))) (oV (prim PlenX (osCons (oS 1) osNil)))))
def b_closure : SF := (seq (asg 1 (noX (callM [("Sheet", 1, g_C_Sheet_needs)] "needs" (oS 0) osNil)))
    (seq (asg 2 (dNew false))
    (seq (whl W6_closure L5_closure 1000)
    (ret (mv 2)))))
def g_closure : GF := runDef [0] 1 7 b_closure
end PN
namespace PN
open PySem L2 M 
abbrev Nd := List (Str × List Str)
def en (m : Nd) : List (Str × Val) := m.map fun p => (p.1, .tup (p.2.map .str))
abbrev enc (m : Nd) : Val := .dct false (sd (en m))
def keys (m : Nd) : List Str := m.map (·.1)
def getN (m : Nd) (s : Str) : List Str := (m.lookup s).getD []
theorem en_keys (m : Nd) : (en m).map (·.1) = keys m := by simp [en, keys]
theorem en_get (m : Nd) (k : Str) : (en m).lookup k = (m.lookup k).map fun vs => .tup (vs.map .str) := by
  induction m with
  | nil => rfl
  | cons p m ih =>
    obtain ⟨a, b⟩ := p
    simp only [en, List.map_cons, List.lookup_cons] at ih ⊢
    cases h : k == a with
    | true => simp
    | false => simpa using ih
theorem pin_en (m : Nd) (s : Str) : PinX [.str s, enc m] = some (false, .bl (decide (s ∈ keys m))) := by rw [pin_sd, en_keys]
theorem pix_en (m : Nd) (s : Str) (h : s ∈ keys m) : Pix [enc m, .str s] = some (false, .tup ((getN m s).map .str)) := by
  obtain ⟨v, e⟩ := lookup_some h
  rw [pix_sd, en_get, getN, e]; rfl
theorem en_len (m : Nd) : (sd (en m)).length = m.length := by simp [sd, en]
abbrev prV (p : Str × List Str) : Val := .tup [.str p.1, .tup (p.2.map .str)]
theorem pairs_en (m : Nd) : List.map (fun p : Val × Val => Val.tup [p.1, p.2]) (sd (en m)) = m.map prV := by simp [sd, en]
theorem keys_en (m : Nd) : keysOfD (sd (en m)) = (keys m).map .str := by simp [keysOfD, sd, en, keys]
theorem lookup_nd {m : Nd} : ∀ {p : Str × List Str}, (keys m).Nodup → p ∈ m → m.lookup p.1 = some p.2 := by
  induction m with
  | nil => intro p _ h; cases h
  | cons a m ih =>
    intro p nd h
    obtain ⟨k, v⟩ := a
    simp only [keys, List.map_cons, List.nodup_cons] at nd
    rw [List.lookup_cons]
    rcases List.mem_cons.mp h with z | z
    · rw [z]; simp
    · have : (p.1 == k) = false := by
        rw [beq_eq_false_iff_ne]
        intro e
        exact nd.1 (e ▸ List.mem_map.mpr ⟨p, z, rfl⟩)
      rw [this]
      exact ih nd.2 z
theorem getN_mem {m : Nd} {p : Str × List Str} (nd : (keys m).Nodup) (h : p ∈ m) : getN m p.1 = p.2 := by rw [getN, lookup_nd nd h]; rfl
theorem getN_key {m : Nd} {s : Str} (h : s ∈ keys m) : (s, getN m s) ∈ m := by
  obtain ⟨v, e⟩ := lookup_some h
  have := lookup_mem e
  rwa [getN, e]
theorem getN_nil {m : Nd} {s : Str} (h : s ∉ keys m) : getN m s = [] := by rw [getN, lookup_none h]; rfl
theorem keys_mem {m : Nd} {p : Str × List Str} (h : p ∈ m) : p.1 ∈ keys m := List.mem_map.mpr ⟨p, h, rfl⟩
theorem map_str1 {β : Type} (l : List (Str × β)) : (l.map fun p => Val.str p.1) = (l.map (·.1)).map .str := by simp
theorem pne_nilX (ss : List Str) (h : ∀ s ∈ ss, CpOk s) : PneX [.lst (ss.map .str), .lst []] = some (false, .bl (!decide (ss = []))) := by
  have h1 := shp_strs ss h
  have h2 := shp_strs [] (by simp)
  simp only [List.map_nil] at h2
  cases ss with
  | nil => simp [PneX, orP, PneS, Pne, toD, toDs, h2, PyData.eqv, PyData.eqvAll]
  | cons c cs =>
    simp only [List.map_cons] at h1
    simp [PneX, orP, PneS, Pne, toD, toDs, toDs_strs, h1, h2, PyData.eqv, PyData.eqvAll]
/-- needs without what is missing -/
structure Wf (m : Nd) : Prop where
  nd : (keys m).Nodup
  nm : ∀ s ∈ keys m, IsName s
  vl : ∀ p ∈ m, ∀ y ∈ p.2, y ∈ keys m
  len : m.length ≤ 60
  ll : ∀ p ∈ m, p.2.length ≤ 60
def Acyc (m : Nd) : Prop := ∃ rk : Str → Nat, ∀ p ∈ m, ∀ y ∈ p.2, rk y < rk p.1
def outs (left : Nd) : Nd := left.filter fun p => !(p.2.any fun y => decide (y ∈ keys left))
def stay (left : Nd) : Nd := left.filter fun p => p.2.any fun y => decide (y ∈ keys left)
structure UnI (m left : Nd) (N : Nat) : Prop where
  sub : left.Sublist m
  rk : ∃ rk : Str → Nat, (∀ s, rk s ≤ N) ∧ ∀ p ∈ m, p.1 ∉ keys left → ∀ y ∈ p.2, y ∉ keys left ∧ rk y < rk p.1
theorem outs_key {m left : Nd} (nd : (keys m).Nodup) (hs : left.Sublist m) {p : Str × List Str} (h : p ∈ left) : p.1 ∈ keys (outs left) ↔ ¬ ∃ y ∈ p.2, y ∈ keys left := by
  have ndl : (keys left).Nodup := List.Nodup.sublist (hs.map _) nd
  unfold outs
  constructor
  · intro hk
    obtain ⟨q, hq, e⟩ := List.mem_map.mp hk
    rw [List.mem_filter] at hq
    have e1 := getN_mem ndl hq.1
    have e2 := getN_mem ndl h
    have e : q.1 = p.1 := e
    rw [e, e2] at e1
    have := hq.2
    rw [← e1] at this
    simpa using this
  · intro hn
    refine List.mem_map.mpr ⟨p, List.mem_filter.mpr ⟨h, by simpa using hn⟩, rfl⟩
theorem stay_eq {m left : Nd} (nd : (keys m).Nodup) (hs : left.Sublist m) : (left.filter fun p => !decide (p.1 ∈ keys (outs left))) = stay left := by
  unfold stay
  refine List.filter_congr fun p hp => ?_
  have := outs_key nd hs hp
  rw [Bool.eq_iff_iff]
  simp only [Bool.not_eq_true', decide_eq_false_iff_not, this, List.any_eq_true, decide_eq_true_eq, Classical.not_not]
theorem UnI.step {m left : Nd} {N : Nat} (hm : Wf m) (h : UnI m left N) : UnI m (stay left) (N + 1) := by
  have hs : (stay left).Sublist left := List.filter_sublist
  refine ⟨hs.trans h.sub, ?_⟩
  obtain ⟨rk, r1, r2⟩ := h.rk
  have ksub : ∀ y, y ∈ keys (stay left) → y ∈ keys left := fun y hy => (hs.map _).subset hy
  refine ⟨fun s => if s ∈ keys (outs left) then N + 1 else rk s, fun s => by have := r1 s; dsimp only; split <;> omega, fun p hp hk y hy => ?_⟩
  have osub : ∀ y, y ∈ keys (outs left) → y ∈ keys left := fun y hy => ((List.filter_sublist (l := left)).map _).subset hy
  by_cases hl : p.1 ∈ keys left
  · have hpl : p ∈ left := by
      have h1 := getN_key hl
      have h2 := getN_mem hm.nd (h.sub.subset h1)
      have h3 := getN_mem hm.nd hp
      simp only at h2
      rw [h3] at h2
      rwa [← h2] at h1
    have ho : p.1 ∈ keys (outs left) := by
      refine Classical.byContradiction fun hn => hk ?_
      rw [outs_key hm.nd h.sub hpl, Classical.not_not] at hn
      refine keys_mem (List.mem_filter.mpr ⟨hpl, ?_⟩)
      simpa using hn
    have hy2 : y ∉ keys left := fun z => (outs_key hm.nd h.sub hpl).mp ho ⟨y, hy, z⟩
    refine ⟨fun z => hy2 (ksub y z), ?_⟩
    dsimp only
    rw [if_pos ho, if_neg fun z => hy2 (osub y z)]
    have := r1 y
    omega
  · have := r2 p hp hl y hy
    refine ⟨fun z => this.1 (ksub y z), ?_⟩
    dsimp only
    rw [if_neg fun z => hl (osub _ z), if_neg fun z => this.1 (osub _ z)]
    exact this.2
theorem stay_lt {left : Nd} (h : outs left ≠ []) : (stay left).length < left.length := by
  have : ∀ (f : Str × List Str → Bool) (l : Nd), (l.filter f).length + (l.filter fun p => !f p).length = l.length := by
    intro f l
    induction l with
    | nil => rfl
    | cons a l ih => cases hf : f a <;> simp [hf] <;> omega
  have h1 := this (fun p => p.2.any fun y => decide (y ∈ keys left)) left
  have h2 : 0 < (outs left).length := List.length_pos_iff.mpr h
  unfold outs at h2
  unfold stay
  omega
theorem unfinished_wp {m : Nd} {K : GR → Prop} (hm : Wf m) (q : ∀ left : Nd, left.Sublist m → (∀ p ∈ left, ∃ y ∈ p.2, y ∈ keys left) → (left = [] → Acyc m) → K (.ok false (enc left) none)) : wG g_unfinished [(false, enc m)] K := by
  unfold g_unfinished
  rw [wG_run (by rfl) (by simp [ownIx])]
  unfold b_unfinished
  have cpk : ∀ s ∈ keys m, CpOk s := fun s hs => (hm.nm s hs).cp
  simp? only [Pdict, pairs_en]
  have hl := hm.len
  refine wC_map prV (fun p => .str p.1) (fun p => decide (p.2 = [])) m (fun p hp => ⟨_, rfl, ?_, rfl, fun _ => ?_⟩) (by omega) ?_
  · simp? only [F2_unfinished, peq_tnil p.2 (fun s hs => cpk s (hm.vl p hp s hs))]
  · simp? only [E1_unfinished]
    exact ⟨_, _, rfl, rfl⟩
  simp? only []
  have e0 : (m.filter fun p => decide (p.2 = [])) = outs m := by
    unfold outs
    refine List.filter_congr fun p hp => ?_
    rw [Bool.eq_iff_iff]
    simp only [decide_eq_true_eq, Bool.not_eq_true', List.any_eq_false]
    constructor
    · intro e y hy; rw [e] at hy; cases hy
    · intro h
      cases hp2 : p.2 with
      | nil => rfl
      | cons y ys => exact absurd (hm.vl p hp y (by rw [hp2]; simp)) (by simpa using h y (by rw [hp2]; simp))
  rw [map_str1, e0]
  obtain ⟨I, hI⟩ : ∃ I : Nat → M.Env → Prop, I = fun k r => ∃ (left : Nd) (N : Nat), k = left.length ∧ UnI m left N ∧ r = [some (false, enc m), some (false, enc left), some (false, .lst ((keys (outs left)).map .str)), none, none, none] := ⟨_, rfl⟩
  refine wW_inv I ?_ _ m.length _ (by omega) (by rw [hI]; exact ⟨m, 0, rfl, ⟨.refl _, fun _ => 0, by simp, fun p hp hk => absurd (keys_mem hp) hk⟩, rfl⟩)
  intro k r h
  rw [hI] at h
  obtain ⟨left, N, rfl, hU, rfl⟩ := h
  have ck : ∀ s ∈ keys left, CpOk s := fun s hs => cpk s ((hU.sub.map _).subset hs)
  have co : ∀ s ∈ keys (outs left), CpOk s := fun s hs => ck s (((List.filter_sublist (l := left)).map _).subset hs)
  have hll := hU.sub.length_le
  simp? only [W10_unfinished, pne_nilX _ co]
  by_cases he : keys (outs left) = []
  · simp? only [he, decide_true, kTurnW_e2]
    have he' : outs left = [] := by simpa [keys] using he
    refine q left hU.sub (fun p hp => ?_) (fun hn => ?_)
    · refine Classical.byContradiction fun hc => ?_
      have : p ∈ outs left := List.mem_filter.mpr ⟨hp, by simpa using hc⟩
      rw [he'] at this; cases this
    · subst hn
      obtain ⟨rk, _, r2⟩ := hU.rk
      exact ⟨rk, fun p hp y hy => (r2 p hp (by simp [keys]) y hy).2⟩
  · have he' : outs left ≠ [] := by simpa [keys] using he
    simp? only [he, decide_false, kTurnW_e1, L9_unfinished, pairs_en]
    refine wDC_map prV (fun p => p.1) (fun p => .tup (p.2.map .str)) (fun p => !decide (p.1 ∈ keys (outs left))) left (fun p hp => ⟨_, rfl, ?_, rfl, fun _ => ?_⟩) (by omega) ?_ ?_
    · simp? only [F3_unfinished, pnotin_lst p.1 _ (ck _ (keys_mem hp)) co]
    · simp? only [K4_unfinished, E5_unfinished]
      exact ⟨_, rfl, _, _, rfl, rfl⟩
    · exact List.Nodup.sublist (List.filter_sublist.map _) (List.Nodup.sublist (hU.sub.map _) hm.nd)
    rw [stay_eq hm.nd hU.sub]
    have e1 : sd ((stay left).map fun p => (p.1, Val.tup (p.2.map .str))) = sd (en (stay left)) := rfl
    have hU2 := hU.step hm
    have ck2 : ∀ s ∈ keys (stay left), CpOk s := fun s hs => cpk s ((hU2.sub.map _).subset hs)
    have hll2 := hU2.sub.length_le
    rw [e1]
    simp? only [pairs_en]
    refine wC_map prV (fun p => .str p.1) (fun p => !(p.2.any fun y => decide (y ∈ keys (stay left)))) (stay left) (fun p hp => ⟨_, rfl, ?_, rfl, fun _ => ?_⟩) (by omega) ?_
    · simp? only [F8_unfinished]
      have hp2 : p.2.length ≤ 60 := hm.ll p (hU2.sub.subset hp)
      refine wC_map Val.str (fun y => .bl (decide (y ∈ keys (stay left)))) (fun _ => true) p.2 (fun y hy => ⟨_, rfl, rfl, rfl, fun _ => ?_⟩) (by omega) ?_
      · simp? only [E6_unfinished, pin_en]
        exact ⟨_, _, rfl, rfl⟩
      rw [filter_yes]
      simp? only [pany_map]
    · simp? only [E7_unfinished]
      exact ⟨_, _, rfl, rfl⟩
    simp? only []
    rw [map_str1]
    rw [hI]
    exact ⟨_, stay_lt he', stay left, N + 1, rfl, hU2, rfl⟩
end PN
namespace PN
open PySem L2 M 
theorem nodup_len {α : Type} [DecidableEq α] : ∀ {l r : List α}, l.Nodup → (∀ x ∈ l, x ∈ r) → l.length ≤ r.length
  | [], _, _, _ => by simp
  | x :: l, r, nd, h => by
    rw [List.nodup_cons] at nd
    have h1 : x ∈ r := h x (by simp)
    have := nodup_len (l := l) (r := r.erase x) nd.2 fun y hy => (List.mem_erase_of_ne fun e => nd.1 (by rw [← e]; exact hy)).mpr (h y (by simp [hy]))
    rw [List.length_erase_of_mem h1] at this
    have h2 : 0 < r.length := List.length_pos_of_mem h1
    rw [List.length_cons]
    omega
structure Ring (m : Nd) (ss : List Str) : Prop where
  ne : ss ≠ []
  ks : ∀ s ∈ ss, s ∈ keys m
  nd : ss.Nodup
  nx : ∀ k, k < ss.length → ss.getD ((k + 1) % ss.length) default ∈ getN m (ss.getD k default)
theorem Ring.no {m : Nd} {ss : List Str} (h : Ring m ss) : ¬ Acyc m := by
  rintro ⟨rk, hr⟩
  have hl : 0 < ss.length := List.length_pos_iff.mpr h.ne
  have key : ∀ N k, k < ss.length → rk (ss.getD k default) = N → False := by
    intro N
    induction N using Nat.strongRecOn with
    | ind N ih =>
      intro k hk e
      have hm : (k + 1) % ss.length < ss.length := Nat.mod_lt _ hl
      have hk2 : ss.getD k default ∈ keys m := h.ks _ (by simp [List.getD_eq_getElem?_getD, hk])
      have := hr _ (getN_key hk2) _ (h.nx k hk)
      dsimp only at this
      exact ih _ (by omega) _ hm rfl
  exact key _ 0 hl rfl
theorem plistX_en (m : Nd) : PlistX [enc m] = some (true, .lst ((keys m).map .str)) := by
  have h1 : Plist [enc m] = none := rfl
  have h2 : PlistD [enc m] = some (true, .lst ((keys m).map .str)) := by simp only [PlistD, keys_en]
  simp only [PlistX, orP, h1, h2]
theorem ring_in_wp {m : Nd} {K : GR → Prop} (hm : Wf m) (q1 : Acyc m → K (.ok false .non none)) (q2 : ∀ ss, Ring m ss → K (.ok false (.tup (ss.map .str)) none)) : wG g_ring_in [(false, enc m)] K := by
  unfold g_ring_in
  rw [wG_run (by rfl) (by simp [ownIx])]
  unfold b_ring_in
  simp? only []
  refine unfinished_wp hm fun left hs hst hac => ?_
  simp? only [plistX_en, Psl]
  have c1 : cutA ((keys left).map Val.str) none (some 1) = ((keys left).take 1).map .str := by rw [show (1 : Int) = ((1 : Nat) : Int) from rfl, cut_to, List.map_take]
  rw [c1]
  by_cases he : left = []
  · subst he
    have := hac rfl
    have hz := pne_nilX [] (by simp)
    simp only [List.map_nil, decide_true, Bool.not_true] at hz
    simp only [keys, List.map_nil, List.take_nil]
    rw [wS_whl]
    simp? only [W4_ring_in, hz, kW]
    exact q1 this
  have ndl : (keys left).Nodup := List.Nodup.sublist (hs.map _) hm.nd
  have ksub : ∀ s, s ∈ keys left → s ∈ keys m := fun s h => (hs.map _).subset h
  have cpl : ∀ s, s ∈ keys left → CpOk s := fun s h => (hm.nm s (ksub s h)).cp
  have gl : ∀ s, s ∈ keys left → getN left s = getN m s := fun s h => (getN_mem hm.nd (hs.subset (getN_key h))).symm
  have hlen : (keys left).length ≤ 60 := by have := hs.length_le; have := hm.len; simp [keys]; omega
  obtain ⟨I, hI⟩ : ∃ I : Nat → M.Env → Prop, I = fun k r => ∃ (walk : List Str) (b3 : M.Slot), k = 61 - walk.length ∧ walk ≠ [] ∧ walk.Nodup ∧ (∀ s ∈ walk, s ∈ keys left) ∧ (∀ i, i + 1 < walk.length → walk.getD (i + 1) default ∈ getN m (walk.getD i default)) ∧
      r = [some (false, enc m), some (false, enc left), some (true, .lst (walk.map .str)), b3, none] := ⟨_, rfl⟩
  have h0 : (keys left).take 1 ≠ [] := by
    cases left with
    | nil => exact absurd rfl he
    | cons a l => simp [keys]
  have h0l : ((keys left).take 1).length ≤ 1 := by simp; omega
  refine wW_inv I ?_ _ (61 - ((keys left).take 1).length) _ (by omega) ?_
  · intro k r h
    rw [hI] at h
    obtain ⟨walk, b3, rfl, hne, hnd, hin, hnx, rfl⟩ := h
    have hwl : 0 < walk.length := List.length_pos_iff.mpr hne
    have hwk : walk.length ≤ 60 := by
      have := nodup_len hnd hin
      omega
    have cw : ∀ s ∈ walk, CpOk s := fun s h => cpl s (hin s h)
    have hlast := pix_last (xs := walk.map Val.str) (by simpa using hwl)
    simp only [List.length_map, List.getElem_map] at hlast
    have hw1 : walk[walk.length - 1] ∈ keys left := hin _ (List.getElem_mem _)
    have hng : Pneg [.int 1] = some (false, .int (-1)) := rfl
    simp? only [W4_ring_in, pne_nilX _ cw, hne, decide_false, kTurnW_e1, L3_ring_in, hng, hlast, pix_en left _ hw1]
    have hgl : (getN left walk[walk.length - 1]).length ≤ 60 := hm.ll _ (hs.subset (getN_key hw1))
    refine wC_map Val.str (fun y => .str y) (fun y => decide (y ∈ keys left)) (getN left walk[walk.length - 1]) (fun y hy => ⟨_, rfl, ?_, rfl, fun _ => ?_⟩) (by omega) ?_
    · simp? only [F2_ring_in, pin_en]
    · simp? only [E1_ring_in]
      exact ⟨_, _, rfl, rfl⟩
    obtain ⟨y0, hy0, hy1⟩ := hst _ (getN_key hw1)
    simp only at hy0
    cases hf : (getN left walk[walk.length - 1]).filter fun y => decide (y ∈ keys left) with
    | nil =>
      have : y0 ∈ (getN left walk[walk.length - 1]).filter fun y => decide (y ∈ keys left) := List.mem_filter.mpr ⟨hy0, by simpa using hy1⟩
      rw [hf] at this; cases this
    | cons f fs =>
      have hfm : f ∈ (getN left walk[walk.length - 1]).filter fun y => decide (y ∈ keys left) := by rw [hf]; simp
      obtain ⟨hf1, hf2⟩ := List.mem_filter.mp hfm
      have hf2 : f ∈ keys left := by simpa using hf2
      rw [gl _ hw1] at hf1
      have hp0 : Pix [.lst ((f :: fs).map fun y => Val.str y), .int 0] = some (false, .str f) := by
        rw [pix_lst (by decide) (by simp)]; rfl
      simp? only [] at hp0
      simp? only [hp0, pin_lst f walk (cpl f hf2) cw]
      by_cases hfw : f ∈ walk
      · obtain ⟨j, hj, hj1, hj2, hj3⟩ := pindex_strs hfw (cpl f hf2) cw
        have hji : walk[j] = f := by rw [List.getElem?_eq_getElem hj] at hj1; exact Option.some.inj hj1
        simp? only [hfw, decide_true, hj3, Psl, cut_from]
        rw [← List.map_drop]
        refine q2 (walk.drop j) ⟨?_, ?_, ?_, ?_⟩
        · intro z
          have := congrArg List.length z
          simp at this; omega
        · exact fun s h => ksub _ (hin s (List.mem_of_mem_drop h))
        · exact hnd.sublist (List.drop_sublist _ _)
        · intro k hk
          rw [List.length_drop] at hk
          have e1 : ∀ i, (walk.drop j).getD i default = walk.getD (j + i) default := fun i => by simp [List.getD_eq_getElem?_getD, List.getElem?_drop]
          rw [List.length_drop, e1, e1]
          by_cases hk2 : k + 1 < walk.length - j
          · rw [Nat.mod_eq_of_lt hk2]
            exact hnx (j + k) (by omega)
          · have : k + 1 = walk.length - j := by omega
            rw [this, Nat.mod_self]
            have e2 : j + k = walk.length - 1 := by omega
            rw [e2, Nat.add_zero]
            simp only [List.getD_eq_getElem?_getD, List.getElem?_eq_getElem hj, List.getElem?_eq_getElem (show walk.length - 1 < walk.length by omega), Option.getD_some, hji]
            exact hf1
      · have hma := mapp (ds := walk.map Val.str) (v := .str f) (by simp; omega)
        simp? only [hfw, decide_false, hma]
        rw [hI]
        refine ⟨61 - (walk ++ [f]).length, by simp; omega, walk ++ [f], _, rfl, by simp, ?_, ?_, ?_, by rw [List.map_append]; rfl⟩
        · rw [List.nodup_append]
          exact ⟨hnd, by simp, fun a ha b hb e => hfw (by rw [List.mem_singleton.mp hb] at e; rw [← e]; exact ha)⟩
        · intro s h
          rcases List.mem_append.mp h with z | z
          · exact hin s z
          · rw [List.mem_singleton.mp z]; exact hf2
        · intro i hi
          rw [List.length_append, List.length_singleton] at hi
          by_cases hi2 : i + 1 < walk.length
          · have := hnx i hi2
            simp only [List.getD_eq_getElem?_getD] at this ⊢
            rw [List.getElem?_append_left hi2, List.getElem?_append_left (by omega)]
            exact this
          · have e2 : i = walk.length - 1 := by omega
            subst e2
            simp only [List.getD_eq_getElem?_getD]
            have e4 : (walk ++ [f])[walk.length - 1 + 1]? = some f := by
              rw [List.getElem?_append_right (by omega), show walk.length - 1 + 1 - walk.length = 0 by omega]; rfl
            have e5 : (walk ++ [f])[walk.length - 1]? = walk[walk.length - 1]? := List.getElem?_append_left (by omega)
            rw [e4, e5, List.getElem?_eq_getElem (show walk.length - 1 < walk.length by omega)]
            exact hf1
  · rw [hI]
    refine ⟨(keys left).take 1, none, rfl, h0, ndl.sublist (List.take_sublist _ _), fun s h => List.mem_of_mem_take h, ?_, rfl⟩
    · intro i hi
      have := Nat.lt_of_lt_of_le hi h0l
      omega
end PN
namespace PN
open PySem L2 M 
def nameB (s : Str) : Bool := decide (1 ≤ s.length ∧ s.length ≤ 8) && s.cps.toList.all fun c => decide (97 ≤ c ∧ c ≤ 122)
def isNm : Val → Bool
  | .str s => nameB s
  | _ => false
theorem nameB_iff {s : Str} : nameB s = true ↔ IsName s := by
  unfold nameB
  simp only [Bool.and_eq_true, decide_eq_true_eq, List.all_eq_true]
  constructor
  · rintro ⟨h1, h2⟩
    rw [← len_list] at h1
    exact ⟨s.cps.toList, (mk_eta s).symm, h1.1, h1.2, h2⟩
  · rintro ⟨l, rfl, h1, h2, h3⟩
    rw [mk_len, mk_list]
    exact ⟨⟨h1, h2⟩, h3⟩
theorem nameB_of {s : Str} (h : IsName s) : nameB s = true := nameB_iff.mpr h
theorem pin_letter (c : Nat) : PinX [.str (one c), .str "abcdefghijklmnopqrstuvwxyz"] = some (false, .bl (decide (97 ≤ c ∧ c ≤ 122))) := by
  have h : ("abcdefghijklmnopqrstuvwxyz" : Str).cps.toList = List.range' 97 26 := by decide +kernel
  have h2 : Pin [.str (one c), .str "abcdefghijklmnopqrstuvwxyz"] = some (false, .bl (decide (97 ≤ c ∧ c ≤ 122))) := by
    simp only [Pin, inOf, one, h]
    simp only [List.mem_range'_1]
    have h3 : decide (97 ≤ c ∧ c < 97 + 26) = decide (97 ≤ c ∧ c ≤ 122) := decide_eq_decide.mpr (by omega)
    rw [h3]
  simp only [PinX, orP, PinD, h2]
theorem is_name_wp {v : Val} {K : GR → Prop} (hv : (tyOf v).isSome = true) (q : K (.ok false (.bl (isNm v)) none)) : wG g_is_name [(false, v)] K := by
  unfold g_is_name
  rw [wG_run (by rfl) (by simp [ownIx])]
  unfold b_is_name
  by_cases hs : ∃ s, v = .str s
  · obtain ⟨s, rfl⟩ := hs
    simp? only [isi_ss, M.cmpI]
    by_cases h1 : 1 ≤ s.length
    · have a1 : (1 : Int) ≤ (s.length : Int) := by omega
      simp? only [a1, decide_true]
      by_cases h2 : s.length ≤ 8
      · have a2 : (s.length : Int) ≤ 8 := by omega
        simp? only [a2, decide_true, signs_one]
        have hl := len_list s
        refine wC_map (fun c => .str (one c)) (fun c => .bl (decide (97 ≤ c ∧ c ≤ 122))) (fun _ => true) s.cps.toList (fun c hc => ⟨_, rfl, rfl, rfl, fun _ => ?_⟩) (by omega) ?_
        · simp? only [E1_is_name, pin_letter]
          exact ⟨_, _, rfl, rfl⟩
        rw [filter_yes]
        simp? only [pall_map]
        have : isNm (.str s) = s.cps.toList.all fun c => decide (97 ≤ c ∧ c ≤ 122) := by
          simp only [isNm, nameB]; rw [decide_eq_true ⟨h1, h2⟩, Bool.true_and]
        rw [this] at q
        exact q
      · have a2 : ¬ (s.length : Int) ≤ 8 := by omega
        simp? only [a2, decide_false]
        have : isNm (.str s) = false := by simp only [isNm, nameB]; rw [decide_eq_false (by omega), Bool.false_and]
        rw [this] at q
        exact q
    · have a1 : ¬ (1 : Int) ≤ (s.length : Int) := by omega
      simp? only [a1, decide_false]
      have : isNm (.str s) = false := by simp only [isNm, nameB]; rw [decide_eq_false (by omega), Bool.false_and]
      rw [this] at q
      exact q
  · have hs' : ∀ s, v ≠ .str s := fun s z => hs ⟨s, z⟩
    have hi : Pisi [v, .ty "str"] = some (false, .bl false) := by
      rw [pisi_ok hv (by simp)]
      cases v with
      | str s => exact absurd rfl (hs' s)
      | _ => first | rfl | simp [tyOf] at hv
    simp? only [hi]
    have : isNm v = false := by
      cases v with
      | str s => exact absurd rfl (hs' s)
      | _ => rfl
    rw [this] at q
    exact q
theorem enum_get {xs : List Val} {k : Nat} (h : k < (enumV xs).length) : (enumV xs)[k] = .tup [.int (k : Nat), xs[k]'(by simpa [enumV] using h)] := by simp [enumV]
/-- a row of rows, as a tuple or a list -/
def IsRows (R : Val) (rows : List Str) : Prop := R = .tup (rows.map .str) ∨ R = .lst (rows.map .str)
structure Rows (rows : List Str) : Prop where
  nd : rows.Nodup
  nm : ∀ s ∈ rows, IsName s
  len : rows.length ≤ 60
theorem IsRows.in_ {R : Val} {rows : List Str} (h : IsRows R rows) (hc : ∀ s ∈ rows, CpOk s) {x : Str} (hx : CpOk x) : PinX [.str x, R] = some (false, .bl (decide (x ∈ rows))) := by
  rcases h with rfl | rfl
  · exact pin_tup x rows
  · exact pin_lst x rows hx hc
theorem IsRows.notIn {R : Val} {rows : List Str} (h : IsRows R rows) (hc : ∀ s ∈ rows, CpOk s) {x : Str} (hx : CpOk x) : PnotInX [.str x, R] = some (false, .bl (!decide (x ∈ rows))) := by
  rcases h with rfl | rfl
  · exact pnotin_tup x rows
  · exact pnotin_lst x rows hx hc
theorem IsRows.items {R : Val} {rows : List Str} (h : IsRows R rows) : itemsOf R = some (rows.map .str) := by rcases h with rfl | rfl <;> rfl
theorem IsRows.tuple {R : Val} {rows : List Str} (h : IsRows R rows) : Ptuple [R] = some (false, .tup (rows.map .str)) := by rcases h with rfl | rfl <;> rfl
theorem first_wrong_wp {R : Val} {rows : List Str} {K : GR → Prop} (hR : IsRows R rows) (h : Rows rows) (q : K (.ok false .non none)) : wG g_first_wrong [(false, R)] K := by
  have cp : ∀ s ∈ rows, CpOk s := fun s hs => (h.nm s hs).cp
  unfold g_first_wrong
  rw [wG_run (by rfl) (by simp [ownIx])]
  unfold b_first_wrong
  have main : ∀ r0, (r0 = some (false, R)) → wL (tgT (tgCons (M.tgN 1) (tgCons (M.tgN 2) tgNil))) L1_first_wrong (enumV (rows.map .str)) [r0, none, none] (kseq (M.ret (cst .non)) (kdef [(false, R)] K)) := by
    rintro r0 rfl
    obtain ⟨I, hI⟩ : ∃ I : List Val → M.Env → Prop, I = fun vs r => ∃ (k : Nat) (b1 b2 : M.Slot), vs = (enumV (rows.map .str)).drop k ∧ k ≤ (enumV (rows.map .str)).length ∧ r = [some (false, R), b1, b2] := ⟨_, rfl⟩
    refine wL_inv I ?_ ?_ _ _ (by rw [hI]; exact ⟨0, none, none, rfl, by omega, rfl⟩)
    · intro v vs r hh
      rw [hI] at hh
      obtain ⟨k, b1, b2, e, hk, rfl⟩ := hh
      obtain ⟨hk2, rfl, rfl⟩ := drop_step e
      rw [enum_get hk2, List.getElem_map]
      have hk3 : k < rows.length := by simpa [enumV] using hk2
      have hlen := h.len
      have h60 : ¬ ((k : Int) = 60) := by omega
      simp? only [M.kT_e1, L1_first_wrong, peqI, h60, decide_false]
      refine is_name_wp rfl ?_
      have hn := nameB_of (h.nm _ (List.getElem_mem hk3))
      simp? only [isNm, hn]
      have hnot : rows[k] ∉ rows.take k := by
        intro z
        obtain ⟨i, hi, ei⟩ := List.mem_take_iff_getElem.mp z
        have := (List.getElem_inj h.nd).mp ei
        omega
      rcases hR with rfl | rfl
      · simp? only [Psl, cut_to]
        rw [← List.map_take]
        simp? only [pin_tup, hnot, decide_false]
        rw [hI]
        exact ⟨k + 1, _, _, rfl, hk2, rfl⟩
      · simp? only [Psl, cut_to]
        rw [← List.map_take]
        simp? only [pin_lst _ _ (cp _ (List.getElem_mem hk3)) (fun s hs => cp s (List.mem_of_mem_take hs)), hnot, decide_false]
        rw [hI]
        exact ⟨k + 1, _, _, rfl, hk2, rfl⟩
    · intro r hh
      rw [hI] at hh
      obtain ⟨k, b1, b2, e, hk, rfl⟩ := hh
      simp? only []
      exact q
  rcases hR with rfl | rfl
  · simp? only []
    exact main _ rfl
  · simp? only []
    exact main _ rfl
theorem isis_tl {R : Val} {rows : List Str} (h : IsRows R rows) : Pisis [R, .tup [.ty "tuple", .ty "list"]] = some (false, .bl true) := by
  have k1 := kit_tab "tuple" (by simp) "tuple" (by simp)
  have k2 := kit_tab "list" (by simp) "tuple" (by simp)
  have k3 := kit_tab "list" (by simp) "list" (by simp)
  simp at k1 k2 k3
  rcases h with rfl | rfl
  · simp [Pisis, tyOf, kitA, k1]
  · simp [Pisis, tyOf, kitA, k2, k3]
theorem need_rows_wp {R : Val} {rows : List Str} {K : GR → Prop} (hR : IsRows R rows) (h : Rows rows) (q : K (.ok false .non none)) : wG g_need_rows [(false, R)] K := by
  unfold g_need_rows
  rw [wG_run (by rfl) (by simp [ownIx])]
  unfold b_need_rows
  simp? only [isis_tl hR]
  refine first_wrong_wp hR h ?_
  simp? only [PisNot]
  exact q
def areB (rows : List Str) : Val → Bool
  | .tup xs => match asStrs xs with
    | some ss => (ss.all fun s => nameB s && decide (s ∈ rows)) && decide ss.Nodup
    | none => false
  | _ => false
theorem nm_all {rows : List Str} {xs : List Val} (h : (xs.all fun x => isNm x && decide (unstr x ∈ rows)) = true) : ∃ ss : List Str, xs = ss.map .str ∧ ∀ s ∈ ss, IsName s ∧ s ∈ rows := by
  induction xs with
  | nil => exact ⟨[], rfl, by simp⟩
  | cons x xs ih =>
    simp only [List.all_cons, Bool.and_eq_true] at h
    obtain ⟨ss, rfl, h2⟩ := ih (by simpa using h.2)
    cases x with
    | str s =>
      refine ⟨s :: ss, rfl, fun y hy => (List.mem_cons.mp hy).elim (fun z => ?_) (h2 y)⟩
      rw [z]
      exact ⟨nameB_iff.mp h.1.1, of_decide_eq_true h.1.2⟩
    | _ => exact absurd h.1.1 (by simp [isNm])
theorem are_needs_wp {R v : Val} {rows : List Str} {K : GR → Prop} (hR : IsRows R rows) (hc : ∀ s ∈ rows, CpOk s) (hv : (tyOf v).isSome = true) (hx : ∀ xs, v = .tup xs → xs.length ≤ 1000 ∧ ∀ x ∈ xs, (tyOf x).isSome = true) (q : K (.ok false (.bl (areB rows v)) none)) : wG g_are_needs [(false, R), (false, v)] K := by
  unfold g_are_needs
  rw [wG_run (by rfl) (by simp [ownIx])]
  unfold b_are_needs
  by_cases ht : ∃ xs, v = .tup xs
  · obtain ⟨xs, rfl⟩ := ht
    obtain ⟨hl, hty⟩ := hx xs rfl
    simp? only [isi_tt]
    refine wC_mapV (fun x => .bl (isNm x && decide (unstr x ∈ rows))) (fun _ => true) xs (fun x hx => ⟨_, rfl, rfl, rfl, fun _ => ?_⟩) (by omega) ?_
    · simp? only [E1_are_needs]
      refine is_name_wp (hty x hx) ?_
      cases hn : isNm x with
      | false =>
        simp? only []
        exact ⟨_, _, rfl, rfl⟩
      | true =>
        cases x with
        | str s =>
          simp? only [hR.in_ hc (nameB_iff.mp (show nameB s = true from hn)).cp]
          exact ⟨_, _, rfl, rfl⟩
        | _ => simp [isNm] at hn
    rw [filter_yes]
    simp? only [pall_map]
    by_cases ha : (xs.all fun x => isNm x && decide (unstr x ∈ rows)) = true
    · obtain ⟨ss, rfl, hss⟩ := nm_all ha
      have hl1000 : ss.length ≤ 1000 := by simpa using hl
      simp? only [ha, asStrs_map, List.length_map, hl1000, peqI, set_eq]
      have : areB rows (.tup (ss.map .str)) = decide ss.Nodup := by
        simp only [areB, asStrs_map]
        rw [show (ss.all fun s => nameB s && decide (s ∈ rows)) = true from List.all_eq_true.mpr fun s hs => by rw [nameB_of (hss s hs).1, decide_eq_true (hss s hs).2]; rfl, Bool.true_and]
      rw [this] at q
      exact q
    · have ha' : (xs.all fun x => isNm x && decide (unstr x ∈ rows)) = false := by simpa using ha
      simp? only [ha']
      have : areB rows (.tup xs) = false := by
        simp only [areB]
        cases h : asStrs xs with
        | none => rfl
        | some ss =>
          have := asStrs_some h
          subst this
          simp only
          rw [show (ss.all fun s => nameB s && decide (s ∈ rows)) = false from ?_, Bool.false_and]
          rw [List.all_map] at ha'
          exact ha'
      rw [this] at q
      exact q
  · have ht' : ∀ xs, v ≠ .tup xs := fun s z => ht ⟨s, z⟩
    have hi : Pisi [v, .ty "tuple"] = some (false, .bl false) := by
      rw [pisi_ok hv (by simp)]
      cases v with
      | tup s => exact absurd rfl (ht' s)
      | _ => first | rfl | simp [tyOf] at hv
    simp? only [hi]
    have : areB rows v = false := by
      cases v with
      | tup s => exact absurd rfl (ht' s)
      | _ => rfl
    rw [this] at q
    exact q
/-- needs that a sheet of these rows may have -/
structure Raw (rows : List Str) (m : Nd) : Prop where
  nd : (keys m).Nodup
  ks : ∀ s ∈ keys m, s ∈ rows
  vl : ∀ p ∈ m, p.2.Nodup ∧ ∀ y ∈ p.2, y ∈ rows
theorem areB_of {rows vs : List Str} (hn : ∀ s ∈ rows, IsName s) (h1 : vs.Nodup) (h2 : ∀ y ∈ vs, y ∈ rows) : areB rows (.tup (vs.map .str)) = true := by
  simp only [areB, asStrs_map]
  rw [decide_eq_true h1, Bool.and_true, List.all_eq_true]
  intro s hs
  rw [nameB_of (hn s (h2 s hs)), decide_eq_true (h2 s hs)]; rfl
theorem Raw.ll {rows : List Str} {m : Nd} (hr : Rows rows) (h : Raw rows m) : ∀ p ∈ m, p.2.length ≤ 60 := fun p hp => by
  have := nodup_len (h.vl p hp).1 (h.vl p hp).2
  have := hr.len
  omega
theorem need_needs_wp {R : Val} {rows : List Str} {m : Nd} {K : GR → Prop} (hR : IsRows R rows) (h : Rows rows) (hm : Raw rows m) (q : K (.ok false .non none)) : wG g_need_needs [(false, R), (false, enc m)] K := by
  have cp : ∀ s ∈ rows, CpOk s := fun s hs => (h.nm s hs).cp
  unfold g_need_needs
  rw [wG_run (by rfl) (by simp [ownIx])]
  unfold b_need_needs
  have hi : Pisi [enc m, .ty "dict"] = some (false, .bl true) := pisi_ok rfl (by simp)
  simp? only [hi, pairs_en]
  obtain ⟨I, hI⟩ : ∃ I : List Val → M.Env → Prop, I = fun vs r => ∃ (k : Nat) (b1 b2 : M.Slot), vs = (m.map prV).drop k ∧ k ≤ (m.map prV).length ∧ r = [some (false, R), some (false, enc m), b1, b2] := ⟨_, rfl⟩
  refine wL_inv I ?_ ?_ _ _ (by rw [hI]; exact ⟨0, none, none, rfl, by omega, rfl⟩)
  · intro v vs r hh
    rw [hI] at hh
    obtain ⟨k, b1, b2, e, hk, rfl⟩ := hh
    obtain ⟨hk2, rfl, rfl⟩ := drop_step e
    rw [List.getElem_map]
    have hk3 : k < m.length := by simpa using hk2
    have hmem : m[k] ∈ m := List.getElem_mem hk3
    have hkey := hm.ks _ (keys_mem hmem)
    have hv := hm.vl _ hmem
    simp? only [M.kT_e1, L1_need_needs, hR.notIn cp (cp _ hkey), hkey, decide_true]
    refine are_needs_wp hR cp rfl (fun xs e => ?_) ?_
    · cases e
      have := hm.ll h _ hmem
      exact ⟨by rw [List.length_map]; omega, fun x hx => by obtain ⟨s, _, rfl⟩ := List.mem_map.mp hx; rfl⟩
    rw [areB_of h.nm hv.1 hv.2]
    simp? only []
    rw [hI]
    exact ⟨k + 1, _, _, rfl, hk2, rfl⟩
  · intro r hh
    rw [hI] at hh
    obtain ⟨k, b1, b2, e, hk, rfl⟩ := hh
    simp? only []
    exact q
end PN
namespace PN
open PySem L2 M 
theorem app_len (a b : Str) : (a ++ b).length = a.length + b.length := by
  show (a.cps ++ b.cps).size = _
  rw [Array.size_append]; rfl
theorem join_len (sep : Str) : ∀ ys : List Str, (Str.join sep ys).length ≤ (ys.map (·.length)).sum + ys.length * sep.length
  | [] => by simp [Str.join]; rfl
  | [x] => by simp [Str.join]
  | x :: y :: l => by
    have ih := join_len sep (y :: l)
    rw [Str.join, app_len, app_len]
    · simp only [List.map_cons, List.sum_cons, List.length_cons, Nat.add_mul] at ih ⊢
      omega
    · simp
theorem sum_le (ys : List Str) (B : Nat) (h : ∀ y ∈ ys, y.length ≤ B) : (ys.map (·.length)).sum ≤ ys.length * B := by
  induction ys with
  | nil => simp
  | cons y ys ih =>
    have := ih fun z hz => h z (List.mem_cons_of_mem _ hz)
    have := h y (by simp)
    simp only [List.map_cons, List.sum_cons, List.length_cons, Nat.add_mul]
    omega
theorem join_le (a : Str) (ys : List Str) (B : Nat) (h : ∀ y ∈ ys, y.length ≤ B) : (Str.join a ys).length ≤ ys.length * (B + a.length) := by
  have := join_len a ys
  have := sum_le ys B h
  rw [Nat.mul_add]
  omega
theorem pjoin_of (a : Str) (ys : List Str) (B : Nat) (h : ∀ y ∈ ys, y.length ≤ B) (h2 : ys.length * (B + a.length) ≤ 16777216) : Pjoin [.str a, .lst (ys.map .str)] = some (false, .str (Str.join a ys)) := by
  have e : Txt.join a ys = Str.join a ys := PySem.StrLaws.glued_eq_join a ys
  have h3 := join_le a ys B h
  have h4 := sum_le ys B h
  rw [Nat.mul_add] at h2 h3
  simp only [Pjoin, asStrs_map, e]
  rw [if_pos ⟨by omega, by rw [sizeLine_eq]; omega⟩]
theorem pne_tnil (ss : List Str) (h : ∀ s ∈ ss, CpOk s) : PneX [.tup (ss.map .str), .tup []] = some (false, .bl (!decide (ss = []))) := by
  have h1 := shp_tup ss h
  have h2 := shp_tup [] (by simp)
  simp only [List.map_nil] at h2
  cases ss with
  | nil => simp [PneX, orP, PneS, Pne, toD, toDs, h2, PyData.eqv, PyData.eqvAll]
  | cons c cs =>
    simp only [List.map_cons] at h1
    simp [PneX, orP, PneS, Pne, toD, toDs, toDs_strs, h1, h2, PyData.eqv, PyData.eqvAll]
def nmC (s : Str) : Str := (Str.empty ++ s) ++ ":"
def rowT (s : Str) (ns : List Str) : Str := if ns = [] then s else Str.join " " (nmC s :: ns)
def sheetT (rows : List Str) (m : Nd) : Str := Str.join "\n" (rows.map fun s => rowT s (getN m s))
theorem nmC_len (s : Str) : (nmC s).length = s.length + 1 := by
  unfold nmC
  rw [app_len, app_len]
  show 0 + s.length + 1 = _
  omega
theorem rowT_len {s : Str} {ns : List Str} (hs : IsName s) (hn : ∀ y ∈ ns, IsName y) (hl : ns.length ≤ 60) : (rowT s ns).length ≤ 1000 := by
  unfold rowT
  have h8 := hs.len
  split
  · omega
  · have := join_le " " (nmC s :: ns) 9 fun y hy => by
      rcases List.mem_cons.mp hy with rfl | hy
      · rw [nmC_len]; omega
      · have := (hn y hy).len; omega
    rw [show (" " : Str).length = 1 from rfl, List.length_cons] at this
    omega
theorem row_text_wp {s : Str} {ns : List Str} {K : GR → Prop} (hs : IsName s) (hn : ∀ y ∈ ns, IsName y) (hl : ns.length ≤ 60) (q : K (.ok false (.str (rowT s ns)) none)) : wG g_row_text [(false, .str s), (false, .tup (ns.map .str))] K := by
  unfold g_row_text
  rw [wG_run (by rfl) (by simp [ownIx])]
  unfold b_row_text
  have h8 := hs.len
  simp? only [pne_tnil ns fun y hy => (hn y hy).cp]
  by_cases h0 : ns = []
  · simp? only [h0, decide_true]
    rw [rowT, if_pos h0] at q
    exact q
  · have hj := pjoin_of " " (nmC s :: ns) 9 (fun y hy => by
      rcases List.mem_cons.mp hy with rfl | hy
      · rw [nmC_len]; omega
      · have := (hn y hy).len; omega) (by rw [show (" " : Str).length = 1 from rfl, List.length_cons]; omega)
    simp only [List.map_cons] at hj
    have l1 : (Str.empty ++ s).length ≤ sizeLine := by
      rw [app_len, sizeLine_eq]
      show 0 + s.length ≤ _
      omega
    have l2 : (nmC s).length ≤ sizeLine := by
      rw [nmC_len s, sizeLine_eq]
      omega
    have l3 : (ns.map Val.str).length + 1 ≤ 100000 := by rw [List.length_map]; omega
    have e1 : Str.empty ++ s ++ ":" = nmC s := rfl
    simp? only [h0, decide_false, Pfmt, l1, l2, l3, e1, tyOf, hj]
    rw [rowT, if_neg h0] at q
    exact q
def ordL (rows : List Str) : List (Str × Val) := rows.zipIdx.map fun p => (p.1, .int (p.2 : Nat))
theorem ord_keys (rows : List Str) : (ordL rows).map (·.1) = rows := by
  unfold ordL
  rw [List.map_map]
  have : ∀ (l : List Str) (n : Nat), (l.zipIdx n).map (fun p => p.1) = l := by
    intro l
    induction l with
    | nil => intro n; rfl
    | cons a l ih => intro n; simp [ih]
  exact this rows 0
theorem ord_get {rows : List Str} {s : Str} (h : s ∈ rows) : (ordL rows).lookup s = some (.int (rows.idxOf s : Nat)) := by
  have key : ∀ (l : List Str) (n : Nat), s ∈ l → ((l.zipIdx n).map fun p => (p.1, Val.int (p.2 : Nat))).lookup s = some (.int ((n + l.idxOf s : Nat) : Int)) := by
    intro l
    induction l with
    | nil => intro n h; cases h
    | cons a l ih =>
      intro n h
      simp only [List.zipIdx_cons, List.map_cons, List.lookup_cons]
      by_cases e : s = a
      · subst e
        simp
      · have e1 : (s == a) = false := beq_eq_false_iff_ne.mpr e
        rw [e1]
        simp only
        rw [ih (n + 1) ((List.mem_cons.mp h).resolve_left e), List.idxOf_cons]
        have e2 : (a == s) = false := beq_eq_false_iff_ne.mpr fun z => e z.symm
        rw [e2]
        simp
        omega
  have := key rows 0 h
  rw [Nat.zero_add] at this
  exact this
def sheetF (rows : List Str) (m : Nd) : List (Str × Val) := [("names", .tup (rows.map .str)), ("direct", enc m), ("order", .dct false (sd (ordL rows))), ("shown", .str (sheetT rows m))]
abbrev sheetV (rows : List Str) (m : Nd) : Val := .obj "Sheet" (sheetF rows m)
/-- what a method leaves of a lent object -/
def bk (o : Bool) (v : Val) : Option (Bool × Val) := if o = true then some (true, v) else none
theorem needs_wp {o : Bool} {fs : List (Str × Val)} {m : Nd} {K : GR → Prop} (h : fs.lookup ("direct" : Str) = some (enc m)) (q : K (.ok true (enc m) (bk o (.obj "Sheet" fs)))) : wG g_C_Sheet_needs [(o, .obj "Sheet" fs)] K := by
  unfold g_C_Sheet_needs
  rw [wG_run (by rfl) (by cases o <;> simp [ownIx])]
  unfold b_C_Sheet_needs
  have hp : Pfld ["Sheet"] "direct" [.obj "Sheet" fs] = some (false, enc m) := by simp [Pfld, h]
  cases o
  · simp? only [hp, Pdict, M.kdef_e2, M.kd2_e1]
    exact q
  · simp? only [hp, Pdict, M.kdef_e2, M.kd2_e1]
    exact q
theorem rows_wp {o : Bool} {fs : List (Str × Val)} {rows : List Str} {K : GR → Prop} (h : fs.lookup ("names" : Str) = some (.tup (rows.map .str))) (q : K (.ok false (.tup (rows.map .str)) (bk o (.obj "Sheet" fs)))) : wG g_C_Sheet_rows [(o, .obj "Sheet" fs)] K := by
  unfold g_C_Sheet_rows
  rw [wG_run (by rfl) (by cases o <;> simp [ownIx])]
  unfold b_C_Sheet_rows
  have hp : Pfld ["Sheet"] "names" [.obj "Sheet" fs] = some (false, .tup (rows.map .str)) := by simp [Pfld, h]
  cases o
  · simp? only [hp]
    exact q
  · simp? only [hp]
    exact q
end PN
namespace PN
open PySem L2 M 
structure HasF (fs : List (Str × Val)) (rows : List Str) (m : Nd) : Prop where
  nm : fs.lookup ("names" : Str) = some (.tup (rows.map .str))
  dr : fs.lookup ("direct" : Str) = some (enc m)
  nn : fs.lookup ("needs" : Str) = none
  nr : fs.lookup ("rows" : Str) = none
/-- needs of a sheet -/
structure Sh (rows : List Str) (m : Nd) : Prop extends Rows rows where
  ks : keys m = rows
  vl : ∀ p ∈ m, p.2.Nodup ∧ ∀ y ∈ p.2, y ∈ rows
  so : ∀ p ∈ m, p.2 = srt p.2
  ac : Acyc m
theorem Sh.wf {rows : List Str} {m : Nd} (h : Sh rows m) : Wf m := by
  have e := h.ks
  refine ⟨by rw [e]; exact h.nd, by rw [e]; exact h.nm, by rw [e]; exact fun p hp => (h.vl p hp).2, ?_, fun p hp => ?_⟩
  · have := congrArg List.length e
    have := h.len
    simp [keys] at *
    omega
  · have := nodup_len (h.vl p hp).1 (h.vl p hp).2
    have := h.len
    omega
theorem sheet_text_wp {o : Bool} {fs : List (Str × Val)} {rows : List Str} {m : Nd} {K : GR → Prop} (hf : HasF fs rows m) (h : Rows rows) (hw : Wf m) (hk : keys m = rows) (q : K (.ok false (.str (sheetT rows m)) (bk o (.obj "Sheet" fs)))) : wG g_sheet_text [(o, .obj "Sheet" fs)] K := by
  have hlen := h.len
  have main : ∀ {Q : AR → Prop} {r0 : M.Slot}, Q (.ok ((rows.map fun s => rowT s (getN m s)).map .str) [r0, some (true, enc m), none]) → wC (M.tgN 2) yesB E1_sheet_text [2] (rows.map .str) [] [r0, some (true, enc m), none] Q := by
    intro Q r0 q
    refine wC_map Val.str (fun s => .str (rowT s (getN m s))) (fun _ => true) rows (fun s hs => ⟨_, rfl, rfl, rfl, fun _ => ?_⟩) (by omega) ?_
    · have hs2 : s ∈ keys m := by rw [hk]; exact hs
      simp? only [E1_sheet_text, pix_en m s hs2]
      refine row_text_wp (h.nm s hs) (fun y hy => hw.nm y (hw.vl _ (getN_key hs2) y hy)) (hw.ll _ (getN_key hs2)) ?_
      simp? only []
      exact ⟨_, _, rfl, rfl⟩
    rw [filter_yes]
    rw [List.map_map] at q
    exact q
  have hj := pjoin_of "\n" (rows.map fun s => rowT s (getN m s)) 1000 (fun y hy => by
    obtain ⟨s, hs, rfl⟩ := List.mem_map.mp hy
    have hs2 : s ∈ keys m := by rw [hk]; exact hs
    exact rowT_len (h.nm s hs) (fun y hy => hw.nm y (hw.vl _ (getN_key hs2) y hy)) (hw.ll _ (getN_key hs2))) (by rw [show ("\n" : Str).length = 1 from rfl, List.length_map]; omega)
  unfold g_sheet_text
  rw [wG_run (by rfl) (by cases o <;> simp [ownIx])]
  unfold b_sheet_text
  cases o
  · simp? only [hf.nn]
    refine needs_wp hf.dr ?_
    simp? only [hf.nr, bk]
    refine rows_wp hf.nm ?_
    simp? only [bk]
    refine main ?_
    simp? only [hj]
    exact q
  · simp? only [hf.nn]
    refine needs_wp hf.dr ?_
    simp? only [hf.nr, bk]
    refine rows_wp hf.nm ?_
    simp? only [bk]
    refine main ?_
    simp? only [hj]
    exact q
/-- the needs that are kept: the rows in order, each with what it needs, ascending -/
def mkN (rows : List Str) (m : Nd) : Nd := rows.map fun s => (s, srt (getN m s))
theorem mkN_keys (rows : List Str) (m : Nd) : keys (mkN rows m) = rows := by
  unfold keys mkN
  rw [List.map_map]
  exact (List.map_congr_left fun _ _ => rfl).trans (List.map_id _)
theorem mkN_get {rows : List Str} {m : Nd} {s : Str} (h : s ∈ rows) : getN (mkN rows m) s = srt (getN m s) := by
  have key : ∀ l : List Str, s ∈ l → (l.map fun s => (s, srt (getN m s))).lookup s = some (srt (getN m s)) := by
    intro l
    induction l with
    | nil => intro h; cases h
    | cons a l ih =>
      intro h
      rw [List.map_cons, List.lookup_cons]
      by_cases e : s = a
      · subst e; simp
      · rw [show (s == a) = false from beq_eq_false_iff_ne.mpr e]
        exact ih ((List.mem_cons.mp h).resolve_left e)
  rw [getN, mkN, key rows h]; rfl
theorem getN_in {rows : List Str} {m : Nd} (hm : Raw rows m) (s : Str) : (getN m s).Nodup ∧ ∀ y ∈ getN m s, y ∈ rows := by
  by_cases h : s ∈ keys m
  · exact hm.vl _ (getN_key h)
  · rw [getN_nil h]; exact ⟨.nil, by simp⟩
theorem mkN_sh {rows : List Str} {m : Nd} (hr : Rows rows) (hm : Raw rows m) (ha : Acyc m) : Sh rows (mkN rows m) := by
  refine { toRows := hr, ks := mkN_keys rows m, vl := fun p hp => ?_, so := fun p hp => ?_, ac := ?_ }
  · obtain ⟨s, _, rfl⟩ := List.mem_map.mp hp
    have := getN_in hm s
    exact ⟨(srt_perm _).nodup_iff.mpr this.1, fun y hy => this.2 y (srt_mem.mp hy)⟩
  · obtain ⟨s, _, rfl⟩ := List.mem_map.mp hp
    exact srt_congr (srt_perm _).symm
  · obtain ⟨rk, h⟩ := ha
    refine ⟨rk, fun p hp y hy => ?_⟩
    obtain ⟨s, _, rfl⟩ := List.mem_map.mp hp
    have hy := srt_mem.mp hy
    by_cases hs : s ∈ keys m
    · exact h _ (getN_key hs) y hy
    · rw [getN_nil hs] at hy; cases hy
theorem pdget_en (m : Nd) (s : Str) : Pdget [enc m, .str s, .tup []] = some (false, .tup ((getN m s).map .str)) := by
  simp only [Pdget, M.keyOf, Option.map_some, dGet_sd, en_get, getN]
  cases m.lookup s <;> rfl
theorem psorted_tup (ss : List Str) (h : ss.length < 64) : PsortedX [.tup (ss.map .str)] = some (true, .lst ((srt ss).map .str)) := by
  simp only [PsortedX, orP, Psorted, asStrs_map]
  rw [if_pos h]
theorem psorted_lst (ss : List Str) (h : ss.length < 64) : PsortedX [.lst (ss.map .str)] = some (true, .lst ((srt ss).map .str)) := by
  simp only [PsortedX, orP, Psorted, asStrs_map]
  rw [if_pos h]
theorem enum_zip (rows : List Str) : enumV (rows.map .str) = rows.zipIdx.map fun p => .tup [.int (p.2 : Nat), .str p.1] := by
  unfold enumV
  rw [List.mapIdx_eq_zipIdx_map, List.zipIdx_map, List.map_map]
  rfl
/-- the fields that a sheet may have before it is filled -/
def Pre (fs : List (Str × Val)) : Prop := fs = [] ∨ ∃ r0 m0, fs = sheetF r0 m0
theorem zip_fst (rows : List Str) : (rows.zipIdx.map fun p => p.1) = rows := by
  have := ord_keys rows
  unfold ordL at this
  rwa [List.map_map] at this
theorem put_len (f : Str) (v : Val) : ∀ fs : List (Str × Val), (putV f v fs).length ≤ fs.length + 1
  | [] => by simp [putV]
  | (g, x) :: r => by
    have := put_len f v r
    rw [putV]
    split <;> simp <;> omega
theorem put4 {fs : List (Str × Val)} (h : Pre fs) (a b c d : Val) : putV "shown" d (putV "order" c (putV "direct" b (putV "names" a fs))) = ([("names", a), ("direct", b), ("order", c), ("shown", d)] : List (Str × Val)) := by
  rcases h with rfl | ⟨r0, m0, rfl⟩ <;> rfl
theorem put3 {fs : List (Str × Val)} (h : Pre fs) (rows : List Str) (m : Nd) (c : Val) : HasF (putV "order" c (putV "direct" (enc m) (putV "names" (.tup (rows.map .str)) fs))) rows m := by
  rcases h with rfl | ⟨r0, m0, rfl⟩ <;> exact ⟨rfl, rfl, rfl, rfl⟩
theorem Pre.len {fs : List (Str × Val)} (h : Pre fs) : fs.length ≤ 4 := by
  rcases h with rfl | ⟨r0, m0, rfl⟩ <;> simp [sheetF]
theorem fill_wp {fs : List (Str × Val)} {R : Val} {rows : List Str} {m : Nd} {K : GR → Prop} (hfs : Pre fs) (hR : IsRows R rows) (hr : Rows rows) (hm : Raw rows m) (ha : Acyc m)
    (q : K (.ok false .non (some (true, sheetV rows (mkN rows m))))) : wG g_C_Sheet_fill [(true, .obj "Sheet" fs), (false, R), (false, enc m)] K := by
  have hlen := hr.len
  have hS := mkN_sh hr hm ha
  unfold g_C_Sheet_fill
  rw [wG_run (by rfl) (by simp [ownIx])]
  unfold b_C_Sheet_fill
  simp? only []
  refine need_rows_wp hR hr ?_
  simp? only []
  refine need_needs_wp hR hr hm ?_
  simp? only [hR.items]
  refine wDC_map Val.str (fun s => s) (fun s => .tup ((srt (getN m s)).map .str)) (fun _ => true) rows (fun s hs => ⟨_, rfl, rfl, rfl, fun _ => ?_⟩) (by omega) ?_ ?_
  · have hl64 : (getN m s).length < 64 := by
      have := nodup_len (getN_in hm s).1 (getN_in hm s).2
      omega
    simp? only [K1_C_Sheet_fill, E2_C_Sheet_fill, tyOf, pdget_en, psorted_tup _ hl64]
    exact ⟨_, rfl, _, _, rfl, rfl⟩
  · rw [filter_yes, List.map_id']; exact hr.nd
  rw [filter_yes]
  have e1 : sd (rows.map fun x => (x, Val.tup ((srt (getN m x)).map .str))) = sd (en (mkN rows m)) := by
    simp only [en, mkN, List.map_map]; rfl
  rw [e1]
  simp? only []
  refine ring_in_wp hS.wf (fun _ => ?_) (fun ss hss => absurd hS.ac hss.no)
  have hmem : ("Sheet" : Str) ∈ (["Sheet"] : List Str) := List.mem_singleton.mpr rfl
  have l0 := hfs.len
  have l1 := put_len "names" (.tup (rows.map .str)) fs
  have l2 := put_len "direct" (enc (mkN rows m)) (putV "names" (.tup (rows.map .str)) fs)
  have l3 := put_len "order" (.dct false (sd (ordL rows))) (putV "direct" (enc (mkN rows m)) (putV "names" (.tup (rows.map .str)) fs))
  have z0 : fs.length < 1000 := by omega
  have z1 : (putV "names" (.tup (rows.map .str)) fs).length < 1000 := by omega
  have z2 : (putV "direct" (enc (mkN rows m)) (putV "names" (.tup (rows.map .str)) fs)).length < 1000 := by omega
  have z3 : (putV "order" (.dct false (sd (ordL rows))) (putV "direct" (enc (mkN rows m)) (putV "names" (.tup (rows.map .str)) fs))).length < 1000 := by omega
  simp? only [PisNot, hR.tuple, hmem, z0, z1]
  have eo : sd (rows.zipIdx.map fun x => (x.1, Val.int (x.2 : Nat))) = sd (ordL rows) := rfl
  rcases hR with rfl | rfl
  · simp? only []
    rw [enum_zip]
    refine wDC_map (fun p : Str × Nat => .tup [.int (p.2 : Nat), .str p.1]) (fun p => p.1) (fun p => .int (p.2 : Nat)) (fun _ => true) rows.zipIdx (fun p hp => ⟨_, rfl, rfl, rfl, fun _ => ?_⟩) (by simp; omega) ?_ ?_
    · simp? only [K3_C_Sheet_fill, E4_C_Sheet_fill]
      exact ⟨_, rfl, _, _, rfl, rfl⟩
    · rw [filter_yes, zip_fst]; exact hr.nd
    rw [filter_yes, eo]
    simp? only [hmem, z2]
    refine sheet_text_wp (put3 hfs rows _ _) hr hS.wf (mkN_keys rows m) ?_
    simp? only [bk, hmem, z3, put4 hfs]
    exact q
  · simp? only []
    rw [enum_zip]
    refine wDC_map (fun p : Str × Nat => .tup [.int (p.2 : Nat), .str p.1]) (fun p => p.1) (fun p => .int (p.2 : Nat)) (fun _ => true) rows.zipIdx (fun p hp => ⟨_, rfl, rfl, rfl, fun _ => ?_⟩) (by simp; omega) ?_ ?_
    · simp? only [K3_C_Sheet_fill, E4_C_Sheet_fill]
      exact ⟨_, rfl, _, _, rfl, rfl⟩
    · rw [filter_yes, zip_fst]; exact hr.nd
    rw [filter_yes, eo]
    simp? only [hmem, z2]
    refine sheet_text_wp (put3 hfs rows _ _) hr hS.wf (mkN_keys rows m) ?_
    simp? only [bk, hmem, z3, put4 hfs]
    exact q
/-- Sheet(), no rows -/
theorem init0_wp {K : GR → Prop} (q : K (.ok false .non (some (true, sheetV [] [])))) : wG g_C_Sheet___init__ [(true, .obj "Sheet" [])] K := by
  unfold g_C_Sheet___init__
  rw [wG_runS ⟨by simp, by simp [lents], by simp, by simp [packS, ownIx]⟩]
  rw [wG_run (by rfl) (by simp [packS, ownIx])]
  unfold b_C_Sheet___init__
  have hp : packS 1 true [(true, Val.obj "Sheet" [])] = [(true, .obj "Sheet" []), (false, .tup []), (false, .dct false [])] := rfl
  have hp2 : (List.lookup ("fill" : Str) ([] : List (Str × Val))) = none := rfl
  rw [hp]
  have e3 : (3 - (1 + 1 + if true = true then 1 else 0)) = 0 := rfl
  rw [e3]
  simp? only [hp2]
  have z1 : Pre [] := .inl rfl
  have z2 : IsRows (.tup []) [] := .inl rfl
  have z3 : Rows [] := ⟨.nil, by simp, by simp⟩
  have z4 : Raw [] [] := ⟨.nil, by simp [keys], by simp⟩
  have z5 : Acyc [] := ⟨fun _ => 0, by simp⟩
  refine fill_wp (fs := []) (R := .tup []) (rows := []) (m := []) z1 z2 z3 z4 z5 ?_
  simp? only []
  exact q
theorem of_wp {R : Val} {rows : List Str} {m : Nd} {K : GR → Prop} (hR : IsRows R rows) (hr : Rows rows) (hm : Raw rows m) (ha : Acyc m) (q : K (.ok true (sheetV rows (mkN rows m)) none)) : wG g_C_Sheet_of [(false, .cls "Sheet"), (false, R), (false, enc m)] K := by
  unfold g_C_Sheet_of
  rw [wG_run (by rfl) (by simp [ownIx])]
  unfold b_C_Sheet_of
  simp? only []
  refine init0_wp ?_
  have hl : (sheetF [] []).lookup ("fill" : Str) = none := rfl
  simp? only [hl]
  refine fill_wp (.inr ⟨[], [], rfl⟩) hR hr hm ha ?_
  simp? only []
  exact q
end PN
namespace PN
open PySem L2 M 
inductive Dep (m : Nd) : Str → Str → Prop
  | one {a b : Str} : b ∈ getN m a → Dep m a b
  | more {a b c : Str} : b ∈ getN m a → Dep m b c → Dep m a c
theorem Dep.trans {m : Nd} {a b c : Str} (h : Dep m a b) (h2 : Dep m b c) : Dep m a c := by
  induction h with
  | one h => exact .more h h2
  | more h _ ih => exact .more h (ih h2)
theorem Dep.rk {m : Nd} {rk : Str → Nat} (hr : ∀ p ∈ m, ∀ y ∈ p.2, rk y < rk p.1) {a b : Str} (h : Dep m a b) : rk b < rk a := by
  have one : ∀ {a b : Str}, b ∈ getN m a → rk b < rk a := fun {a b} h => by
    by_cases hk : a ∈ keys m
    · exact hr _ (getN_key hk) _ h
    · rw [getN_nil hk] at h; cases h
  induction h with
  | one h => exact one h
  | more h _ ih => have := one h; omega
theorem Dep.left {m : Nd} {a b : Str} (h : Dep m a b) : a ∈ keys m := by
  have one : ∀ {a b : Str}, b ∈ getN m a → a ∈ keys m := fun {a b} h => by
    refine Classical.byContradiction fun hk => ?_
    rw [getN_nil hk] at h; cases h
  cases h with
  | one h => exact one h
  | more h _ => exact one h
theorem Dep.right {m : Nd} (hw : Wf m) {a b : Str} (h : Dep m a b) : b ∈ keys m := by
  induction h with
  | @one a b h =>
    by_cases hk : a ∈ keys m
    · exact hw.vl _ (getN_key hk) _ h
    · rw [getN_nil hk] at h; cases h
  | more _ _ ih => exact ih
noncomputable def depB (m : Nd) (a b : Str) : Bool := @decide (Dep m a b) (Classical.propDecidable _)
theorem depB_iff {m : Nd} {a b : Str} : depB m a b = true ↔ Dep m a b := by unfold depB; simp
theorem depB_eq {m : Nd} {a b : Str} {t : Bool} (h : t = true ↔ Dep m a b) : t = depB m a b := by
  rw [Bool.eq_iff_iff, depB_iff]; exact h
abbrev clE (p : Str × List Str) : Str × Val := (p.1, .dct false (tdict (.bl true) p.2))
abbrev encC (cl : Nd) : Val := .dct false (sd (cl.map clE))
theorem clE_keys (cl : Nd) : (cl.map clE).map (·.1) = keys cl := by
  rw [List.map_map]; rfl
theorem clE_get (cl : Nd) (k : Str) : (cl.map clE).lookup k = (cl.lookup k).map fun vs => .dct false (tdict (.bl true) vs) := by
  induction cl with
  | nil => rfl
  | cons p cl ih =>
    obtain ⟨a, b⟩ := p
    simp only [List.map_cons, List.lookup_cons]
    cases h : k == a with
    | true => rfl
    | false => exact ih
theorem pix_cl (cl : Nd) (s : Str) (h : s ∈ keys cl) : Pix [encC cl, .str s] = some (false, .dct false (tdict (.bl true) (getN cl s))) := by
  obtain ⟨v, e⟩ := lookup_some h
  rw [pix_sd, clE_get, getN, e]; rfl
theorem pin_cl (cl : Nd) (s : Str) : PinX [.str s, encC cl] = some (false, .bl (decide (s ∈ keys cl))) := by rw [pin_sd, clE_keys]
theorem pnotin_cl (cl : Nd) (s : Str) : PnotInX [.str s, encC cl] = some (false, .bl (!decide (s ∈ keys cl))) := by rw [pnotin_sd, clE_keys]
theorem td_keys (u : Val) (ks : List Str) : (ks.map fun k => (k, u)).map (·.1) = ks := by
  rw [List.map_map]; exact (List.map_congr_left fun _ _ => rfl).trans (List.map_id _)
theorem pnotin_td (u : Val) (ks : List Str) (s : Str) : PnotInX [.str s, .dct false (tdict u ks)] = some (false, .bl (!decide (s ∈ ks))) := by rw [pnotin_sd, td_keys]
theorem keysOf_td (u : Val) (ks : List Str) : keysOfD (tdict u ks) = ks.map .str := by
  simp only [keysOfD, tdict, sd, List.map_map]; rfl
theorem plenX_d (ds : List (Val × Val)) : PlenX [.dct false ds] = some (false, .int ds.length) := rfl
theorem cl_len (cl : Nd) : (sd (cl.map clE)).length = cl.length := by simp [sd]
theorem putIx_cl {cl : Nd} {k : Str} {vs : List Str} (h : k ∉ keys cl) (hl : cl.length < 100000) : putIx (encC cl) (.str k) (.dct false (tdict (.bl true) vs)) = some (encC (cl ++ [(k, vs)])) := by
  rw [putIx_new (by rw [clE_keys]; exact h) (by simpa using hl)]
  have e : (cl ++ [(k, vs)]).map clE = cl.map clE ++ [(k, Val.dct false (tdict (.bl true) vs))] := List.map_append
  exact congrArg (fun l => some (Val.dct false (sd l))) e.symm
/-- what is found so far -/
structure CloI (m cl : Nd) : Prop where
  nd : (keys cl).Nodup
  sub : ∀ s ∈ keys cl, s ∈ keys m
  ok : ∀ p ∈ cl, p.2.Nodup ∧ ∀ y, y ∈ p.2 ↔ Dep m p.1 y
theorem CloI.len {m cl : Nd} (hw : Wf m) (h : CloI m cl) : cl.length ≤ 60 := by
  have h1 := nodup_len h.nd h.sub
  have h2 := hw.len
  simp only [keys, List.length_map] at h1
  omega
theorem CloI.ll {m cl : Nd} (hw : Wf m) (h : CloI m cl) (s : Str) : (getN cl s).length ≤ 60 := by
  by_cases hs : s ∈ keys cl
  · have h1 := h.ok _ (getN_key hs)
    have := nodup_len (r := keys m) h1.1 fun y hy => Dep.right hw ((h1.2 y).mp hy)
    have := hw.len
    simp only [keys, List.length_map] at *
    omega
  · rw [getN_nil hs]; simp
theorem fm_len {α : Type} (f : α → List Str) (B : Nat) : ∀ xs : List α, (∀ x ∈ xs, (f x).length ≤ B) → (xs.flatMap f).length ≤ xs.length * B
  | [], _ => by simp
  | x :: xs, h => by
    have := fm_len f B xs fun y hy => h y (List.mem_cons_of_mem _ hy)
    have := h x (by simp)
    rw [List.flatMap_cons, List.length_append, List.length_cons, Nat.add_mul]
    omega
theorem clos_step {m cl : Nd} {p : Str × List Str} (hw : Wf m) (h : CloI m cl) (hp : p ∈ m) (hn : p.1 ∉ keys cl) (hall : ∀ y ∈ p.2, y ∈ keys cl) : CloI m (cl ++ [(p.1, insAll [] (p.2.flatMap fun o => o :: getN cl o))]) := by
  have hg := getN_mem hw.nd hp
  refine ⟨?_, ?_, ?_⟩
  · simp only [keys, List.map_append, List.map_cons, List.map_nil]
    rw [List.nodup_append]
    exact ⟨h.nd, by simp, fun a ha b hb e => hn (by rw [List.mem_singleton.mp hb] at e; rw [← e]; exact ha)⟩
  · intro s hs
    simp only [keys, List.map_append, List.map_cons, List.map_nil] at hs
    rcases List.mem_append.mp hs with z | z
    · exact h.sub s z
    · rw [List.mem_singleton.mp z]; exact keys_mem hp
  · intro q hq
    rcases List.mem_append.mp hq with z | z
    · exact h.ok q z
    · rw [List.mem_singleton.mp z]
      refine ⟨insAll_nodup .nil, fun y => ?_⟩
      rw [insAll_mem, List.mem_flatMap]
      constructor
      · rintro (z | ⟨o, ho, hy⟩)
        · cases z
        · rcases List.mem_cons.mp hy with rfl | hy
          · exact .one (by rw [hg]; exact ho)
          · exact .more (by rw [hg]; exact ho) (((h.ok _ (getN_key (hall o ho))).2 y).mp hy)
      · intro hd
        refine .inr ?_
        cases hd with
        | one hb => rw [hg] at hb; exact ⟨y, hb, by simp⟩
        | @more _ b _ hb hd => rw [hg] at hb; exact ⟨b, hb, List.mem_cons_of_mem _ (((h.ok _ (getN_key (hall b hb))).2 y).mpr hd)⟩
theorem clos_next {m cl : Nd} (hw : Wf m) (ha : Acyc m) (h : CloI m cl) (hl : cl.length < m.length) : ∃ p ∈ m, p.1 ∉ keys cl ∧ ∀ y ∈ p.2, y ∈ keys cl := by
  obtain ⟨rk, hr⟩ := ha
  obtain ⟨q, hq, hqn⟩ : ∃ q ∈ m, q.1 ∉ keys cl := by
    refine Classical.byContradiction fun hc => ?_
    have : (keys m).length ≤ (keys cl).length := nodup_len hw.nd fun s hs => by
      obtain ⟨p, hp, rfl⟩ := List.mem_map.mp hs
      exact Classical.byContradiction fun z => hc ⟨p, hp, z⟩
    simp only [keys, List.length_map] at this
    omega
  have key : ∀ N, ∀ q ∈ m, q.1 ∉ keys cl → rk q.1 = N → ∃ p ∈ m, p.1 ∉ keys cl ∧ ∀ y ∈ p.2, y ∈ keys cl := by
    intro N
    induction N using Nat.strongRecOn with
    | ind N ih =>
      intro q hq hqn e
      by_cases hall : ∀ y ∈ q.2, y ∈ keys cl
      · exact ⟨q, hq, hqn, hall⟩
      · obtain ⟨y, hy⟩ := Classical.not_forall.mp hall
        obtain ⟨hy, hyn⟩ := Classical.not_imp.mp hy
        have h1 := hr q hq y hy
        exact ih (rk y) (by omega) _ (getN_key (hw.vl q hq y hy)) hyn rfl
  exact key _ q hq hqn rfl
theorem closure_wp {rows : List Str} {m : Nd} {K : GR → Prop} (h : Sh rows m) (q : ∀ cl, CloI m cl → (∀ s ∈ rows, s ∈ keys cl) → K (.ok true (encC cl) none)) : wG g_closure [(false, sheetV rows m)] K := by
  have hw := h.wf
  have hml := hw.len
  unfold g_closure
  rw [wG_run (by rfl) (by simp [ownIx])]
  unfold b_closure
  have n1 : (sheetF rows m).lookup ("needs" : Str) = none := rfl
  simp? only [n1]
  refine needs_wp rfl ?_
  simp? only [bk]
  obtain ⟨I, hI⟩ : ∃ I : Nat → M.Env → Prop, I = fun k r => ∃ (cl : Nd) (b : Bool) (s3 s4 : M.Slot), k = m.length - cl.length ∧ CloI m cl ∧ r = [some (false, sheetV rows m), some (b, enc m), some (true, encC cl), s3, s4, none, none] := ⟨_, rfl⟩
  refine wW_inv I ?_ _ (m.length - 0) _ (by omega) (by rw [hI]; exact ⟨[], true, none, none, rfl, ⟨.nil, by simp [keys], by simp⟩, rfl⟩)
  intro k r hh
  rw [hI] at hh
  obtain ⟨cl, b, s3, s4, rfl, hC, rfl⟩ := hh
  have hcl := hC.len hw
  simp? only [W6_closure, plenX_d, cl_len, en_len]
  by_cases hlt : cl.length < m.length
  · have hlt' : ((cl.length : Nat) : Int) < ((m.length : Nat) : Int) := by omega
    simp? only [hlt', decide_true, kTurnW_e1, L5_closure]
    obtain ⟨t, ht, htn, hta⟩ := clos_next hw h.ac hC hlt
    have go : ∀ {Q : SR → Prop} {s3 s4 : M.Slot}, (∀ cl2 s3 s4, CloI m cl2 → cl.length < cl2.length → Q (.nx [some (false, sheetV rows m), some (false, enc m), some (true, encC cl2), s3, s4, none, none])) →
        wL (tgT (tgCons (M.tgN 3) (tgCons (M.tgN 4) tgNil))) L4_closure (m.map prV) [some (false, sheetV rows m), some (false, enc m), some (true, encC cl), s3, s4, none, none] Q := by
      intro Q s3 s4 hQ
      obtain ⟨J, hJ⟩ : ∃ J : List Val → M.Env → Prop, J = fun vs r => ∃ (k : Nat) (cl2 : Nd) (s3 s4 : M.Slot), vs = (m.map prV).drop k ∧ k ≤ (m.map prV).length ∧ CloI m cl2 ∧ (∀ s ∈ keys cl, s ∈ keys cl2) ∧ (t.1 ∈ keys cl2 ∨ t ∈ m.drop k) ∧
          r = [some (false, sheetV rows m), some (false, enc m), some (true, encC cl2), s3, s4, none, none] := ⟨_, rfl⟩
      refine wL_inv J ?_ ?_ _ _ (by rw [hJ]; exact ⟨0, cl, s3, s4, rfl, by omega, hC, fun _ h => h, .inr (by simpa using ht), rfl⟩)
      · intro v vs r hh
        rw [hJ] at hh
        obtain ⟨k, cl2, s3, s4, e, hk, hC2, hsub, hor, rfl⟩ := hh
        obtain ⟨hk2, rfl, rfl⟩ := drop_step e
        rw [List.getElem_map]
        have hk3 : k < m.length := by simpa using hk2
        have hmem : m[k] ∈ m := List.getElem_mem hk3
        have hcl2 := hC2.len hw
        have hpl : (m[k]).2.length ≤ 60 := hw.ll _ hmem
        have hdrop : ∀ {cl3 : Nd}, (∀ s ∈ keys cl2, s ∈ keys cl3) → (m[k].1 ∈ keys cl3 ∨ ¬ (m[k].1 ∉ keys cl2 ∧ ∀ y ∈ m[k].2, y ∈ keys cl2)) → (t.1 ∈ keys cl3 ∨ t ∈ m.drop (k + 1)) := by
          intro cl3 hs hh
          rcases hor with z | z
          · exact .inl (hs _ z)
          · rw [List.drop_eq_getElem_cons hk3] at z
            rcases List.mem_cons.mp z with rfl | z
            · rcases hh with h1 | h1
              · exact .inl h1
              · refine .inl (hs _ ?_)
                refine Classical.byContradiction fun hc => h1 ⟨hc, fun y hy => hsub _ (hta y hy)⟩
            · exact .inr z
        simp? only [M.kT_e1, L4_closure, pnotin_cl]
        by_cases hin : m[k].1 ∈ keys cl2
        · simp? only [hin, decide_true]
          rw [hJ]
          exact ⟨k + 1, cl2, _, _, rfl, hk2, hC2, hsub, hdrop (fun _ h => h) (.inl hin), rfl⟩
        · simp? only [hin, decide_false]
          refine wC_map Val.str (fun y => .bl (decide (y ∈ keys cl2))) (fun _ => true) m[k].2 (fun y hy => ⟨_, rfl, rfl, rfl, fun _ => ?_⟩) (by omega) ?_
          · simp? only [E1_closure, pin_cl]
            exact ⟨_, _, rfl, rfl⟩
          rw [filter_yes]
          simp? only [pall_map]
          by_cases hall : (m[k].2.all fun y => decide (y ∈ keys cl2)) = true
          · have hall2 : ∀ y ∈ m[k].2, y ∈ keys cl2 := by simpa using hall
            simp? only [hall]
            refine wCL_set (u := .bl true) Val.str (fun o => o :: getN cl2 o) m[k].2 (fun x hx => ⟨_, rfl, rfl, ?_⟩) ?_ ?_
            · have hll := hC2.ll hw x
              have hl1 : (List.map Val.str (getN cl2 x)).length + 1 ≤ 100000 := by rw [List.length_map]; omega
              simp? only [pix_cl cl2 x (hall2 x hx), keysOf_td, hl1]
              exact ⟨_, rfl, rfl, fun z hz => ⟨_, false, rfl, rfl, rfl, ⟨false, rfl⟩, rfl⟩⟩
            · have := fm_len (fun o => o :: getN cl2 o) 61 m[k].2 fun x hx => by have := hC2.ll hw x; simp; omega
              omega
            · have hcl2' : cl2.length < 100000 := by omega
              simp? only [putIx_cl hin hcl2']
              rw [hJ]
              refine ⟨k + 1, _, _, _, rfl, hk2, clos_step hw hC2 hmem hin hall2, fun s hs => ?_, hdrop (fun s hs => ?_) (.inl ?_), rfl⟩
              · simp only [keys, List.map_append, List.mem_append]; exact .inl (hsub s hs)
              · simp only [keys, List.map_append, List.mem_append]; exact .inl hs
              · simp [keys]
          · have hall' : (m[k].2.all fun y => decide (y ∈ keys cl2)) = false := by simpa using hall
            simp? only [hall']
            rw [hJ]
            exact ⟨k + 1, cl2, _, _, rfl, hk2, hC2, hsub, hdrop (fun _ h => h) (.inr fun z => hall (by simpa using z.2)), rfl⟩
      · intro r hh
        rw [hJ] at hh
        obtain ⟨k, cl2, s3, s4, e, hk, hC2, hsub, hor, rfl⟩ := hh
        have hk2 := drop_end e hk
        rw [List.length_map] at hk2
        subst hk2
        have ht2 : t.1 ∈ keys cl2 := hor.resolve_right (by simp)
        refine hQ cl2 _ _ hC2 ?_
        have := nodup_len (l := t.1 :: keys cl) (r := keys cl2) (List.nodup_cons.mpr ⟨htn, hC.nd⟩) fun x hx => (List.mem_cons.mp hx).elim (fun z => by rw [z]; exact ht2) (hsub x)
        simp only [keys, List.length_cons, List.length_map] at this
        omega
    cases b
    all_goals
      simp? only [pairs_en]
      refine go fun cl2 s3 s4 hC2 hlt2 => ?_
      rw [kTurn, hI]
      exact ⟨m.length - cl2.length, by omega, cl2, _, _, _, rfl, hC2, rfl⟩
  · have hlt' : ¬ ((cl.length : Nat) : Int) < ((m.length : Nat) : Int) := by omega
    simp? only [hlt', decide_false, kTurnW_e2]
    refine q cl hC fun s hs => ?_
    refine Classical.byContradiction fun hc => ?_
    have := nodup_len (l := s :: keys cl) (r := keys m) (List.nodup_cons.mpr ⟨hc, hC.nd⟩) fun x hx => (List.mem_cons.mp hx).elim (fun z => by rw [z, h.ks]; exact hs) (hC.sub x)
    simp only [keys, List.length_cons, List.length_map] at this
    omega
end PN
namespace PN
open PySem L2 M 
theorem ord_ix {rows : List Str} {s : Str} (h : s ∈ rows) : Pix [.dct false (sd (ordL rows)), .str s] = some (false, .int (rows.idxOf s : Nat)) := by rw [pix_sd, ord_get h]; rfl
theorem f_order (rows : List Str) (m : Nd) : Pfld ["Sheet"] "order" [sheetV rows m] = some (false, .dct false (sd (ordL rows))) := rfl
theorem CloI.get {rows : List Str} {m cl : Nd} (hC : CloI m cl) {a y : Str} (h : a ∈ keys cl) : y ∈ getN cl a ↔ Dep m a y := (hC.ok _ (getN_key h)).2 y
theorem CloI.dec {m cl : Nd} (hC : CloI m cl) {a y : Str} (h : a ∈ keys cl) : decide (y ∈ getN cl a) = depB m a y := depB_eq (by rw [decide_eq_true_iff]; exact (hC.ok _ (getN_key h)).2 y)
/-- a chain of needs: from a on, each needs the next one -/
structure Chn (m : Nd) (l : List Str) (a b : Str) : Prop where
  hd : l.head? = some a
  la : l.getLast? = some b
  nx : ∀ i, i + 1 < l.length → l.getD (i + 1) default ∈ getN m (l.getD i default)
end PN
namespace PN
open PySem L2 M 
theorem Sh.raw {rows : List Str} {m : Nd} (h : Sh rows m) {rows' : List Str} (hs : ∀ s ∈ rows, s ∈ rows') : Raw rows' m := by
  have e := h.ks
  exact ⟨by rw [e]; exact h.nd, by rw [e]; exact hs, fun p hp => ⟨(h.vl p hp).1, fun y hy => hs y ((h.vl p hp).2 y hy)⟩⟩
theorem Rows.perm {rows rows' : List Str} (h : Rows rows) (p : rows'.Perm rows) : Rows rows' := ⟨p.nodup_iff.mpr h.nd, fun s hs => h.nm s (p.subset hs), by rw [p.length_eq]; exact h.len⟩
end PN
namespace PN
open PySem L2 M 
end PN
namespace PN
open PySem L2 M 
end PN
namespace PN
open PySem L2 M 
end PN
namespace PR
open PySem L2 M PN

end PR
namespace PR
open PySem L2 M PN
theorem pne_same (x : Str) : PneX [.str x, .str x] = some (false, .bl false) := by rw [pneT]; simp
theorem peq_same (x : Str) : PeqX [.str x, .str x] = some (false, .bl true) := by rw [peqT]; simp
/-- a value that is shown in little room -/
structure Lit (v : Val) : Prop where
  ty : (tyOf v).isSome = true
  sh : ∃ d, Shw v d 1000 5
theorem Lit.one {v : Val} (h : Lit v) : ∃ z, PreprX [.lst [v]] = some (false, .str z) := by
  obtain ⟨d, hd⟩ := h.sh
  exact ⟨_, repr_shw (shw_lst (shl_cons hd shl_nil)) rfl (by omega) (by omega)⟩
theorem Lit.pair {v : Val} {s : Str} (h : Lit v) (hs : CpOk s) (hl : s.length ≤ 20) : ∃ z, PreprX [.tup [.str s, v]] = some (false, .str z) := by
  obtain ⟨d, hd⟩ := h.sh
  exact ⟨_, repr_shw (shw_tup (shl_cons ((shw_str hs).mono (n' := 1000) (k' := 5) (by omega) (by omega)) (shl_cons hd shl_nil))) rfl (by omega) (by omega)⟩
theorem Lit.three {v : Val} {s : Str} {b : Bool} (h : Lit v) (hs : CpOk s) (hl : s.length ≤ 20) : ∃ z, PreprX [.tup [.str s, v, .bl b]] = some (false, .str z) := by
  obtain ⟨d, hd⟩ := h.sh
  exact ⟨_, repr_shw (shw_tup (shl_cons ((shw_str hs).mono (n' := 1000) (k' := 5) (by omega) (by omega)) (shl_cons hd (shl_cons ((shw_bl b).mono (n' := 1000) (k' := 5) (by omega) (by omega)) shl_nil)))) rfl (by omega) (by omega)⟩
end PR
namespace PR
open PySem L2 M PN
theorem cp_of (s : String) : CpOk (Str.ofString s) := by
  intro c hc
  have : ∀ l : List Char, ∀ c ∈ l.map Char.toNat, c < 0x110000 := fun l c hc => by
    obtain ⟨x, _, rfl⟩ := List.mem_map.mp hc
    have := x.valid
    rcases this with h | h <;> (show x.val.toNat < _; omega)
  rw [Str.ofString_eq_toList] at hc
  exact this s.toList c (by simpa using hc)
theorem cp_app {a b : Str} (ha : CpOk a) (hb : CpOk b) : CpOk (a ++ b) := by
  intro c hc
  have e : (a ++ b).cps.toList = a.cps.toList ++ b.cps.toList := by
    show (a.cps ++ b.cps).toList = _
    simp
  rw [e] at hc
  exact (List.mem_append.mp hc).elim (ha c) (hb c)
theorem cp_char (q c : Nat) (hq : q < 0x110000) (hc : c < 0x110000) : ∀ d ∈ PySem.Builtin.Str.reprChar q c, d < 0x110000 := by
  have hx : ∀ w : Nat, ∀ d ∈ List.replicate (w - ((Nat.toDigits 16 c).map Char.toNat).length) 48 ++ (Nat.toDigits 16 c).map Char.toNat, d < 0x110000 := fun w d hd => by
    rcases List.mem_append.mp hd with h | h
    · rw [(List.mem_replicate.mp h).2]; decide
    · obtain ⟨x, _, rfl⟩ := List.mem_map.mp h
      have := x.valid
      rcases this with h | h <;> (show x.val.toNat < _; omega)
  intro d hd
  unfold PySem.Builtin.Str.reprChar at hd
  dsimp only at hd
  repeat' split at hd
  all_goals simp only [List.mem_cons, List.mem_append, List.not_mem_nil, or_false] at hd
  all_goals first
    | (rcases hd with h | h <;> omega)
    | omega
    | (rcases hd with (h | h) | h; omega; omega; exact hx _ d (List.mem_append.mpr h))
    | (rcases hd with h | h | h; omega; omega; exact hx _ d (List.mem_append.mpr h))
theorem cp_fold (q : Nat) (hq : q < 0x110000) : ∀ (l : List Nat) (acc : Array Nat), (∀ c ∈ l, c < 0x110000) → (∀ c ∈ acc.toList, c < 0x110000) → ∀ c ∈ (l.foldl (fun out c => out ++ (PySem.Builtin.Str.reprChar q c).toArray) acc).toList, c < 0x110000
  | [], _, _, h => h
  | c :: r, acc, hl, h => cp_fold q hq r _ (fun d hd => hl d (List.mem_cons_of_mem _ hd)) fun d hd => by
    rw [Array.toList_append] at hd
    rcases List.mem_append.mp hd with z | z
    · exact h d z
    · exact cp_char q c hq (hl c (by simp)) d (by simpa using z)
theorem cp_text {x : Str} (h : CpOk x) : CpOk (reprText x) := by
  have hq : reprQuote x < 0x110000 := by unfold reprQuote; split <;> decide
  intro c hc
  unfold reprText at hc
  have hc : c ∈ ((x.cps.foldl (fun out c => out ++ (PySem.Builtin.Str.reprChar (reprQuote x) c).toArray) #[reprQuote x]).push (reprQuote x)).toList := hc
  rw [Array.toList_push, ← Array.foldl_toList] at hc
  rcases List.mem_append.mp hc with z | z
  · exact cp_fold _ hq x.cps.toList _ h (fun d hd => by simp at hd; rw [hd]; exact hq) c z
  · rw [List.mem_singleton.mp z]; exact hq
theorem cp_join {sep : Str} (hs : CpOk sep) : ∀ ts : List Str, (∀ t ∈ ts, CpOk t) → CpOk (Str.join sep ts)
  | [], _ => cp_of ""
  | [t], h => h t (by simp)
  | t :: u :: r, h => cp_app (cp_app (h t (by simp)) hs) (cp_join hs (u :: r) fun y hy => h y (List.mem_cons_of_mem _ hy))
theorem cp_from : ∀ (ts : List Str) (k : Nat) (acc : Str), CpOk acc → (∀ t ∈ ts, CpOk t) → CpOk (textFrom k acc ts)
  | [], _, _, h, _ => h
  | t :: ts, k, acc, h, ht => cp_from ts (k + 1) _ (cp_app (cp_app h (by split <;> exact cp_of _)) (ht t (by simp))) fun y hy => ht y (List.mem_cons_of_mem _ hy)
mutual
theorem cp_shown : ∀ d : PyData, txOk d = true → CpOk d.shown
  | .none, _ => cp_of _
  | .bool b, _ => by
    simp only [PyData.shown]
    split <;> exact cp_of _
  | .int i, _ => by simp only [PyData.shown]; exact cp_of _
  | .str x, h => by simp only [PyData.shown]; exact cp_text (strOk_iff.mp (by simpa [txOk] using h))
  | .list xs, h => by
    simp only [PyData.shown]
    exact cp_app (cp_from _ _ _ (cp_of _) (cp_shownAll xs (by simpa [txOk] using h))) (cp_of _)
  | .tuple xs, h => by
    simp only [PyData.shown]
    exact cp_app (cp_app (cp_of _) (cp_join (cp_of _) _ (cp_shownAll xs (by simpa [txOk] using h)))) (by split <;> exact cp_of _)
  | .dict kvs, h => by
    simp only [PyData.shown]
    exact cp_app (cp_app (cp_of _) (cp_join (cp_of _) _ (cp_shownKv kvs (by simpa [txOk] using h)))) (cp_of _)
theorem cp_shownAll : ∀ xs : List PyData, txOks xs = true → ∀ t ∈ PyData.shownAll xs, CpOk t
  | [], _ => by simp [PyData.shownAll]
  | x :: xs, h => by
    simp only [txOks, Bool.and_eq_true] at h
    intro t ht
    simp only [PyData.shownAll, List.mem_cons] at ht
    rcases ht with rfl | ht
    · exact cp_shown x h.1
    · exact cp_shownAll xs h.2 t ht
theorem cp_shownKv : ∀ kvs : List (PyData × PyData), txOkk kvs = true → ∀ t ∈ PyData.shownKv kvs, CpOk t
  | [], _ => by simp [PyData.shownKv]
  | (k, v) :: r, h => by
    simp only [txOkk, Bool.and_eq_true] at h
    intro t ht
    simp only [PyData.shownKv, List.mem_cons] at ht
    rcases ht with rfl | ht
    · exact cp_app (cp_app (cp_shown k h.1.1) (cp_of _)) (cp_shown v h.1.2)
    · exact cp_shownKv r h.2 t ht
end
/-- a value that is no integer from one number to another one -/
def notB (v : Val) (l h : Int) : Prop := (tyOf v).isSome = true ∧ ∀ i, v = .int i → ¬ (l ≤ i ∧ i ≤ h)
end PR
namespace PQ
open PySem L2 M PN PR
end PQ
namespace PQ
open PySem L2 M PN PR
abbrev manyX (n : Int) : Val := .exc "TooMany" [("limit", .int n)]
end PQ
namespace PT
open PySem L2 M PN PR
def b_place_in : SF := (seq (asgT (tgT (tgCons (tgN 2) (tgCons (tgN 3) tgNil))) (var 1))
    (ret (tup (asCons (var 3) (asCons (bin Pix (oS 0) (oS 2)) asNil)))))
def g_place_in : GF := runDef [0, 1] 2 4 b_place_in
def b_is_bar : SF := (seq (ifS (andB (tst (bin PneX (oV (bin Pix (oS 2) (oV (cst (.int 0))))) (oV (bin Pix (oS 3) (oV (cst (.int 0))))))) (tst (bin PnotInX (oV (bin Pix (oS 2) (oV (cst (.int 0))))) (oV (bin Pix (oS 1) (oV (bin Pix (oS 3) (oV (cst (.int 0)))))))))) (ret (cst (.bl false))) skip)
    (ret (bin PgtX (oV (callG 2 g_place_in (osCons (oV (var 0)) (osCons (oV (var 2)) osNil)))) (oV (callG 2 g_place_in (osCons (oV (var 0)) (osCons (oV (var 3)) osNil)))))))
def g_is_bar : GF := runDef [0, 1, 2, 3] 4 4 b_is_bar
end PT
namespace PT
open PySem L2 M PN PR
abbrev Cp := Str × Int
abbrev cpV (c : Cp) : Val := .tup [.str c.1, .int c.2]
noncomputable def barB (rows : List Str) (m : Nd) (a b : Cp) : Bool := (decide (a.1 = b.1) || depB m b.1 a.1) && gtP a.2 (rows.idxOf a.1 : Nat) b.2 (rows.idxOf b.1 : Nat)
theorem cp0 (c : Cp) : Pix [cpV c, .int 0] = some (false, .str c.1) := by simp [Pix, atI, ixN]
theorem cp1 (c : Cp) : Pix [cpV c, .int 1] = some (false, .int c.2) := by simp [Pix, atI, ixN]
theorem place_in_wp {rows : List Str} {c : Cp} {K : GR → Prop} (h : c.1 ∈ rows) (q : K (.ok false (.tup [.int c.2, .int (rows.idxOf c.1 : Nat)]) none)) : wG g_place_in [(false, .dct false (sd (ordL rows))), (false, cpV c)] K := by
  unfold g_place_in
  rw [wG_run (by rfl) (by simp [ownIx])]
  unfold b_place_in
  simp? only [ord_ix h]
  exact q
theorem is_bar_wp {rows : List Str} {m cl : Nd} {a b : Cp} {K : GR → Prop} (hC : CloI m cl) (ha : a.1 ∈ rows) (hb : b.1 ∈ rows) (hk : b.1 ∈ keys cl) (q : K (.ok false (.bl (barB rows m a b)) none)) :
    wG g_is_bar [(false, .dct false (sd (ordL rows))), (false, encC cl), (false, cpV a), (false, cpV b)] K := by
  unfold g_is_bar
  rw [wG_run (by rfl) (by simp [ownIx])]
  unfold b_is_bar
  unfold barB at q
  by_cases e : a.1 = b.1
  · simp only [e, decide_true, Bool.true_or, Bool.true_and] at q
    simp? only [cp0, pneT, e, decide_true]
    refine place_in_wp ha ?_
    simp? only []
    refine place_in_wp hb ?_
    simp? only [pgtx_tup, e]
    exact q
  · simp only [e, decide_false, Bool.false_or] at q
    by_cases d : depB m b.1 a.1 = true
    · simp only [d, Bool.true_and] at q
      simp? only [cp0, pneT, e, decide_false, pix_cl cl b.1 hk, pnotin_td, hC.dec hk, d]
      refine place_in_wp ha ?_
      simp? only []
      refine place_in_wp hb ?_
      simp? only [pgtx_tup]
      exact q
    · have d : depB m b.1 a.1 = false := by simpa using d
      simp only [d, Bool.false_and] at q
      simp? only [cp0, pneT, e, decide_false, pix_cl cl b.1 hk, pnotin_td, hC.dec hk, d]
      exact q
abbrev manyX (n : Int) : Val := .exc "TooMany" [("limit", .int n)]
end PT
namespace PT
open PySem L2 M PN PR
theorem eqv_cp (d c : Cp) : PyData.eqv (.tuple [.str d.1, .int d.2]) (.tuple [.str c.1, .int c.2]) = decide (c = d) := by
  by_cases h : c = d
  · subst h; simp [PyData.eqv, PyData.eqvAll]
  · have : ¬ (d.1 = c.1 ∧ d.2 = c.2) := fun z => h (Prod.ext z.1.symm z.2.symm)
    simp [PyData.eqv, PyData.eqvAll, h]
    exact fun a b => this ⟨a, b⟩
theorem any_cps (c : Cp) : ∀ cs : List Cp, (cs.map fun c : Cp => PyData.tuple [.str c.1, .int c.2]).any (fun z => PyData.eqv z (.tuple [.str c.1, .int c.2])) = decide (c ∈ cs)
  | [] => rfl
  | d :: ds => by
    rw [List.map_cons, List.any_cons, any_cps c ds, eqv_cp, ← Bool.decide_or]
    exact decide_eq_decide.mpr List.mem_cons.symm
/-- copies of a sheet for so many passes, each once -/
structure Cps (rows : List Str) (n : Int) (cs : List Cp) : Prop where
  nd : cs.Nodup
  ok : ∀ c ∈ cs, c.1 ∈ rows ∧ 1 ≤ c.2 ∧ c.2 ≤ n
end PT
namespace PT
open PySem L2 M PN PR
abbrev cpD (c : Cp) : PyData := .tuple [.str c.1, .int c.2]
theorem toDs_cps : ∀ cs : List Cp, toDs (cs.map cpV) = some (cs.map cpD)
  | [] => rfl
  | t :: cs => by rw [List.map_cons, toDs, toDs_cps cs]; rfl
end PT
namespace PT
open PySem L2 M PN PR
/-- copies of which none bars another one -/
structure Kp (rows : List Str) (m : Nd) (n : Int) (cs : List Cp) : Prop extends Cps rows n cs where
  nb : ∀ a ∈ cs, ∀ b ∈ cs, barB rows m a b = false
theorem barB_row {rows : List Str} {m : Nd} {a b : Cp} (h : a.1 = b.1) : barB rows m a b = decide (b.2 < a.2) := by
  unfold barB gtP
  rw [h]
  simp
theorem Kp.nm {rows : List Str} {m : Nd} {n : Int} {cs : List Cp} (h : Kp rows m n cs) : (cs.map (·.1)).Nodup := by
  have key : cs.Pairwise fun a b => a.1 ≠ b.1 := by
    have := h.nd
    rw [List.nodup_iff_pairwise_ne] at this
    refine this.imp_of_mem fun {a b} ha hb hne e => ?_
    have h1 := h.nb a ha b hb
    have h2 := h.nb b hb a ha
    rw [barB_row e, decide_eq_false_iff_not] at h1
    rw [barB_row e.symm, decide_eq_false_iff_not] at h2
    exact hne (Prod.ext e (by omega))
  rw [List.nodup_iff_pairwise_ne, List.pairwise_map]
  exact key
end PT
namespace PT
open PySem L2 M PN PR
end PT
namespace PT
open PySem L2 M PN PR
end PT
namespace K21
open PySem L2 M PN PR PQ PT
def b__law_pen : SF := (ret (lst (asCons (prim Plist (osCons (oV (slc (oS 0) pNo (pInt (cst (.int 63))))) osNil)) (asCons (cst (.int 0)) (asCons (cst (.int 0)) asNil)))))
def g__law_pen : GF := runDef [0] 1 1 b__law_pen
def b__law_draw : SF := (seq (ifS (tst (bin Pgt (oV (bin Pix (oS 0) (oV (cst (.int 2))))) (oV (cst (.int 0))))) (seq (asg 5 (bin Pmod (oV (bin Pix (oS 0) (oV (cst (.int 2))))) (oS 1)))
    (seq (setIx 0 (cst (.int 2)) (bin Pdiv (oV (bin Pix (oS 0) (oV (cst (.int 2))))) (oS 1)))
    (ret (mv 5)))) skip)
    (seq (asg 2 (bin Pix (oS 0) (oV (cst (.int 1)))))
    (seq (setIx 0 (cst (.int 1)) (bin Padd (oS 2) (oV (cst (.int 1)))))
    (seq (asg 3 (frz (bin Padd (oV (bin Pmul (oV (cst (.int 150188))) (oS 2))) (oV (cst (.int 4388))))))
    (seq (ifS (tst (bin PneX (oV (bin Pix (oS 0) (oV (cst (.int 0))))) (oV (lst asNil)))) (asg 3 (bin Pix (oV (bin Pix (oS 0) (oV (cst (.int 0))))) (oV (bin Pmod (oS 2) (oV (prim Plen (osCons (oV (bin Pix (oS 0) (oV (cst (.int 0))))) osNil))))))) skip)
    (seq (ifS (andB (tst (bin Plt (oS 2) (oV (prim Plen (osCons (oV (bin Pix (oS 0) (oV (cst (.int 0))))) osNil))))) (tst (bin Pge (oV (prim Pabs (osCons (oS 3) osNil))) (oV (bin Ppow (oV (cst (.int 10))) (oV (cst (.int 18)))))))) (seq (asg 6 (frz (bin Padd (oV (bin Pmul (oV (cst (.int 2))) (oV (prim Pabs (osCons (oS 3) osNil))))) (oV (prim Pint (osCons (oV (bin Plt (oS 3) (oV (cst (.int 0))))) osNil))))))
    (seq (setIx 0 (cst (.int 2)) (bin Pdiv (oS 6) (oS 1)))
    (ret (bin Pmod (oS 6) (oS 1))))) skip)
    (seq (asg 4 (frz (bin Pmod (oV (bin Ppow (oV (bin Padd (oV (bin Padd (oV (bin Pmod (oS 3) (oV (cst (.int 2147483399))))) (oV (bin Pmul (oV (cst (.int 614162))) (oS 2))))) (oV (cst (.int 1838))))) (oV (cst (.int 5))))) (oV (cst (.int 2147483587))))))
    (seq (asg 4 (frz (bin Pmod (oV (bin Ppow (oV (bin Padd (oV (bin Pmul (oS 4) (oV (bin Padd (oS 2) (oV (cst (.int 59762))))))) (oV (bin Pmul (oV (bin Pmul (oV (cst (.int 83678))) (oS 2))) (oS 2))))) (oV (cst (.int 3))))) (oV (cst (.int 2147483543))))))
    (ret (bin Pmod (oV (bin Pdiv (oS 4) (oV (cst (.int 32))))) (oS 1)))))))))))
def g__law_draw : GF := runDef [0, 1] 2 7 b__law_draw
def E1__law_names : EF := (bin Pmul (oV (bin Pix (oS 2) (oV (bin Pmod (oS 4) (oV (cst (.int 26))))))) (oV (bin Padd (oV (cst (.int 1))) (oV (bin Pdiv (oS 4) (oV (cst (.int 26))))))))
def E2__law_names : EF := (mutE "list" 3 MpopAt (asCons (callG 2 g__law_draw (osCons (oS 0) (osCons (oV (frz (prim Plen (osCons (oS 3) osNil)))) osNil))) asNil))
def b__law_names : SF := (seq (asg 2 (cst (.str "abcdefghijklmnopqrstuvwxyz")))
    (seq (asg 3 (lc (itR rng1 (asCons (cst (.int 52)) asNil)) (tgN 4) yesB E1__law_names [4]))
    (seq (asg 3 (bin Padd (oS 3) (oV (lst (asCons (cst (.str "if")) (asCons (cst (.str "self")) (asCons (cst (.str "move")) (asCons (cst (.str "load")) (asCons (cst (.str "rows")) (asCons (cst (.str "abcdefgh")) (asCons (cst (.str "abcdefgi")) (asCons (cst (.str "zzzzzzzz")) asNil))))))))))))
    (seq (ifS (tst (bin Pgt (oV (callG 2 g__law_draw (osCons (oS 0) (osCons (oV (cst (.int 3))) osNil)))) (oV (cst (.int 0))))) (asg 3 (slc (oS 3) pNo (pInt (var 1)))) skip)
    (ret (lc (itR rng1 (asCons (var 1) asNil)) (tgN 4) yesB E2__law_names [4]))))))
def g__law_names : GF := runDef [0, 1] 2 5 b__law_names
def E1__law_needs : EF := (mutE "list" 2 MpopAt (asCons (callG 2 g__law_draw (osCons (oS 0) (osCons (oV (frz (prim Plen (osCons (oS 2) osNil)))) osNil))) asNil))
def E2__law_needs : EF := (var 9)
def F3__law_needs : BF := (tst (bin PeqX (oV (callG 2 g__law_draw (osCons (oS 0) (osCons (oV (bin Pix (oV (lst (asCons (cst (.int 2)) (asCons (cst (.int 4)) asNil)))) (oV (bin Psub (oS 4) (oV (cst (.int 3))))))) osNil)))) (oV (cst (.int 0)))))
def E4__law_needs : EF := (var 9)
def F5__law_needs : BF := (tst (bin PeqX (oV (callG 2 g__law_draw (osCons (oS 0) (osCons (oV (bin Padd (oS 6) (oV (cst (.int 1))))) osNil)))) (oV (cst (.int 0)))))
def L6__law_needs : SF := (seq (asg 8 (frz (slc (oS 3) pNo (pInt (var 6)))))
    (seq (ifS (tst (bin PeqX (oS 4) (oV (cst (.int 0))))) (asg 8 (frz (lst asNil))) skip)
    (seq (ifS (tst (bin PeqX (oS 4) (oV (cst (.int 1))))) (asg 8 (frz (ite (tst (bin Pgt (oS 6) (oV (cst (.int 0))))) (slc (oS 3) (pInt (bin Psub (oS 6) (oV (cst (.int 1))))) (pInt (var 6))) (lst asNil)))) skip)
    (seq (ifS (tst (bin Pgt (oS 4) (oV (cst (.int 2))))) (asg 8 (lc (itV (slc (oS 3) pNo (pInt (var 6)))) (tgN 9) F3__law_needs E2__law_needs [9])) skip)
    (seq (ifS (tst (bin PeqX (oS 4) (oV (cst (.int 2))))) (asg 8 (lc (itV (slc (oS 3) pNo (pInt (var 6)))) (tgN 9) F5__law_needs E4__law_needs [9])) skip)
    (setIx 5 (var 7) (prim Ptuple (osCons (oV (slc (oV (prim PsortedX (osCons (oS 8) osNil))) pNo (pInt (cst (.int 25))))) osNil))))))))
def b__law_needs : SF := (seq (asg 2 (prim Plist (osCons (oS 1) osNil)))
    (seq (asg 3 (lc (itV (var 1)) (tgN 7) yesB E1__law_needs [7]))
    (seq (asg 4 (frz (callG 2 g__law_draw (osCons (oS 0) (osCons (oV (cst (.int 5))) osNil)))))
    (seq (asg 5 (dNew false))
    (seq (forS (itE (var 3)) (tgT (tgCons (tgN 6) (tgCons (tgN 7) tgNil))) L6__law_needs)
    (ret (mv 5)))))))
def g__law_needs : GF := runDef [0, 1] 2 10 b__law_needs
def L1__law_below : SF := (seq (asg 5 (frz (mutE "list" 4 Mpop asNil)))
    (ifS (tst (bin PnotInX (oS 5) (oS 3))) (seq (drop (mutE "list" 3 Mappend (asCons (var 5) asNil)))
    (drop (mutE "list" 4 Mextend (asCons (prim Plist (osCons (oV (bin Pix (oS 0) (oS 5))) osNil)) asNil)))) skip))
def W2__law_below : BF := (tst (bin PneX (oS 4) (oV (lst asNil))))
def L3__law_below : SF := (seq (asg 3 (lst asNil))
    (seq (asg 4 (prim Plist (osCons (oV (bin Pix (oS 0) (oS 2))) osNil)))
    (seq (whl W2__law_below L1__law_below 1000)
    (setIx 1 (var 2) (var 3)))))
def b__law_below : SF := (seq (asg 1 (dNew false))
    (seq (forS (itV (var 0)) (tgN 2) L3__law_below)
    (ret (mv 1))))
def g__law_below : GF := runDef [0] 1 6 b__law_below
def b__law_copy : SF := (seq (asg 2 (bin Pix (oV (lst (asCons (cst (.int 1)) (asCons (cst (.int 2)) (asCons (bin Padd (oV (cst (.int 1))) (oV (callG 2 g__law_draw (osCons (oS 0) (osCons (oV (cst (.int 3))) osNil))))) (asCons (bin Padd (oV (cst (.int 1))) (oV (callG 2 g__law_draw (osCons (oS 0) (osCons (oV (cst (.int 60))) osNil))))) asNil)))))) (oV (callG 2 g__law_draw (osCons (oS 0) (osCons (oV (cst (.int 4))) osNil))))))
    (ret (tup (asCons (bin Pix (oS 1) (oV (callG 2 g__law_draw (osCons (oS 0) (osCons (oV (frz (prim Plen (osCons (oS 1) osNil)))) osNil))))) (asCons (var 2) asNil)))))
def g__law_copy : GF := runDef [0, 1] 2 3 b__law_copy
def b_place_of : SF := (ret (callG 2 g_place_in (osCons (oV (prim (Pfld ["Sheet"] "order") (osCons (oS 0) osNil))) (osCons (oV (var 1)) osNil))))
def g_place_of : GF := runDef [0, 1] 2 2 b_place_of
def b_bars : SF := (ret (callG 4 g_is_bar (osCons (oV (prim (Pfld ["Sheet"] "order") (osCons (oS 0) osNil))) (osCons (oV (frz (callG 1 g_closure (osCons (oV (var 0)) osNil)))) (osCons (oV (var 1)) (osCons (oV (var 2)) osNil))))))
def g_bars : GF := runDef [0, 1, 2] 3 3 b_bars
def b__law_bars : SF := (seq (ifS (andB (tst (bin PneX (oV (bin Pix (oS 2) (oV (cst (.int 0))))) (oV (bin Pix (oS 3) (oV (cst (.int 0))))))) (tst (bin PnotInX (oV (bin Pix (oS 2) (oV (cst (.int 0))))) (oV (bin Pix (oS 1) (oV (bin Pix (oS 3) (oV (cst (.int 0)))))))))) (ret (cst (.bl false))) skip)
    (seq (ifS (tst (bin PneX (oV (bin Pix (oS 2) (oV (cst (.int 1))))) (oV (bin Pix (oS 3) (oV (cst (.int 1))))))) (ret (bin Pgt (oV (bin Pix (oS 2) (oV (cst (.int 1))))) (oV (bin Pix (oS 3) (oV (cst (.int 1))))))) skip)
    (ret (bin Pgt (oV (prim Pindex (osCons (oTy "list" (oS 0)) (osCons (oV (bin Pix (oS 2) (oV (cst (.int 0))))) osNil)))) (oV (prim Pindex (osCons (oTy "list" (oS 0)) (osCons (oV (bin Pix (oS 3) (oV (cst (.int 0))))) osNil))))))))
def g__law_bars : GF := runDef [0, 1, 2, 3] 4 4 b__law_bars
def E1__law_order_right : EF := (var 5)
def F2__law_order_right : BF := (tst (bin PixZ (oS 2) (oV (tup (asCons (var 3) (asCons (var 5) asNil))))))
def E3__law_order_right : EF := (var 5)
def F4__law_order_right : BF := (tst (bin PixZ (oS 2) (oV (tup (asCons (var 5) (asCons (var 3) asNil))))))
def E5__law_order_right : EF := (var 6)
def F6__law_order_right : BF := (andB (tst (bin PixZ (oS 2) (oV (tup (asCons (var 5) (asCons (var 6) asNil)))))) (notB (tst (bin PixZ (oS 2) (oV (tup (asCons (var 3) (asCons (var 6) asNil))))))))
def L7__law_order_right : SF := (ifS (tst (bin PneX (oV (lc (itV (var 1)) (tgN 6) F6__law_order_right E5__law_order_right [6])) (oV (lst asNil)))) (ret (cst (.bl false))) skip)
def L8__law_order_right : SF := (seq (asg 4 (lc (itV (var 1)) (tgN 5) F2__law_order_right E1__law_order_right [5]))
    (seq (ifS (orB (tst (bin PinX (oS 3) (oS 4))) (tst (bin PneX (oV (lc (itV (var 4)) (tgN 5) F4__law_order_right E3__law_order_right [5])) (oV (lst asNil))))) (ret (cst (.bl false))) skip)
    (forS (itV (var 4)) (tgN 5) L7__law_order_right)))
def b__law_order_right : SF := (seq (forS (itV (var 1)) (tgN 3) L8__law_order_right)
    (ret (bin PeqX (oV (prim PreprX (osCons (oV (callG 3 g_bars (osPick [2, 1, 0] (osN 3 (osCons (oV (bin Pix (oS 1) (oV (cst (.int 1))))) (osCons (oV (bin Pix (oS 1) (oV (cst (.int 0))))) (osCons (oV (var 0)) osNil))))))) osNil))) (oV (prim PreprX (osCons (oV (bin PixZ (oS 2) (oV (tup (asCons (bin Pix (oS 1) (oV (cst (.int 0)))) (asCons (bin Pix (oS 1) (oV (cst (.int 1)))) asNil)))))) osNil))))))
def g__law_order_right : GF := runDef [0, 1, 2] 3 7 b__law_order_right
def E1_law : EF := (callG 2 g__law_copy (osCons (oS 1) (osCons (oV (var 3)) osNil)))
def L2_law : SF := (seq (asg 12 (frz (prim PreprX (osCons (oV (tup (asCons (var 11) (asCons (prim Pindex (osCons (oTy "list" (oS 3)) (osCons (oS 10) osNil))) asNil)))) osNil))))
    (ifS (orB (tst (bin PneX (oV (prim PreprX (osCons (oV (callG 2 g_place_of (osCons (oV (var 6)) (osCons (oV (tup (asCons (var 10) (asCons (var 11) asNil)))) osNil)))) osNil))) (oS 12))) (tst (bin PneX (oV (prim PreprX (osCons (oV (callG 2 g_place_of (osPick [1, 0] (osN 2 (osCons (oV (tup (asCons (var 10) (asCons (var 11) asNil)))) (osCons (oV (var 6)) osNil)))))) osNil))) (oS 12)))) (ret (cst (.bl false))) skip))
def L3_law : SF := (seq (setIxT 8 (tup (asCons (var 9) (asCons (var 13) asNil))) (callG 3 g_bars (osCons (oV (var 6)) (osCons (oV (var 9)) (osCons (oV (var 13)) osNil)))))
    (ifS (tst (bin PneX (oV (prim PreprX (osCons (oV (bin PixZ (oS 8) (oV (tup (asCons (var 9) (asCons (var 13) asNil)))))) osNil))) (oV (prim PreprX (osCons (oV (callG 4 g__law_bars (osCons (oV (var 3)) (osCons (oV (var 5)) (osCons (oV (var 9)) (osCons (oV (var 13)) osNil)))))) osNil))))) (ret (cst (.bl false))) skip))
def L4_law : SF := (forS (itV (var 7)) (tgN 13) L3_law)
def L5_law : SF := (seq (asg 3 (frz (callG 2 g__law_names (osCons (oS 1) (osCons (oV (frz (bin Padd (oV (cst (.int 1))) (oV (bin Pix (oV (lst (asCons (callG 2 g__law_draw (osCons (oS 1) (osCons (oV (cst (.int 6))) osNil))) (asCons (callG 2 g__law_draw (osCons (oS 1) (osCons (oV (cst (.int 12))) osNil))) asNil)))) (oV (callG 2 g__law_draw (osCons (oS 1) (osCons (oV (cst (.int 2))) osNil))))))))) osNil)))))
    (seq (asg 4 (frz (callG 2 g__law_needs (osCons (oS 1) (osCons (oV (var 3)) osNil)))))
    (seq (asg 5 (frz (callG 1 g__law_below (osCons (oV (var 4)) osNil))))
    (seq (asg 6 (frz (callG 3 g_C_Sheet_of (osCons (oV (cst (.cls "Sheet"))) (osCons (oV (frz (prim Ptuple (osCons (oS 3) osNil)))) (osCons (oV (var 4)) osNil))))))
    (seq (asg 7 (lc (itR rng1 (asCons (cst (.int 8)) asNil)) (tgN 14) yesB E1_law [14]))
    (seq (forS (itV (var 7)) (tgT (tgCons (tgN 10) (tgCons (tgN 11) tgNil))) L2_law)
    (seq (asg 8 (dNew true))
    (seq (forS (itV (var 7)) (tgN 9) L4_law)
    (ifS (notB (tst (callG 3 g__law_order_right (osCons (oV (var 6)) (osCons (oV (var 7)) (osCons (oS 8) osNil)))))) (ret (cst (.bl false))) skip)))))))))
def b_law : SF := (seq (asg 1 (callG 1 g__law_pen (osCons (oV (var 0)) osNil)))
    (seq (forS (itR rng1 (asCons (cst (.int 4)) asNil)) (tgN 2) L5_law)
    (ret (cst (.bl true)))))
def g_law : GF := runDef [0] 1 15 b_law
end K21
namespace K21
open PySem L2 M PN PR PQ PT
abbrev pen (cs : List Int) (t r : Int) : Val := .lst [.lst (cs.map .int), .int t, .int r]
theorem pn0 (cs : List Int) (t r : Int) : Pix [pen cs t r, .int 0] = some (false, .lst (cs.map .int)) := by simp [Pix, atI, ixN]
theorem pn1 (cs : List Int) (t r : Int) : Pix [pen cs t r, .int 1] = some (false, .int t) := by simp [Pix, atI, ixN]
theorem pn2 (cs : List Int) (t r : Int) : Pix [pen cs t r, .int 2] = some (false, .int r) := by simp [Pix, atI, ixN]
theorem pu1 (cs : List Int) (t r e : Int) : putIx (pen cs t r) (.int 1) (.int e) = some (pen cs e r) := by simp [putIx, ixN]
theorem pu2 (cs : List Int) (t r e : Int) : putIx (pen cs t r) (.int 2) (.int e) = some (pen cs t e) := by simp [putIx, ixN]
theorem pneX_nil (cs : List Int) : PneX [.lst (cs.map .int), .lst []] = some (false, .bl (decide (cs ≠ []))) := by
  have := pne_nil cs
  simp [PneX, orP, PneS, this]
def mixed (c t : Int) : Int := ((c % 2147483399 + 614162 * t + 1838) ^ 5 % 2147483587 * (t + 59762) + 83678 * t * t) ^ 3 % 2147483543
def cell (cs : List Int) (t : Int) : Option Int := if cs = [] then some (150188 * t + 4388) else match Pix [.lst (cs.map .int), .int (t % (cs.length : Int))] with
  | some (false, .int c) => some c
  | _ => none
theorem cell_some (cs : List Int) (t : Int) (ht : 0 ≤ t) : ∃ c, cell cs t = some c := by
  unfold cell
  by_cases h : cs = []
  · exact ⟨_, if_pos h⟩
  · obtain ⟨c, e⟩ := ix_mod cs t h ht
    exact ⟨c, by rw [if_neg h, e]⟩
theorem draw_rest (cs : List Int) (t r n : Int) (hr : 0 < r) (h0 : 0 < n) (hn : n < 1073741824) :
    g__law_draw [(true, pen cs t r), (false, .int n)] = .ok false (.int (r % n)) (some (true, pen cs t (r / n))) := by
  have hns : smallI 1073741823 n = true := small_ok (by omega) (by omega)
  have h64 : smallI 1073741823 32 = true := rfl
  simp [g__law_draw, b__law_draw, M.dNew, M.dsp, M.dspL, M.putAll, M.asg2, M.mutE, M.tup, M.runDef, M.seq, M.skip, M.ifS, M.asg, M.setIx, M.ret, M.drop, M.tst, M.bin, M.prim, M.osCons, M.osNil, M.oV, M.oS, M.cst, M.var, M.mv, M.frz, M.getAll, M.Hd.get, M.ownIx, M.outOf, M.lst, M.tup, M.asCons, M.asNil, M.andB, M.orB, M.notB, M.callG, M.lend, M.lentIx, M.back, M.lents, M.tgN, M.itV, M.itR, M.forS, M.slc, M.pNo, M.pInt, List.getElem?_cons_zero, List.getElem?_cons_succ, List.set_cons_zero, List.set_cons_succ, List.map_cons, List.map_nil, List.replicate_succ, List.replicate_zero, List.length_cons, List.length_nil, List.nil_append, List.cons_append, List.append_nil, Nat.reduceAdd, Nat.reduceSub, pn2, pu2, Pgt, cmpI, hr, Pmod, h0, hns, h64, Pdiv]
theorem draw_small (cs : List Int) (t n c : Int) (ht : 0 ≤ t) (ht2 : t < 1000000) (h0 : 0 < n) (hn : n < 1073741824) (hc : cell cs t = some c) (hb : ¬ (t < cs.length ∧ 10 ^ 18 ≤ (if c < 0 then -c else c))) :
    g__law_draw [(true, pen cs t 0), (false, .int n)] = .ok false (.int (mixed c t / 32 % n)) (some (true, pen cs (t + 1) 0)) := by
  have hns : smallI 1073741823 n = true := small_ok (by omega) (by omega)
  have h64 : smallI 1073741823 32 = true := rfl
  have m0 : 0 ≤ c % 2147483399 := Int.emod_nonneg _ (by decide)
  have m1 : c % 2147483399 < 2147483399 := Int.emod_lt_of_pos _ (by decide)
  have p1 : (c % 2147483399 + 614162 * t + 1838).natAbs < 2 ^ 64 := by omega
  obtain ⟨z, hz⟩ : ∃ z, z = (c % 2147483399 + 614162 * t + 1838) ^ 5 % 2147483587 := ⟨_, rfl⟩
  have z0 : 0 ≤ z := by rw [hz]; exact Int.emod_nonneg _ (by decide)
  have z1 : z < 2147483587 := by rw [hz]; exact Int.emod_lt_of_pos _ (by decide)
  have q1 : z * (t + 59762) ≤ 2147483587 * 1059762 := Int.mul_le_mul (by omega) (by omega) (by omega) (by decide)
  have q0 : 0 ≤ z * (t + 59762) := Int.mul_nonneg z0 (by omega)
  have q2 : 83678 * t * t ≤ 83678 * 1000000 * 1000000 := Int.mul_le_mul (by omega) (by omega) ht (by decide)
  have q3 : 0 ≤ 83678 * t * t := Int.mul_nonneg (by omega) ht
  have p2 : (z * (t + 59762) + 83678 * t * t).natAbs < 2 ^ 64 := by omega
  have k1 : mulOk 150188 t = true := mul_okL (by decide) (by decide)
  have k2 : mulOk 614162 t = true := mul_okL (by decide) (by decide)
  have k3 : mulOk z (t + 59762) = true := mul_okL z0 (by omega)
  have k4 : mulOk 83678 t = true := mul_okL (by decide) (by decide)
  have k5 : mulOk (83678 * t) t = true := mul_ok ht (by omega)
  by_cases h : cs = []
  · have hc' : 150188 * t + 4388 = c := by simpa [cell, h] using hc
    have hl : ¬ t < (cs.length : Int) := by rw [h]; simp; omega
    have hpn : PneX [.lst (cs.map .int), .lst []] = some (false, .bl false) := by rw [pneX_nil]; simp [h]
    simp [g__law_draw, b__law_draw, M.dNew, M.dsp, M.dspL, M.putAll, M.asg2, M.mutE, M.tup, M.runDef, M.seq, M.skip, M.ifS, M.asg, M.setIx, M.ret, M.drop, M.tst, M.bin, M.prim, M.osCons, M.osNil, M.oV, M.oS, M.cst, M.var, M.mv, M.frz, M.getAll, M.Hd.get, M.ownIx, M.outOf, M.lst, M.tup, M.asCons, M.asNil, M.andB, M.orB, M.notB, M.callG, M.lend, M.lentIx, M.back, M.lents, M.tgN, M.itV, M.itR, M.forS, M.slc, M.pNo, M.pInt, List.getElem?_cons_zero, List.getElem?_cons_succ, List.set_cons_zero, List.set_cons_succ, List.map_cons, List.map_nil, List.replicate_succ, List.replicate_zero, List.length_cons, List.length_nil, List.nil_append, List.cons_append, List.append_nil, Nat.reduceAdd, Nat.reduceSub, pn0, pn1, pn2, pu1, Pgt, Pge, Plt, cmpI, Pmod, h0, hns, h64, Pdiv, Padd, Pmul, Ppow, Pabs, Pint, Plen, hpn, hl, k1, k2, k4, k5, hc', p1, p2, k3, ← hz, mixed]
  · have hlN : 0 < cs.length := List.length_pos_iff.mpr h
    have hpn : PneX [.lst (cs.map .int), .lst []] = some (false, .bl true) := by rw [pneX_nil]; simp [h]
    have hix : Pix [.lst (cs.map .int), .int (t % (cs.length : Int))] = some (false, .int c) := by
      obtain ⟨c', e⟩ := ix_mod cs t h ht
      unfold cell at hc
      rw [if_neg h, e] at hc
      cases hc
      exact e
    by_cases hl2 : t < (cs.length : Int)
    · have hb' : ¬ (1000000000000000000 : Int) ≤ (if c < 0 then -c else c) := fun z => hb ⟨hl2, z⟩
      simp [g__law_draw, b__law_draw, M.dNew, M.dsp, M.dspL, M.putAll, M.asg2, M.mutE, M.tup, M.runDef, M.seq, M.skip, M.ifS, M.asg, M.setIx, M.ret, M.drop, M.tst, M.bin, M.prim, M.osCons, M.osNil, M.oV, M.oS, M.cst, M.var, M.mv, M.frz, M.getAll, M.Hd.get, M.ownIx, M.outOf, M.lst, M.tup, M.asCons, M.asNil, M.andB, M.orB, M.notB, M.callG, M.lend, M.lentIx, M.back, M.lents, M.tgN, M.itV, M.itR, M.forS, M.slc, M.pNo, M.pInt, List.getElem?_cons_zero, List.getElem?_cons_succ, List.set_cons_zero, List.set_cons_succ, List.map_cons, List.map_nil, List.replicate_succ, List.replicate_zero, List.length_cons, List.length_nil, List.nil_append, List.cons_append, List.append_nil, Nat.reduceAdd, Nat.reduceSub, pn0, pn1, pn2, pu1, Pgt, Pge, Plt, cmpI, Pmod, h0, hns, h64, Pdiv, Padd, Pmul, Ppow, Pabs, Pint, Plen, hpn, hix, hlN, hl2, hb', k1, k2, k4, k5, p1, p2, k3, ← hz, mixed]
    · simp [g__law_draw, b__law_draw, M.dNew, M.dsp, M.dspL, M.putAll, M.asg2, M.mutE, M.tup, M.runDef, M.seq, M.skip, M.ifS, M.asg, M.setIx, M.ret, M.drop, M.tst, M.bin, M.prim, M.osCons, M.osNil, M.oV, M.oS, M.cst, M.var, M.mv, M.frz, M.getAll, M.Hd.get, M.ownIx, M.outOf, M.lst, M.tup, M.asCons, M.asNil, M.andB, M.orB, M.notB, M.callG, M.lend, M.lentIx, M.back, M.lents, M.tgN, M.itV, M.itR, M.forS, M.slc, M.pNo, M.pInt, List.getElem?_cons_zero, List.getElem?_cons_succ, List.set_cons_zero, List.set_cons_succ, List.map_cons, List.map_nil, List.replicate_succ, List.replicate_zero, List.length_cons, List.length_nil, List.nil_append, List.cons_append, List.append_nil, Nat.reduceAdd, Nat.reduceSub, pn0, pn1, pn2, pu1, Pgt, Pge, Plt, cmpI, Pmod, h0, hns, h64, Pdiv, Padd, Pmul, Ppow, Pabs, Pint, Plen, hpn, hix, hlN, hl2, k1, k2, k4, k5, p1, p2, k3, ← hz, mixed]
theorem draw_great (cs : List Int) (t n c : Int) (ht : 0 ≤ t) (ht2 : t < 1000000) (h0 : 0 < n) (hn : n < 1073741824) (hc : cell cs t = some c) (hb : t < cs.length ∧ 10 ^ 18 ≤ (if c < 0 then -c else c)) :
    g__law_draw [(true, pen cs t 0), (false, .int n)] = .ok false (.int ((2 * (if c < 0 then -c else c) + (if c < 0 then 1 else 0)) % n)) (some (true, pen cs (t + 1) ((2 * (if c < 0 then -c else c) + (if c < 0 then 1 else 0)) / n))) := by
  have hns : smallI 1073741823 n = true := small_ok (by omega) (by omega)
  have h64 : smallI 1073741823 32 = true := rfl
  have k1 : mulOk 150188 t = true := mul_okL (by decide) (by decide)
  have k2 : ∀ j, mulOk 2 j = true := fun j => mul_okL (by decide) (by decide)
  have h : cs ≠ [] := fun z => by rw [z] at hb; simp at hb; omega
  have hlN : 0 < cs.length := List.length_pos_iff.mpr h
  have hpn : PneX [.lst (cs.map .int), .lst []] = some (false, .bl true) := by rw [pneX_nil]; simp [h]
  have hix : Pix [.lst (cs.map .int), .int (t % (cs.length : Int))] = some (false, .int c) := by
    obtain ⟨c', e⟩ := ix_mod cs t h ht
    unfold cell at hc
    rw [if_neg h, e] at hc
    cases hc
    exact e
  have hl2 := hb.1
  have hb' : (1000000000000000000 : Int) ≤ (if c < 0 then -c else c) := hb.2
  simp [g__law_draw, b__law_draw, M.dNew, M.dsp, M.dspL, M.putAll, M.asg2, M.mutE, M.tup, M.runDef, M.seq, M.skip, M.ifS, M.asg, M.setIx, M.ret, M.drop, M.tst, M.bin, M.prim, M.osCons, M.osNil, M.oV, M.oS, M.cst, M.var, M.mv, M.frz, M.getAll, M.Hd.get, M.ownIx, M.outOf, M.lst, M.tup, M.asCons, M.asNil, M.andB, M.orB, M.notB, M.callG, M.lend, M.lentIx, M.back, M.lents, M.tgN, M.itV, M.itR, M.forS, M.slc, M.pNo, M.pInt, List.getElem?_cons_zero, List.getElem?_cons_succ, List.set_cons_zero, List.set_cons_succ, List.map_cons, List.map_nil, List.replicate_succ, List.replicate_zero, List.length_cons, List.length_nil, List.nil_append, List.cons_append, List.append_nil, Nat.reduceAdd, Nat.reduceSub, pn0, pn1, pn2, pu1, pu2, Pgt, Pge, Plt, cmpI, Pmod, h0, hns, h64, Pdiv, Padd, Pmul, Ppow, Pabs, Pint, Plen, hpn, hix, hlN, hl2, hb', k1, k2]
/-- a drawn number, the pen behind it -/
theorem draw (cs : List Int) (t r n : Int) (ht : 0 ≤ t) (ht2 : t < 1000000) (hr : 0 ≤ r) (h0 : 0 < n) (hn : n < 1073741824) :
    ∃ d t' r', g__law_draw [(true, pen cs t r), (false, .int n)] = .ok false (.int d) (some (true, pen cs t' r')) ∧ 0 ≤ d ∧ d < n ∧ 0 ≤ t' ∧ t' ≤ t + 1 ∧ 0 ≤ r' := by
  have hns : smallI 1073741823 n = true := small_ok (by omega) (by omega)
  have h64 : smallI 1073741823 32 = true := rfl
  by_cases hz : 0 < r
  · exact ⟨_, _, _, draw_rest cs t r n hz h0 hn, Int.emod_nonneg _ (by omega), Int.emod_lt_of_pos _ h0, ht, by omega, Int.ediv_nonneg hr (by omega)⟩
  · have e : r = 0 := by omega
    subst e
    obtain ⟨c, hc⟩ := cell_some cs t ht
    by_cases hb : t < cs.length ∧ 10 ^ 18 ≤ (if c < 0 then -c else c)
    · exact ⟨_, _, _, draw_great cs t n c ht ht2 h0 hn hc hb, Int.emod_nonneg _ (by omega), Int.emod_lt_of_pos _ h0, by omega, by omega, Int.ediv_nonneg (by split <;> omega) (by omega)⟩
    · exact ⟨_, _, _, draw_small cs t n c ht ht2 h0 hn hc hb, Int.emod_nonneg _ (by omega), Int.emod_lt_of_pos _ h0, by omega, by omega, by omega⟩
theorem pen_made (ns : List Int) (h : ns.length ≤ 63) : g__law_pen [(false, .scr ns)] = .ok true (pen ns 0 0) none := by
  have e : cutA ns none (some 63) = ns := by
    unfold cutA
    have h1 : HT.sIx ns.length 0 none = 0 := rfl
    have h2 : HT.sIx ns.length ns.length (some 63) = ns.length := by
      show min (63 : Int).toNat ns.length = ns.length
      exact Nat.min_eq_right (by omega)
    rw [h1, h2]; simp
  simp [g__law_pen, b__law_pen, M.dNew, M.dsp, M.dspL, M.putAll, M.asg2, M.mutE, M.tup, M.runDef, M.seq, M.skip, M.ifS, M.asg, M.setIx, M.ret, M.drop, M.tst, M.bin, M.prim, M.osCons, M.osNil, M.oV, M.oS, M.cst, M.var, M.mv, M.frz, M.getAll, M.Hd.get, M.ownIx, M.outOf, M.lst, M.tup, M.asCons, M.asNil, M.andB, M.orB, M.notB, M.callG, M.lend, M.lentIx, M.back, M.lents, M.tgN, M.itV, M.itR, M.forS, M.slc, M.pNo, M.pInt, List.getElem?_cons_zero, List.getElem?_cons_succ, List.set_cons_zero, List.set_cons_succ, List.map_cons, List.map_nil, List.replicate_succ, List.replicate_zero, List.length_cons, List.length_nil, List.nil_append, List.cons_append, List.append_nil, Nat.reduceAdd, Nat.reduceSub, Psl, e, Plist]
def Pen (m : Int) (v : Val) : Prop := ∃ cs t r, v = pen cs t r ∧ 0 ≤ t ∧ t ≤ m ∧ 0 ≤ r
theorem Pen.mono {m k : Int} {v : Val} (h : Pen m v) (l : m ≤ k) : Pen k v := by
  obtain ⟨cs, t, r, e, h0, h1, h2⟩ := h
  exact ⟨cs, t, r, e, h0, by omega, h2⟩
theorem Pen.pos {m : Int} {v : Val} (h : Pen m v) : 0 ≤ m := by
  obtain ⟨cs, t, r, e, h0, h1, h2⟩ := h
  omega
theorem draw_wp {m n : Int} {p : Val} {K : GR → Prop} (hp : Pen m p) (hm : m < 1000000) (h0 : 0 < n) (hn : n < 1073741824) (q : ∀ d p', 0 ≤ d → d < n → Pen (m + 1) p' → K (.ok false (.int d) (some (true, p')))) :
    wG g__law_draw [(true, p), (false, .int n)] K := by
  obtain ⟨cs, t, r, e, h1, h2, h3⟩ := hp
  subst e
  obtain ⟨d, t', r', e, d0, d1, t0, t1, r0⟩ := draw cs t r n h1 (by omega) h3 h0 hn
  unfold wG
  rw [e]
  exact q d _ d0 d1 ⟨cs, t', r', rfl, t0, by omega, r0⟩
theorem pen_wp {ns : List Int} {K : GR → Prop} (h : ns.length ≤ 63) (q : ∀ p, Pen 0 p → K (.ok true p none)) : wG g__law_pen [(false, .scr ns)] K := by
  unfold wG
  rw [pen_made ns h]
  exact q _ ⟨ns, 0, 0, rfl, by omega, by omega, by omega⟩
end K21
namespace K21
open PySem L2 M PN PR PQ PT
def letters : Str := "abcdefghijklmnopqrstuvwxyz"
theorem letters_at (i : Int) (h0 : 0 ≤ i) (h1 : i < 26) : Pix [.str letters, .int i] = some (false, .str (mk [97 + i.toNat])) := by
  have : ∀ j : Fin 26, letters.cps.toList[j.val]? = some (97 + j.val) := by decide +kernel
  have hl : letters.cps.toList.length = 26 := by decide +kernel
  have hx : ixN letters.cps.toList.length i = some i.toNat := by
    unfold ixN
    rw [if_pos h0, if_pos (by rw [hl]; exact h1)]
  have e := this ⟨i.toNat, by omega⟩
  simp only [Pix, atI, hx, Option.bind_some]
  simp only at e
  rw [e]
  rfl
def nmA (k : Nat) : Str := repS (mk [97 + k % 26]) (1 + k / 26)
def nmTail : List Str := ["if", "self", "move", "load", "rows", "abcdefgh", "abcdefgi", "zzzzzzzz"]
def sixty : List Str := (List.range 52).map nmA ++ nmTail
def isNm (s : Str) : Bool := decide (1 ≤ s.cps.toList.length) && decide (s.cps.toList.length ≤ 8) && s.cps.toList.all fun c => decide (97 ≤ c) && decide (c ≤ 122)
theorem isNm_iff {s : Str} (h : isNm s = true) : IsName s := by
  simp only [isNm, Bool.and_eq_true, decide_eq_true_iff, List.all_eq_true] at h
  exact ⟨s.cps.toList, (mk_eta s).symm, h.1.1, h.1.2, h.2⟩
theorem sixty_nm : ∀ s ∈ sixty, IsName s := by
  have : (sixty.all isNm) = true := by decide +kernel
  exact fun s hs => isNm_iff (List.all_eq_true.mp this s hs)
theorem sixty_nd : sixty.Nodup := by
  have h : (sixty.map fun s => s.cps.toList).Nodup := by decide +kernel
  rw [List.nodup_iff_pairwise_ne, List.pairwise_map] at h
  exact h.imp fun {a b} hab e => hab (by rw [e])
theorem sixty_len : sixty.length = 60 := by
  unfold sixty
  rw [List.length_append, List.length_map, List.length_range]
  rfl
theorem erase_map {α β : Type} (f : α → β) : ∀ (l : List α) (n : Nat), (l.map f).eraseIdx n = (l.eraseIdx n).map f
  | [], _ => rfl
  | _ :: _, 0 => rfl
  | x :: l, n + 1 => by
    simp only [List.map_cons, List.eraseIdx_cons_succ]
    rw [erase_map f l n]
abbrev nE (p : Val) (many : Int) (b : Bool) (left : List Str) : M.Env := [some (true, p), some (false, .int many), some (false, .str letters), some (b, .lst (left.map .str)), none]
/-- drawn one by one out of some -/
theorem popped {m0 many : Int} {p : Val} {left : List Str} {Q : AR → Prop} (hp : Pen m0 p) (hm : m0 < 900000) (hl : left.length ≤ 1000) (h0 : 0 ≤ many) (h1 : many.toNat ≤ left.length)
    (q : ∀ (ys rest : List Str) (p' : Val), ys.length = many.toNat → (ys ++ rest).Perm left → Pen (m0 + many) p' → Q (.ok (ys.map .str) (nE p' many true rest))) :
    wC (M.tgN 4) yesB E2__law_names [4] (nums many.toNat) [] (nE p many true left) Q := by
  have hpos := hp.pos
  obtain ⟨I, hI⟩ : ∃ I : List Val → List Val → M.Env → Prop, I = fun vs acc r => ∃ (j : Nat) (ys rest : List Str) (p4 : Val), vs = (nums many.toNat).drop j ∧ j ≤ many.toNat ∧ acc = ys.map .str ∧ ys.length = j ∧ (ys ++ rest).Perm left ∧ Pen (m0 + j) p4 ∧ r = nE p4 many true rest := ⟨_, rfl⟩
  refine wC_inv I ?_ ?_ _ _ _ (by rw [hI]; exact ⟨0, [], left, p, rfl, by omega, rfl, rfl, .refl _, hp.mono (by omega), rfl⟩)
  · intro v vs acc r h
    rw [hI] at h
    obtain ⟨j, ys, rest, p4, e, hj, rfl, hy, hperm, hp4, rfl⟩ := h
    obtain ⟨hj2, rfl, rfl⟩ := drop_step e
    rw [nums_len] at hj2
    rw [nums_get]
    have hlen := hperm.length_eq
    rw [List.length_append] at hlen
    have hrp : 0 < rest.length := by omega
    have hacc : (ys.map Val.str).length < 100000 := by rw [List.length_map]; omega
    simp? only [E2__law_names, List.length_map]
    refine draw_wp hp4 (by omega) (by omega) (by omega) fun d p5 d0 d1 hp5 => ?_
    have hd : d.toNat < rest.length := by omega
    have hx : ixN (rest.map Val.str).length d = some d.toNat := by
      unfold ixN
      rw [if_pos d0, if_pos (by rw [List.length_map]; exact d1)]
    have hpop : MpopAt (.lst (rest.map .str)) [.int d] = some (.lst ((rest.eraseIdx d.toNat).map .str), .str rest[d.toNat]) := by
      have hd2 : d.toNat < (rest.map Val.str).length := by simpa using hd
      simp only [MpopAt, hx, List.getElem?_eq_getElem hd2]
      rw [if_pos (by rw [List.length_map]; omega), List.getElem_map, erase_map]
    simp? only [tyOf, hpop]
    rw [hI]
    refine ⟨hacc, j + 1, ys ++ [rest[d.toNat]], rest.eraseIdx d.toNat, p5, rfl, hj2, by simp, by simp [hy], ?_, hp5.mono (by omega), rfl⟩
    rw [List.append_assoc]
    exact ((perm_erase rest d.toNat hd).append_left ys).trans hperm
  · intro acc r h
    rw [hI] at h
    obtain ⟨j, ys, rest, p4, e, hj, rfl, hy, hperm, hp4, rfl⟩ := h
    have hj2 := drop_end e (by rw [nums_len]; exact hj)
    rw [nums_len] at hj2
    subst hj2
    exact q ys rest p4 hy hperm (hp4.mono (by omega))
theorem names_wp {m0 many : Int} {p : Val} {K : GR → Prop} (hp : Pen m0 p) (hm : m0 < 890000) (h0 : 0 ≤ many) (h1 : many ≤ 60)
    (q : ∀ (ss : List Str) (p' : Val), ss.length = many.toNat → ss.Nodup → (∀ s ∈ ss, s ∈ sixty) → Pen (m0 + 61) p' → K (.ok true (.lst (ss.map .str)) (some (true, p')))) : wG g__law_names [(true, p), (false, .int many)] K := by
  have hpos := hp.pos
  obtain ⟨N, hN0⟩ : ∃ N : Nat, N = (52 : Int).toNat := ⟨_, rfl⟩
  have hr : rng1 [.int 52] = some (nums N) := by rw [hN0]; exact rng_nums 52 ⟨by decide, by decide⟩
  have hN : N = 52 := hN0
  obtain ⟨tl, htl⟩ : ∃ tl, tl = nmTail.map Val.str := ⟨_, rfl⟩
  have htl2 : [Val.str "if", .str "self", .str "move", .str "load", .str "rows", .str "abcdefgh", .str "abcdefgi", .str "zzzzzzzz"] = tl := by rw [htl]; rfl
  have hN2 : N ≤ 52 := by omega
  have htl3 : tl.length ≤ 100000 := by
    rw [htl, List.length_map]
    exact Nat.le_trans (show nmTail.length ≤ 8 from Nat.le_refl _) (by decide)
  have hL : Val.str "abcdefghijklmnopqrstuvwxyz" = Val.str letters := rfl
  unfold g__law_names
  rw [wG_run (by rfl) (by simp [ownIx])]
  unfold b__law_names
  simp? only [hr, hL]
  refine wC_map (fun k : Nat => Val.int (k : Nat)) (fun k : Nat => .str (nmA k)) (fun _ => true) (List.range N) (fun k hk => ⟨_, rfl, rfl, rfl, fun _ => ?_⟩) (by rw [List.length_range]; omega) ?_
  · have hk2 := List.mem_range.mp hk
    have e1 := letters_at ((k : Int) % 26) (Int.emod_nonneg _ (by decide)) (Int.emod_lt_of_pos _ (by decide))
    have t1 : ((k : Int) % 26).toNat = k % 26 := by omega
    rw [t1] at e1
    have pm : Pmod [.int (k : Nat), .int 26] = some (false, .int ((k : Int) % 26)) := rfl
    have pd : Pdiv [.int (k : Nat), .int 26] = some (false, .int ((k : Int) / 26)) := rfl
    have pa : Padd [.int 1, .int ((k : Int) / 26)] = some (false, .int (1 + (k : Int) / 26)) := rfl
    have t2 : (1 + (k : Int) / 26).toNat = 1 + k / 26 := by omega
    have ll : (mk [97 + k % 26]).length = 1 := mk_len _
    have pu : Pmul [.str (mk [97 + k % 26]), .int (1 + (k : Int) / 26)] = some (false, .str (nmA k)) := by
      simp only [Pmul]
      rw [if_pos ⟨by omega, by omega, by rw [ll, t2]; exact Nat.le_trans (show 1 * (1 + k / 26) ≤ 100 by omega) (by decide)⟩, t2]
      rfl
    simp? only [E1__law_names, pm, pd, pa, e1, pu]
    exact ⟨_, _, rfl, rfl⟩
  rw [filter_yes]
  have hpa : Padd [.lst ((List.range N).map (fun k : Nat => Val.str (nmA k))), .lst tl] = some (true, .lst (sixty.map .str)) := by
    simp only [Padd]
    rw [htl, if_pos (by rw [List.length_map, List.length_map, List.length_range]; show N + 8 ≤ 100000; omega)]
    have e : sixty.map Val.str = (List.range N).map (fun k : Nat => Val.str (nmA k)) ++ nmTail.map .str := by
      unfold sixty
      rw [hN, List.map_append, List.map_map]
      rfl
    rw [e]
  have sl := sixty_len
  obtain ⟨all, hall⟩ : ∃ all, all = sixty := ⟨_, rfl⟩
  rw [← hall] at hpa sl
  simp? only [htl2, hpa, htl3, if_true]
  refine draw_wp hp (by omega) (by decide) (by decide) fun d p1 d0 d1 hp1 => ?_
  have fin : ∀ (left : List Str), left.Sublist all → many.toNat ≤ left.length → ∀ {Q : AR → Prop}, (∀ (ys rest : List Str) (p' : Val), ys.length = many.toNat → ys.Nodup → (∀ s ∈ ys, s ∈ sixty) → Pen (m0 + 61) p' → Q (.ok (ys.map .str) (nE p' many true rest))) → wC (M.tgN 4) yesB E2__law_names [4] (nums many.toNat) [] (nE p1 many true left) Q := by
    intro left hs hl Q hq
    have hll := hs.length_le
    refine popped hp1 (by omega) (by omega) h0 hl fun ys rest p' hy hperm hp' => ?_
    have hnd : (ys ++ rest).Nodup := hperm.nodup_iff.mpr ((by rw [hall]; exact sixty_nd : all.Nodup).sublist hs)
    exact hq ys rest p' hy (List.nodup_append.mp hnd).1 (fun s hs2 => by rw [← hall]; exact hs.subset (hperm.subset (List.mem_append_left _ hs2))) (hp'.mono (by omega))
  by_cases hd : 0 < d
  · have htk : cutA (all.map Val.str) none (some many) = (all.take many.toNat).map .str := by rw [cut_toI _ h0, List.map_take]
    have hpg : Pgt [.int d, .int 0] = some (false, .bl true) := by simp [Pgt, cmpI, hd]
    simp? only [hd, decide_true, Psl, htk, rng_nums many ⟨h0, by omega⟩]
    refine fin _ (List.take_sublist _ _) (by rw [List.length_take]; omega) fun ys rest p' a b c f => ?_
    simp? only []
    exact q ys p' a b c f
  · simp? only [hd, decide_false, rng_nums many ⟨h0, by omega⟩]
    refine fin _ (.refl _) (by omega) fun ys rest p' a b c f => ?_
    simp? only []
    exact q ys p' a b c f
/-- the names, as an equation: a goal over a concrete call of this def must not be looked at -/
theorem names_eq {m0 many : Int} {p : Val} (hp : Pen m0 p) (hm : m0 < 890000) (h0 : 0 ≤ many) (h1 : many ≤ 60) :
    ∃ (ss : List Str) (p' : Val), (∀ K : GR → Prop, wG g__law_names [(true, p), (false, .int many)] K = K (.ok true (.lst (ss.map .str)) (some (true, p')))) ∧ ss.length = many.toNat ∧ ss.Nodup ∧ (∀ s ∈ ss, s ∈ sixty) ∧ Pen (m0 + 61) p' := by
  have key := names_wp (K := fun x => ∃ (ss : List Str) (p' : Val), x = .ok true (.lst (ss.map .str)) (some (true, p')) ∧ ss.length = many.toNat ∧ ss.Nodup ∧ (∀ s ∈ ss, s ∈ sixty) ∧ Pen (m0 + 61) p') hp hm h0 h1 fun ss p' a b c d => ⟨ss, p', rfl, a, b, c, d⟩
  unfold wG at key
  obtain ⟨ss, p', e, a, b, c, d⟩ := key
  refine ⟨ss, p', fun K => ?_, a, b, c, d⟩
  unfold wG
  rw [e]
end K21
namespace K21
open PySem L2 M PN PR PQ PT
abbrev dE (p : Val) (rows order : List Str) (way : Int) (m : Nd) (k t s : M.Slot) : M.Env := [some (true, p), some (false, .lst (rows.map .str)), some (true, .lst []), some (false, .lst (order.map .str)), some (false, .int way), some (true, enc m), k, t, s, none]
theorem siftA {m0 way : Int} {p : Val} {rows order : List Str} {m : Nd} {k : Nat} {b7 b8 : M.Slot} {Q : AR → Prop} (hp : Pen m0 p) (hm : m0 < 900000) (hl : order.length ≤ 60) (hk : k ≤ order.length) (hw : 2 < way ∧ way < 5)
    (q : ∀ (ys : List Str) (p' : Val), ys.Sublist (order.take k) → Pen (m0 + 60) p' → Q (.ok (ys.map .str) (dE p' rows order way m (some (false, .int (k : Nat))) b7 b8))) :
    wC (M.tgN 9) F3__law_needs E2__law_needs [9] ((order.take k).map .str) [] (dE p rows order way m (some (false, .int (k : Nat))) b7 b8) Q := by
  have hpos := hp.pos
  have htl : (order.take k).length = k := by rw [List.length_take]; omega
  obtain ⟨I, hI⟩ : ∃ I : List Val → List Val → M.Env → Prop, I = fun vs acc r => ∃ (j : Nat) (ys : List Str) (p4 : Val), vs = ((order.take k).map Val.str).drop j ∧ j ≤ ((order.take k).map Val.str).length ∧ acc = ys.map .str ∧ ys.Sublist ((order.take k).take j) ∧ Pen (m0 + j) p4 ∧ r = dE p4 rows order way m (some (false, .int (k : Nat))) b7 b8 := ⟨_, rfl⟩
  refine wC_inv I ?_ ?_ _ _ _ (by rw [hI]; exact ⟨0, [], p, rfl, by omega, rfl, by simp, hp.mono (by omega), rfl⟩)
  · intro v vs acc r h
    rw [hI] at h
    obtain ⟨j, ys, p4, e, hj, rfl, hys, hp4, rfl⟩ := h
    obtain ⟨hj2, rfl, rfl⟩ := drop_step e
    rw [List.getElem_map]
    have hj3 : j < (order.take k).length := by simpa using hj2
    have hyl := hys.length_le
    rw [List.length_take] at hyl
    have hacc : (ys.map Val.str).length < 100000 := by rw [List.length_map]; omega
    have keep : ys.Sublist ((order.take k).take (j + 1)) := hys.trans (List.take_sublist_take_left (by omega))
    have more : (ys ++ [(order.take k)[j]]).Sublist ((order.take k).take (j + 1)) := by
      rw [List.take_succ_eq_append_getElem hj3]
      exact hys.append (.refl _)
    obtain ⟨y, hy⟩ : ∃ y, y = (order.take k)[j] := ⟨_, rfl⟩
    rw [← hy] at more ⊢
    obtain ⟨u, eq, u0, u1⟩ : ∃ u : Int, Pix [.lst [.int 2, .int 4], .int (way - 3)] = some (false, .int u) ∧ 0 < u ∧ u < 10 := by
      have : way = 3 ∨ way = 4 := by omega
      rcases this with z | z <;> subst z
      · exact ⟨2, rfl, by decide, by decide⟩
      · exact ⟨4, rfl, by decide, by decide⟩
    have hsub : Psub [.int way, .int 3] = some (false, .int (way - 3)) := rfl
    simp? only [F3__law_needs, E2__law_needs, hsub, eq]
    refine draw_wp hp4 (by omega) (by omega) (by omega) fun w p5 w0 w1 hp5 => ?_
    simp? only [peqI]
    by_cases hw : w = 0
    · simp? only [hw, decide_true]
      rw [hI]
      exact ⟨hacc, j + 1, ys ++ [y], p5, rfl, hj2, by simp, more, hp5.mono (by omega), rfl⟩
    · simp? only [hw, decide_false]
      rw [hI]
      exact ⟨j + 1, ys, p5, rfl, hj2, rfl, keep, hp5.mono (by omega), rfl⟩
  · intro acc r h
    rw [hI] at h
    obtain ⟨j, ys, p4, e, hj, rfl, hys, hp4, rfl⟩ := h
    have hj2 := drop_end e hj
    rw [List.length_map, htl] at hj2
    subst hj2
    rw [List.take_take, Nat.min_self] at hys
    exact q ys p4 hys (hp4.mono (by omega))
theorem siftB {m0 way : Int} {p : Val} {rows order : List Str} {m : Nd} {k : Nat} {b7 b8 : M.Slot} {Q : AR → Prop} (hp : Pen m0 p) (hm : m0 < 900000) (hl : order.length ≤ 60) (hk : k ≤ order.length)
    (q : ∀ (ys : List Str) (p' : Val), ys.Sublist (order.take k) → Pen (m0 + 60) p' → Q (.ok (ys.map .str) (dE p' rows order way m (some (false, .int (k : Nat))) b7 b8))) :
    wC (M.tgN 9) F5__law_needs E4__law_needs [9] ((order.take k).map .str) [] (dE p rows order way m (some (false, .int (k : Nat))) b7 b8) Q := by
  have hpos := hp.pos
  have htl : (order.take k).length = k := by rw [List.length_take]; omega
  obtain ⟨I, hI⟩ : ∃ I : List Val → List Val → M.Env → Prop, I = fun vs acc r => ∃ (j : Nat) (ys : List Str) (p4 : Val), vs = ((order.take k).map Val.str).drop j ∧ j ≤ ((order.take k).map Val.str).length ∧ acc = ys.map .str ∧ ys.Sublist ((order.take k).take j) ∧ Pen (m0 + j) p4 ∧ r = dE p4 rows order way m (some (false, .int (k : Nat))) b7 b8 := ⟨_, rfl⟩
  refine wC_inv I ?_ ?_ _ _ _ (by rw [hI]; exact ⟨0, [], p, rfl, by omega, rfl, by simp, hp.mono (by omega), rfl⟩)
  · intro v vs acc r h
    rw [hI] at h
    obtain ⟨j, ys, p4, e, hj, rfl, hys, hp4, rfl⟩ := h
    obtain ⟨hj2, rfl, rfl⟩ := drop_step e
    rw [List.getElem_map]
    have hj3 : j < (order.take k).length := by simpa using hj2
    have hyl := hys.length_le
    rw [List.length_take] at hyl
    have hacc : (ys.map Val.str).length < 100000 := by rw [List.length_map]; omega
    have keep : ys.Sublist ((order.take k).take (j + 1)) := hys.trans (List.take_sublist_take_left (by omega))
    have more : (ys ++ [(order.take k)[j]]).Sublist ((order.take k).take (j + 1)) := by
      rw [List.take_succ_eq_append_getElem hj3]
      exact hys.append (.refl _)
    obtain ⟨y, hy⟩ : ∃ y, y = (order.take k)[j] := ⟨_, rfl⟩
    rw [← hy] at more ⊢
    have hadd : Padd [.int (k : Nat), .int 1] = some (false, .int ((k : Int) + 1)) := rfl
    simp? only [F5__law_needs, E4__law_needs, hadd]
    refine draw_wp hp4 (by omega) (by omega) (by omega) fun w p5 w0 w1 hp5 => ?_
    simp? only [peqI]
    by_cases hw : w = 0
    · simp? only [hw, decide_true]
      rw [hI]
      exact ⟨hacc, j + 1, ys ++ [y], p5, rfl, hj2, by simp, more, hp5.mono (by omega), rfl⟩
    · simp? only [hw, decide_false]
      rw [hI]
      exact ⟨j + 1, ys, p5, rfl, hj2, rfl, keep, hp5.mono (by omega), rfl⟩
  · intro acc r h
    rw [hI] at h
    obtain ⟨j, ys, p4, e, hj, rfl, hys, hp4, rfl⟩ := h
    have hj2 := drop_end e hj
    rw [List.length_map, htl] at hj2
    subst hj2
    rw [List.take_take, Nat.min_self] at hys
    exact q ys p4 hys (hp4.mono (by omega))
theorem cutA_two {α : Type} (xs : List α) (a b : Nat) (hb : b ≤ xs.length) : cutA xs (some (a : Int)) (some (b : Int)) = (xs.take b).drop a := by
  unfold cutA
  rw [HT.sIx_nat, HT.sIx_nat, Nat.min_eq_left hb]
  rcases Nat.le_total a xs.length with h | h
  · rw [Nat.min_eq_left h, List.drop_take]
  · rw [Nat.min_eq_right h, List.drop_eq_nil_of_le (Nat.le_refl _), List.drop_eq_nil_of_le (by simp; omega)]; simp
theorem needs_turn {m0 way : Int} {p : Val} {rows order : List Str} {m : Nd} {k : Nat} {b8 : M.Slot} {Q : SR → Prop} (hp : Pen m0 p) (hm : m0 < 900000) (hl : order.length ≤ 60) (hk : k < order.length) (w0 : 0 ≤ way) (w1 : way < 5)
    (hnd : order.Nodup) (hfr : order[k] ∉ keys m) (hml : m.length ≤ 60)
    (q : ∀ (us : List Str) (p' : Val) (b8 : M.Slot), us.Nodup → us.length ≤ 25 → us = srt us → (∀ y ∈ us, y ∈ order.take k) → Pen (m0 + 60) p' → Q (.nx (dE p' rows order way (m ++ [(order[k], us)]) (some (false, .int (k : Nat))) (some (false, .str order[k])) b8))) :
    wS L6__law_needs (dE p rows order way m (some (false, .int (k : Nat))) (some (false, .str order[k])) b8) Q := by
  have hpos := hp.pos
  obtain ⟨t, ht⟩ : ∃ t, t = order[k] := ⟨_, rfl⟩
  rw [← ht] at hfr q ⊢
  have hpx : ∀ us : List Str, putIx (enc m) (.str t) (.tup (us.map .str)) = some (enc (m ++ [(t, us)])) := fun us => by
    have := putIx_new (v := .tup (us.map .str)) (ps := en m) (by rw [en_keys]; exact hfr) (by simp [en]; omega)
    rw [show en m ++ [(t, .tup (us.map .str))] = en (m ++ [(t, us)]) by simp [en]] at this
    exact this
  have htl : (order.take k).length = k := by rw [List.length_take]; omega
  have hct : cutA (order.map Val.str) none (some (k : Int)) = (order.take k).map .str := by rw [cut_to, List.map_take]
  have fin : ∀ {zs : List Str}, zs.Sublist (order.take k) → PsortedX [.lst (zs.map .str)] = some (true, .lst ((srt zs).map .str)) ∧ cutA ((srt zs).map Val.str) none (some 25) = ((srt zs).take 25).map .str ∧ ((srt zs).take 25).Nodup ∧ ((srt zs).take 25).length ≤ 25 ∧ (srt zs).take 25 = srt ((srt zs).take 25) ∧ ∀ y ∈ (srt zs).take 25, y ∈ order.take k := fun {zs} hz => by
    have hzl := hz.length_le
    rw [htl] at hzl
    have hzn : zs.Nodup := (hnd.sublist (List.take_sublist _ _)).sublist hz
    refine ⟨psorted_lst zs (by omega), ?_, ((srt_perm zs).nodup_iff.mpr hzn).sublist (List.take_sublist _ _), by rw [List.length_take]; omega, ?_, fun y hy => hz.subset (srt_mem.mp (List.mem_of_mem_take hy))⟩
    · rw [show (25 : Int) = ((25 : Nat) : Int) from rfl, cut_to, List.map_take]
    · exact srt_unique (.refl _) ((srt_pair zs).sublist (List.take_sublist _ _))
  unfold L6__law_needs
  have hc : way = 0 ∨ way = 1 ∨ way = 2 ∨ 2 < way := by omega
  rcases hc with z | z | z | z
  · subst z
    have f := fin (zs := []) (List.nil_sublist _)
    have f1 : PsortedX [.lst []] = some (true, .lst ((srt []).map .str)) := f.1
    simp? only [peqI, Psl, hct, decide_true, show ¬ ((0 : Int) = 1) from by decide, show ¬ ((0 : Int) = 2) from by decide, show ¬ ((0 : Int) > 2) from by decide, decide_false, f1, f.2.1, hpx]
    exact q _ p _ f.2.2.1 f.2.2.2.1 f.2.2.2.2.1 f.2.2.2.2.2 (hp.mono (by omega))
  · subst z
    by_cases h0 : 0 < k
    · have hk0 : (k : Int) > 0 := by omega
      have hsub : Psub [.int (k : Nat), .int 1] = some (false, .int ((k : Int) - 1)) := rfl
      have hct2 : cutA (order.map Val.str) (some ((k : Int) - 1)) (some (k : Int)) = ((order.take k).drop (k - 1)).map .str := by
        rw [show ((k : Int) - 1) = ((k - 1 : Nat) : Int) by omega, cutA_two _ _ _ (by simp; omega), List.map_drop, List.map_take]
      have f := fin (zs := (order.take k).drop (k - 1)) (List.drop_sublist _ _)
      simp? only [peqI, Psl, hct, decide_true, show ¬ ((1 : Int) = 0) from by decide, show ¬ ((1 : Int) = 2) from by decide, show ¬ ((1 : Int) > 2) from by decide, decide_false, hk0, hsub, hct2, f.1, f.2.1, hpx]
      exact q _ p _ f.2.2.1 f.2.2.2.1 f.2.2.2.2.1 f.2.2.2.2.2 (hp.mono (by omega))
    · have hk0 : ¬ (k : Int) > 0 := by omega
      have f := fin (zs := []) (List.nil_sublist _)
      have f1 : PsortedX [.lst []] = some (true, .lst ((srt []).map .str)) := f.1
      simp? only [peqI, Psl, hct, decide_true, show ¬ ((1 : Int) = 0) from by decide, show ¬ ((1 : Int) = 2) from by decide, show ¬ ((1 : Int) > 2) from by decide, decide_false, hk0, f1, f.2.1, hpx]
      exact q _ p _ f.2.2.1 f.2.2.2.1 f.2.2.2.2.1 f.2.2.2.2.2 (hp.mono (by omega))
  · subst z
    simp? only [peqI, Psl, hct, decide_true, show ¬ ((2 : Int) = 0) from by decide, show ¬ ((2 : Int) = 1) from by decide, show ¬ ((2 : Int) > 2) from by decide, decide_false]
    refine siftB hp hm hl (by omega) fun ys p' hys hp' => ?_
    have f := fin hys
    simp? only [f.1, Psl, f.2.1, hpx]
    exact q _ p' _ f.2.2.1 f.2.2.2.1 f.2.2.2.2.1 f.2.2.2.2.2 hp'
  · have n0 : ¬ way = 0 := by omega
    have n1 : ¬ way = 1 := by omega
    have n2 : ¬ way = 2 := by omega
    have n3 : way > 2 := z
    simp? only [peqI, Psl, hct, n0, n1, n2, n3, decide_true, decide_false]
    refine siftA hp hm hl (by omega) ⟨z, w1⟩ fun ys p' hys hp' => ?_
    have f := fin hys
    simp? only [peqI, n2, decide_false, f.1, Psl, f.2.1, hpx]
    exact q _ p' _ f.2.2.1 f.2.2.2.1 f.2.2.2.2.1 f.2.2.2.2.2 hp'
/-- the order of the needs -/
theorem ordered {m0 : Int} {p : Val} {rows left : List Str} {Q : AR → Prop} (hp : Pen m0 p) (hm : m0 < 900000) (hl : rows.length ≤ 60) (hleft : left.length = rows.length)
    (q : ∀ (ys : List Str) (p' : Val), ys.Perm left → Pen (m0 + 60) p' → Q (.ok (ys.map .str) [some (true, p'), some (false, .lst (rows.map .str)), some (true, .lst []), none, none, none, none, none, none, none])) :
    wC (M.tgN 7) yesB E1__law_needs [7] (rows.map .str) [] [some (true, p), some (false, .lst (rows.map .str)), some (true, .lst (left.map .str)), none, none, none, none, none, none, none] Q := by
  have hpos := hp.pos
  obtain ⟨I, hI⟩ : ∃ I : List Val → List Val → M.Env → Prop, I = fun vs acc r => ∃ (j : Nat) (ys rest : List Str) (p4 : Val), vs = (rows.map Val.str).drop j ∧ j ≤ (rows.map Val.str).length ∧ acc = ys.map .str ∧ ys.length = j ∧ (ys ++ rest).Perm left ∧ Pen (m0 + j) p4 ∧ r = [some (true, p4), some (false, .lst (rows.map .str)), some (true, .lst (rest.map .str)), none, none, none, none, none, none, none] := ⟨_, rfl⟩
  refine wC_inv I ?_ ?_ _ _ _ (by rw [hI]; exact ⟨0, [], left, p, rfl, by omega, rfl, rfl, .refl _, hp.mono (by omega), rfl⟩)
  · intro v vs acc r h
    rw [hI] at h
    obtain ⟨j, ys, rest, p4, e, hj, rfl, hy, hperm, hp4, rfl⟩ := h
    obtain ⟨hj2, rfl, rfl⟩ := drop_step e
    rw [List.length_map] at hj2
    rw [List.getElem_map]
    have hlen := hperm.length_eq
    rw [List.length_append] at hlen
    have hrp : 0 < rest.length := by omega
    have hacc : (ys.map Val.str).length < 100000 := by rw [List.length_map]; omega
    simp? only [E1__law_needs, List.length_map]
    refine draw_wp hp4 (by omega) (by omega) (by omega) fun d p5 d0 d1 hp5 => ?_
    have hd : d.toNat < rest.length := by omega
    have hx : ixN (rest.map Val.str).length d = some d.toNat := by
      unfold ixN
      rw [if_pos d0, if_pos (by rw [List.length_map]; exact d1)]
    have hpop : MpopAt (.lst (rest.map .str)) [.int d] = some (.lst ((rest.eraseIdx d.toNat).map .str), .str rest[d.toNat]) := by
      have hd2 : d.toNat < (rest.map Val.str).length := by simpa using hd
      simp only [MpopAt, hx, List.getElem?_eq_getElem hd2]
      rw [if_pos (by rw [List.length_map]; omega), List.getElem_map, erase_map]
    simp? only [tyOf, hpop]
    rw [hI]
    refine ⟨hacc, j + 1, ys ++ [rest[d.toNat]], rest.eraseIdx d.toNat, p5, rfl, by rw [List.length_map]; exact hj2, by simp, by simp [hy], ?_, hp5.mono (by omega), rfl⟩
    rw [List.append_assoc]
    exact ((perm_erase rest d.toNat hd).append_left ys).trans hperm
  · intro acc r h
    rw [hI] at h
    obtain ⟨j, ys, rest, p4, e, hj, rfl, hy, hperm, hp4, rfl⟩ := h
    have hj2 := drop_end e hj
    rw [List.length_map] at hj2
    have hlen := hperm.length_eq
    rw [List.length_append] at hlen
    have hr : rest = [] := List.eq_nil_of_length_eq_zero (by omega)
    subst hr
    rw [List.append_nil] at hperm
    exact q ys p4 hperm (hp4.mono (by omega))
theorem needs_wp {m0 : Int} {p : Val} {rows : List Str} {K : GR → Prop} (hp : Pen m0 p) (hm : m0 < 800000) (hr : Rows rows)
    (q : ∀ (m : Nd) (p' : Val), Raw rows m → Acyc m → (∀ s ∈ rows, s ∈ keys m) → (∀ s, (getN m s).length ≤ 25 ∧ getN m s = srt (getN m s)) → Pen (m0 + 4000) p' → K (.ok true (enc m) (some (true, p')))) : wG g__law_needs [(true, p), (false, .lst (rows.map .str))] K := by
  have hpos := hp.pos
  have hrl := hr.len
  unfold g__law_needs
  rw [wG_run (by rfl) (by simp [ownIx])]
  unfold b__law_needs
  simp? only []
  refine ordered hp (by omega) hrl rfl fun order p1 hperm hp1 => ?_
  have hol := hperm.length_eq
  have hnd : order.Nodup := hperm.nodup_iff.mpr hr.nd
  simp? only []
  refine draw_wp hp1 (by omega) (by decide) (by decide) fun way p2 w0 w1 hp2 => ?_
  simp? only []
  obtain ⟨I, hI⟩ : ∃ I : List Val → M.Env → Prop, I = fun vs r => ∃ (k : Nat) (m : Nd) (p3 : Val) (b6 b7 b8 : M.Slot), vs = (enumV (order.map Val.str)).drop k ∧ k ≤ (enumV (order.map Val.str)).length ∧ keys m = order.take k ∧ (∀ x ∈ m, x.2.Nodup ∧ x.2.length ≤ 25 ∧ x.2 = srt x.2 ∧ ∀ y ∈ x.2, y ∈ order ∧ order.idxOf y < order.idxOf x.1) ∧ Pen (m0 + 61 + k * 60) p3 ∧
    r = dE p3 rows order way m b6 b7 b8 := ⟨_, rfl⟩
  refine wL_inv I ?_ ?_ _ _ (by rw [hI]; exact ⟨0, [], p2, none, none, none, rfl, by omega, by simp [keys], by simp, hp2.mono (by omega), rfl⟩)
  · intro v vs r h
    rw [hI] at h
    obtain ⟨k, m, p3, b6, b7, b8, e, hk, hkeys, hvals, hp3, rfl⟩ := h
    obtain ⟨hk2, rfl, rfl⟩ := drop_step e
    rw [enum_get hk2, List.getElem_map]
    have hkn : k < order.length := by simpa [enumV] using hk2
    have hml : m.length = k := by
      have := congrArg List.length hkeys
      simp [keys] at this
      omega
    have hfresh : order[k] ∉ keys m := by
      rw [hkeys]
      intro z
      obtain ⟨i, hi, ei⟩ := List.mem_take_iff_getElem.mp z
      have := (List.getElem_inj hnd).mp ei
      omega
    simp? only [M.kT_e1]
    refine needs_turn hp3 (by omega) (by omega) hkn w0 w1 hnd hfresh (by omega) fun us p6 b8 hu1 hu2 hu3 hu4 hp6 => ?_
    rw [kTurn, hI]
    refine ⟨k + 1, _, p6, _, _, _, rfl, hk2, ?_, ?_, hp6.mono (by simp; omega), rfl⟩
    · simp only [keys, List.map_append] at hkeys ⊢
      rw [hkeys, List.take_succ_eq_append_getElem hkn]; rfl
    · intro x hx
      rcases List.mem_append.mp hx with z | z
      · exact hvals x z
      · rw [List.mem_singleton.mp z]
        refine ⟨hu1, hu2, hu3, fun y hy => ?_⟩
        obtain ⟨i, hi, rfl⟩ := List.mem_take_iff_getElem.mp (hu4 y hy)
        refine ⟨List.getElem_mem _, ?_⟩
        rw [hnd.idxOf_getElem, hnd.idxOf_getElem]
        omega
  · intro r h
    rw [hI] at h
    obtain ⟨k, m, p3, b6, b7, b8, e, hk, hkeys, hvals, hp3, rfl⟩ := h
    have hk2 := drop_end e hk
    have hk3 : k = order.length := by simpa [enumV] using hk2
    subst hk3
    rw [List.take_length] at hkeys
    simp? only []
    refine q m p3 ⟨by rw [hkeys]; exact hnd, fun s hs => ?_, fun x hx => ⟨(hvals x hx).1, fun y hy => ?_⟩⟩ ⟨order.idxOf, fun x hx y hy => ((hvals x hx).2.2.2 y hy).2⟩ (fun s hs => ?_) (fun s => ?_) (hp3.mono (by omega))
    · rw [hkeys] at hs; exact hperm.mem_iff.mp hs
    · exact hperm.mem_iff.mp ((hvals x hx).2.2.2 y hy).1
    · rw [hkeys]; exact hperm.mem_iff.mpr hs
    · by_cases hs : s ∈ keys m
      · have := hvals _ (getN_key hs)
        exact ⟨this.2.1, this.2.2.1⟩
      · rw [getN_nil hs]
        exact ⟨by simp, (srt_unique (.refl _) .nil)⟩
end K21
namespace K21
open PySem L2 M PN PR PQ PT
def tb_bars : SF := (seq (ifS (tst (bin PneX (oV (bin Pix (oS 2) (oV (cst (.int 1))))) (oV (bin Pix (oS 3) (oV (cst (.int 1))))))) (ret (bin Pgt (oV (bin Pix (oS 2) (oV (cst (.int 1))))) (oV (bin Pix (oS 3) (oV (cst (.int 1))))))) skip)
    (ret (bin Pgt (oV (prim Pindex (osCons (oTy "list" (oS 0)) (osCons (oV (bin Pix (oS 2) (oV (cst (.int 0))))) osNil)))) (oV (prim Pindex (osCons (oTy "list" (oS 0)) (osCons (oV (bin Pix (oS 3) (oV (cst (.int 0))))) osNil)))))))
theorem tb_bars_eq : b__law_bars = seq (ifS (andB (tst (bin PneX (oV (bin Pix (oS 2) (oV (cst (.int 0))))) (oV (bin Pix (oS 3) (oV (cst (.int 0))))))) (tst (bin PnotInX (oV (bin Pix (oS 2) (oV (cst (.int 0))))) (oV (bin Pix (oS 1) (oV (bin Pix (oS 3) (oV (cst (.int 0)))))))))) (ret (cst (.bl false))) skip) (tb_bars) := rfl
structure Pgs (rows : List Str) (m : Nd) : Prop where
  rw_ : Rows rows
  raw : Raw rows m
  ac : Acyc m
  ks : ∀ s ∈ rows, s ∈ keys m
  so : ∀ s, (getN m s).length ≤ 25 ∧ getN m s = srt (getN m s)
abbrev blE (p : Str × List Str) : Str × Val := (p.1, .lst (p.2.map .str))
abbrev encB (cl : Nd) : Val := .dct false (sd (cl.map blE))
theorem blE_keys (cl : Nd) : (cl.map blE).map (·.1) = keys cl := by
  rw [List.map_map]; rfl
theorem blE_get (cl : Nd) (k : Str) : (cl.map blE).lookup k = (cl.lookup k).map fun vs => .lst (vs.map .str) := by
  induction cl with
  | nil => rfl
  | cons p cl ih =>
    obtain ⟨a, b⟩ := p
    simp only [List.map_cons, List.lookup_cons]
    cases k == a <;> simp [ih]
theorem pix_bl (cl : Nd) (s : Str) (h : s ∈ keys cl) : Pix [encB cl, .str s] = some (false, .lst ((getN cl s).map .str)) := by
  obtain ⟨v, e⟩ := lookup_some h
  rw [pix_sd, blE_get, getN, e]; rfl
/-- what each row depends on -/
structure Blw (rows : List Str) (m bl : Nd) : Prop where
  ks : ∀ s ∈ rows, s ∈ keys bl
  ok : ∀ s ∈ keys bl, (∀ y ∈ getN bl s, y ∈ rows) ∧ ∀ y, y ∈ getN bl s ↔ Dep m s y
theorem Blw.dec {rows : List Str} {m bl : Nd} (h : Blw rows m bl) {a y : Str} (ha : a ∈ rows) : decide (y ∈ getN bl a) = depB m a y :=
  depB_eq (by rw [decide_eq_true_iff]; exact (h.ok a (h.ks a ha)).2 y)
theorem pidx_rows {rows : List Str} (hr : Rows rows) {s : Str} (h : s ∈ rows) : Pindex [.lst (rows.map .str), .str s] = some (false, .int (rows.idxOf s : Nat)) := by
  obtain ⟨j, hj, e1, e2, e3⟩ := pindex_strs h (hr.nm s h).cp fun y hy => (hr.nm y hy).cp
  have hj2 : rows[j] = s := by rw [List.getElem?_eq_getElem hj] at e1; exact Option.some.inj e1
  have : rows.idxOf s = j := by rw [← hj2]; exact hr.nd.idxOf_getElem j hj
  rw [e3, this]
theorem bars_tail {rows : List Str} {bl : Nd} {a b : Cp} {Q : SR → Prop} (hr : Rows rows) (ha : a.1 ∈ rows) (hb : b.1 ∈ rows)
    (q : Q (.rt false (.bl (gtP a.2 (rows.idxOf a.1 : Nat) b.2 (rows.idxOf b.1 : Nat))) [some (false, .lst (rows.map .str)), some (false, encB bl), some (false, cpV a), some (false, cpV b)])) :
    wS tb_bars [some (false, .lst (rows.map .str)), some (false, encB bl), some (false, cpV a), some (false, cpV b)] Q := by
  unfold tb_bars
  by_cases e : a.2 = b.2
  · have g : gtP a.2 (rows.idxOf a.1 : Nat) b.2 (rows.idxOf b.1 : Nat) = decide (((rows.idxOf a.1 : Nat) : Int) > (rows.idxOf b.1 : Nat)) := by
      unfold gtP; rw [e]; exact decide_eq_decide.mpr (by omega)
    rw [g] at q
    simp? only [cp1, cp0, pneI, e, ne_eq, not_true_eq_false, decide_false, decide_true, Bool.not_true, tyOf, pidx_rows hr ha, pidx_rows hr hb]
    exact q
  · have g : gtP a.2 (rows.idxOf a.1 : Nat) b.2 (rows.idxOf b.1 : Nat) = decide (a.2 > b.2) := by
      unfold gtP; exact decide_eq_decide.mpr (by omega)
    rw [g] at q
    simp? only [cp1, pneI, e, ne_eq, not_false_eq_true, decide_true, decide_false, Bool.not_false]
    exact q
theorem bars_wp {rows : List Str} {m bl : Nd} {a b : Cp} {K : GR → Prop} (hr : Rows rows) (hB : Blw rows m bl) (ha : a.1 ∈ rows) (hb : b.1 ∈ rows) (q : K (.ok false (.bl (barB rows m a b)) none)) :
    wG g__law_bars [(false, .lst (rows.map .str)), (false, encB bl), (false, cpV a), (false, cpV b)] K := by
  have hk := hB.ks _ hb
  have hl := pnotin_lst a.1 (getN bl b.1) (hr.nm _ ha).cp fun y hy => (hr.nm y ((hB.ok _ hk).1 y hy)).cp
  rw [hB.dec hb] at hl
  unfold g__law_bars
  rw [wG_run (by rfl) (by simp [ownIx])]
  obtain ⟨T, hT⟩ : ∃ T, T = tb_bars := ⟨_, rfl⟩
  rw [tb_bars_eq, ← hT]
  unfold barB at q
  by_cases e : a.1 = b.1
  · simp only [e, decide_true, Bool.true_or, Bool.true_and] at q
    simp? only [cp0, pneT, e, ne_eq, not_true_eq_false, decide_false, decide_true, Bool.not_true]
    rw [hT]
    refine bars_tail hr ha hb ?_
    simp? only [e]
    exact q
  · simp only [e, decide_false, Bool.false_or] at q
    by_cases d : depB m b.1 a.1 = true
    · simp only [d, Bool.true_and] at q
      rw [d] at hl
      simp? only [cp0, pneT, e, ne_eq, not_false_eq_true, decide_true, decide_false, Bool.not_false, pix_bl bl b.1 hk, hl, Bool.not_true]
      rw [hT]
      refine bars_tail hr ha hb ?_
      simp? only []
      exact q
    · have d : depB m b.1 a.1 = false := by simpa using d
      simp only [d, Bool.false_and] at q
      rw [d] at hl
      simp? only [cp0, pneT, e, ne_eq, not_false_eq_true, decide_true, decide_false, Bool.not_false, pix_bl bl b.1 hk, hl]
      exact q
end K21
namespace K21
open PySem L2 M PN PR PQ PT
abbrev bE (m bl : Nd) (t : Str) (sm lf : List Str) (s5 : M.Slot) : M.Env := [some (false, enc m), some (true, encB bl), some (false, .str t), some (true, .lst (sm.map .str)), some (true, .lst (lf.map .str)), s5]
structure StI (rows : List Str) (m : Nd) (t : Str) (sm lf : List Str) : Prop where
  nd : sm.Nodup
  sr : ∀ y ∈ sm, y ∈ rows ∧ Dep m t y
  lr : ∀ y ∈ lf, y ∈ rows ∧ Dep m t y
  c1 : ∀ y ∈ getN m t, y ∈ sm ∨ y ∈ lf
  c2 : ∀ y ∈ sm, ∀ z ∈ getN m y, z ∈ sm ∨ z ∈ lf
theorem StI.all {rows : List Str} {m : Nd} {t : Str} {sm : List Str} (h : StI rows m t sm []) {y : Str} (d : Dep m t y) : y ∈ sm := by
  have g : ∀ a b, Dep m a b → a ∈ sm → b ∈ sm := by
    intro a b d
    induction d with
    | one hb => intro ha; exact (h.c2 _ ha _ hb).resolve_right (by simp)
    | more hb _ ih => intro ha; exact ih ((h.c2 _ ha _ hb).resolve_right (by simp))
  cases d with
  | one hb => exact (h.c1 _ hb).resolve_right (by simp)
  | more hb d => exact g _ _ d ((h.c1 _ hb).resolve_right (by simp))
theorem below_one {rows : List Str} {m bl : Nd} {t : Str} {s3 s4 s5 : M.Slot} {Q : SR → Prop} (hg : Pgs rows m) (hl : rows.length ≤ 30) (ht : t ∈ rows) (hn : t ∉ keys bl) (hb : bl.length ≤ 60)
    (q : ∀ sm r, (∀ y ∈ sm, y ∈ rows) → (∀ y, y ∈ sm ↔ Dep m t y) → (∃ s2 s3 s4 s5, r = [some (false, enc m), some (true, encB (bl ++ [(t, sm)])), s2, s3, s4, s5]) → Q (.nx r)) :
    wS L3__law_below [some (false, enc m), some (true, encB bl), some (false, .str t), s3, s4, s5] Q := by
  have hk := hg.ks t ht
  have hd : ∀ {a y : Str}, y ∈ getN m a → y ∈ rows := fun {a y} hy => by
    by_cases ha : a ∈ keys m
    · exact (hg.raw.vl _ (getN_key ha)).2 y hy
    · rw [getN_nil ha] at hy; cases hy
  have hcp : ∀ {y : Str}, y ∈ rows → CpOk y := fun {y} hy => (hg.rw_.nm y hy).cp
  unfold L3__law_below
  simp? only [pix_en m t hk]
  obtain ⟨I, hI⟩ : ∃ I : Nat → M.Env → Prop, I = fun k r => ∃ (sm lf : List Str) (s5 : M.Slot), k = lf.length + 26 * (rows.length - sm.length) ∧ k ≤ 2000 ∧ StI rows m t sm lf ∧ r = bE m bl t sm lf s5 := ⟨_, rfl⟩
  have h0 := (hg.so t).1
  refine wW_inv I ?_ 1000 ((getN m t).length + 26 * (rows.length - 0)) _ (by omega) (by
    rw [hI]
    exact ⟨[], getN m t, s5, rfl, by omega, ⟨.nil, by simp, fun y hy => ⟨hd hy, .one hy⟩, fun y hy => .inr hy, by simp⟩, rfl⟩)
  intro k r hh
  rw [hI] at hh
  obtain ⟨sm, lf, s5, hkm, hk2, h, rfl⟩ := hh
  have hsl := nodup_len h.nd fun y hy => (h.sr y hy).1
  have hpn := pne_nilX lf fun y hy => hcp (h.lr y hy).1
  by_cases e : lf = []
  · subst e
    have hpx : putIx (encB bl) (.str t) (.lst (sm.map .str)) = some (encB (bl ++ [(t, sm)])) := by
      have := putIx_new (v := .lst (sm.map .str)) (ps := bl.map blE) (by rw [blE_keys]; exact hn) (by simp; omega)
      rw [show bl.map blE ++ [(t, Val.lst (sm.map .str))] = (bl ++ [(t, sm)]).map blE by simp] at this
      exact this
    simp only [List.map_nil, decide_true, Bool.not_true] at hpn
    simp? only [W2__law_below, List.map_nil, hpn, kTurnW]
    simp? only [hpx]
    exact q sm _ (fun y hy => (h.sr y hy).1) (fun y => ⟨fun hy => (h.sr y hy).2, h.all⟩) ⟨_, _, _, _, rfl⟩
  · obtain ⟨l, x, rfl⟩ : ∃ l x, lf = l ++ [x] := ⟨lf.dropLast, lf.getLast e, (List.dropLast_concat_getLast e).symm⟩
    have hx := h.lr x (by simp)
    have hpop : Mpop (.lst ((l ++ [x]).map Val.str)) [] = some (.lst (l.map .str), .str x) := by
      have e1 : ((l ++ [x]).map Val.str)[((l ++ [x]).map Val.str).length - 1]? = some (.str x) := by simp
      simp only [Mpop, e1]
      simp
    have hnl := pnotin_lst x sm (hcp hx.1) fun y hy => hcp (h.sr y hy).1
    simp only [e, decide_false, Bool.not_false] at hpn
    simp? only [W2__law_below, hpn, kTurnW, L1__law_below, tyOf, hpop, hnl]
    by_cases hin : x ∈ sm
    · simp? only [hin, decide_true, Bool.not_true, kTurn]
      rw [hI]
      have hlt : l.length + 26 * (rows.length - sm.length) < k := by rw [hkm, List.length_append]; simp
      refine ⟨_, hlt, sm, l, _, rfl, by omega, ⟨h.nd, h.sr, fun y hy => h.lr y (List.mem_append_left _ hy), fun y hy => ?_, fun y hy z hz => ?_⟩, rfl⟩
      · rcases h.c1 y hy with z | z
        · exact .inl z
        · rcases List.mem_append.mp z with z | z
          · exact .inr z
          · rw [List.mem_singleton.mp z]; exact .inl hin
      · rcases h.c2 y hy z hz with w | w
        · exact .inl w
        · rcases List.mem_append.mp w with w | w
          · exact .inr w
          · rw [List.mem_singleton.mp w]; exact .inl hin
    · have hkx := hg.ks x hx.1
      have hxl := (hg.so x).1
      have hll : l.length + (getN m x).length ≤ 100000 := by
        rw [List.length_append] at hkm
        omega
      have happ : Mappend (.lst (sm.map .str)) [.str x] = some (.lst ((sm ++ [x]).map .str), .non) := by
        simp only [Mappend]
        rw [if_pos (by rw [List.length_map]; omega), List.map_append]
        rfl
      have hext : Mextend (.lst (l.map .str)) [.lst ((getN m x).map .str)] = some (.lst ((l ++ getN m x).map .str), .non) := by
        simp only [Mextend]
        rw [if_pos (by rw [List.length_map, List.length_map]; exact hll), List.map_append]
      have hsl2 := nodup_len (l := sm ++ [x]) (by
        rw [List.nodup_append]
        exact ⟨h.nd, by simp, fun a ha b hb e => hin (by rw [List.mem_singleton.mp hb] at e; rw [← e]; exact ha)⟩) fun y hy => by
          rcases List.mem_append.mp hy with z | z
          · exact (h.sr y z).1
          · rw [List.mem_singleton.mp z]; exact hx.1
      rw [List.length_append] at hsl2
      simp only [List.length_cons, List.length_nil] at hsl2
      simp? only [hin, decide_false, Bool.not_false, tyOf, happ, pix_en m x hkx, hext, kTurn]
      rw [hI]
      have hlt : (l ++ getN m x).length + 26 * (rows.length - (sm ++ [x]).length) < k := by
        rw [hkm, List.length_append, List.length_append, List.length_append]
        simp only [List.length_cons, List.length_nil]
        omega
      refine ⟨_, hlt, sm ++ [x], l ++ getN m x, _, rfl, by omega, ⟨?_, fun y hy => ?_, fun y hy => ?_, fun y hy => ?_, fun y hy z hz => ?_⟩, rfl⟩
      · rw [List.nodup_append]
        exact ⟨h.nd, by simp, fun a ha b hb e => hin (by rw [List.mem_singleton.mp hb] at e; rw [← e]; exact ha)⟩
      · rcases List.mem_append.mp hy with z | z
        · exact h.sr y z
        · rw [List.mem_singleton.mp z]; exact hx
      · rcases List.mem_append.mp hy with z | z
        · exact h.lr y (List.mem_append_left _ z)
        · exact ⟨hd z, hx.2.trans (.one z)⟩
      · rcases h.c1 y hy with z | z
        · exact .inl (List.mem_append_left _ z)
        · rcases List.mem_append.mp z with z | z
          · exact .inr (List.mem_append_left _ z)
          · exact .inl (List.mem_append_right _ z)
      · rcases List.mem_append.mp hy with w | w
        · rcases h.c2 y w z hz with v | v
          · exact .inl (List.mem_append_left _ v)
          · rcases List.mem_append.mp v with v | v
            · exact .inr (List.mem_append_left _ v)
            · exact .inl (List.mem_append_right _ v)
        · rw [List.mem_singleton.mp w] at hz
          exact .inr (List.mem_append_right _ hz)
theorem below_wp {rows : List Str} {m : Nd} {K : GR → Prop} (hg : Pgs rows m) (hl : rows.length ≤ 30) (q : ∀ bl, Blw rows m bl → K (.ok true (encB bl) none)) : wG g__law_below [(false, enc m)] K := by
  have hml : m.length ≤ rows.length := by
    have := nodup_len hg.raw.nd hg.raw.ks
    simpa [keys] using this
  have hkl : (keys m).length = m.length := by simp [keys]
  unfold g__law_below
  rw [wG_run (by rfl) (by simp [ownIx])]
  unfold b__law_below
  have hit : List.map (fun x : Val × Val => x.1) (sd (en m)) = (keys m).map Val.str := by simp [sd, en, keys]
  simp? only [hit]
  obtain ⟨I, hI⟩ : ∃ I : List Val → M.Env → Prop, I = fun vs r => ∃ (k : Nat) (bl : Nd) (s2 s3 s4 s5 : M.Slot), vs = ((keys m).map Val.str).drop k ∧ k ≤ ((keys m).map Val.str).length ∧ keys bl = (keys m).take k ∧ (∀ p ∈ bl, (∀ y ∈ p.2, y ∈ rows) ∧ ∀ y, y ∈ p.2 ↔ Dep m p.1 y) ∧ r = [some (false, enc m), some (true, encB bl), s2, s3, s4, s5] := ⟨_, rfl⟩
  refine wL_inv I ?_ ?_ _ _ (by rw [hI]; exact ⟨0, [], none, none, none, none, rfl, by omega, by simp [keys], by simp, rfl⟩)
  · intro v vs r hh
    rw [hI] at hh
    obtain ⟨k, bl, s2, s3, s4, s5, e, hk, hkeys, hv, rfl⟩ := hh
    obtain ⟨hk2, rfl, rfl⟩ := drop_step e
    rw [List.getElem_map]
    have hkn : k < (keys m).length := by simpa using hk2
    have ht := hg.raw.ks _ (List.getElem_mem hkn)
    have hfr : (keys m)[k] ∉ keys bl := by
      rw [hkeys]
      intro z
      obtain ⟨i, hi, ei⟩ := List.mem_take_iff_getElem.mp z
      have := (List.getElem_inj hg.raw.nd).mp ei
      omega
    have hbl : bl.length ≤ 60 := by
      have := congrArg List.length hkeys
      rw [List.length_take] at this
      have e2 : (keys bl).length = bl.length := by simp [keys]
      have := hg.rw_.len
      omega
    obtain ⟨t, hT⟩ : ∃ t, t = (keys m)[k] := ⟨_, rfl⟩
    rw [← hT] at ht hfr ⊢
    simp only [M.kT, M.tgN, List.set_cons_succ, List.set_cons_zero]
    refine below_one hg hl ht hfr hbl fun sm r h1 h2 h3 => ?_
    obtain ⟨s2, s3, s4, s5, rfl⟩ := h3
    rw [kTurn, hI]
    refine ⟨k + 1, bl ++ [(t, sm)], _, _, _, _, rfl, hk2, ?_, fun p hp => ?_, rfl⟩
    · rw [List.take_succ_eq_append_getElem hkn, ← hkeys, ← hT]
      simp [keys]
    · rcases List.mem_append.mp hp with z | z
      · exact hv p z
      · rw [List.mem_singleton.mp z]; exact ⟨h1, h2⟩
  · intro r hh
    rw [hI] at hh
    obtain ⟨k, bl, s2, s3, s4, s5, e, hk, hkeys, hv, rfl⟩ := hh
    have hk2 := drop_end e hk
    rw [List.length_map] at hk2
    subst hk2
    rw [List.take_length] at hkeys
    simp? only []
    refine q bl ⟨fun s hs => by rw [hkeys]; exact hg.ks s hs, fun s hs => ?_⟩
    exact hv _ (getN_key hs)
end K21
namespace K21
open PySem L2 M PN PR PQ PT
theorem barB_iff {rows : List Str} {m : Nd} {a b : Cp} : barB rows m a b = true ↔ (a.1 = b.1 ∨ Dep m b.1 a.1) ∧ (b.2 < a.2 ∨ (a.2 = b.2 ∧ rows.idxOf b.1 < rows.idxOf a.1)) := by
  unfold barB gtP
  rw [Bool.and_eq_true, Bool.or_eq_true, decide_eq_true_iff, decide_eq_true_iff, depB_iff]
  constructor
  · rintro ⟨h1, h2⟩
    exact ⟨h1, by omega⟩
  · rintro ⟨h1, h2⟩
    exact ⟨h1, by omega⟩
theorem bar_tr {rows : List Str} {m : Nd} {a b c : Cp} (h : barB rows m a b = true) (k : barB rows m b c = true) : barB rows m a c = true := by
  rw [barB_iff] at h k ⊢
  obtain ⟨h1, h2⟩ := h
  obtain ⟨k1, k2⟩ := k
  refine ⟨?_, by omega⟩
  rcases h1 with h1 | h1 <;> rcases k1 with k1 | k1
  · exact .inl (h1.trans k1)
  · exact .inr (by rw [h1]; exact k1)
  · exact .inr (by rw [← k1]; exact h1)
  · exact .inr (k1.trans h1)
theorem bar_ir {rows : List Str} {m : Nd} (a : Cp) : barB rows m a a = false := by
  refine Bool.eq_false_iff.mpr fun h => ?_
  rw [barB_iff] at h
  omega
theorem bar_as {rows : List Str} {m : Nd} {a b : Cp} (h : barB rows m a b = true) : barB rows m b a = false := by
  refine Bool.eq_false_iff.mpr fun k => ?_
  rw [barB_iff] at h k
  omega
abbrev prV (p : Cp × Cp) : Val := .tup [cpV p.1, cpV p.2]
abbrev qC (c : Cp) : NestedKey := .tup [.text c.1, .num c.2]
abbrev qP (p : Cp × Cp) : NestedKey := .tup [qC p.1, qC p.2]
theorem keyN_pr (p : Cp × Cp) : keyN (prV p) = some (qP p) := rfl
theorem keyT_pr (p : Cp × Cp) : keyT (prV p) = some (qP p) := rfl
theorem qP_inj {p r : Cp × Cp} (h : qP p = qP r) : p = r := by
  obtain ⟨⟨a, i⟩, b, j⟩ := p
  obtain ⟨⟨c, k⟩, d, l⟩ := r
  simp only [qP, qC, NestedKey.tup.injEq, List.cons.injEq, and_true, NestedKey.text.injEq, NestedKey.num.injEq] at h
  obtain ⟨⟨h1, h2⟩, h3, h4⟩ := h
  subst h1 h2 h3 h4
  rfl
def tabD (f : Cp × Cp → Bool) (ps : List (Cp × Cp)) : List (Val × Val) := ps.map fun p => (prV p, .bl (f p))
section
variable {f : Cp × Cp → Bool} {ps : List (Cp × Cp)} {p : Cp × Cp}
theorem keyN_iff {r : Cp × Cp} : keyN (prV r) = some (qP p) ↔ r = p := by
  rw [keyN_pr]
  exact ⟨fun h => qP_inj (Option.some.inj h), fun h => by rw [h]⟩
theorem tab_all (f : Cp × Cp → Bool) (ps : List (Cp × Cp)) : allT (tabD f ps) = true := by
  unfold allT tabD
  rw [List.all_map, List.all_eq_true]
  intro p _
  show (keyT (prV p)).isSome = true
  rw [keyT_pr]; rfl
theorem tab_has : hasX (tabD f ps) (qP p) = decide (p ∈ ps) := by
  unfold hasX tabD
  rw [List.any_map, Bool.eq_iff_iff, List.any_eq_true, decide_eq_true_iff]
  constructor
  · rintro ⟨r, hr, e⟩
    have e : decide (keyN (prV r) = some (qP p)) = true := e
    rw [decide_eq_true_iff] at e
    rw [← keyN_iff.mp e]; exact hr
  · intro h
    exact ⟨p, h, decide_eq_true (keyN_iff.mpr rfl)⟩
theorem tab_get (h : p ∈ ps) : getX (tabD f ps) (qP p) = some (.bl (f p)) := by
  unfold getX
  induction ps with
  | nil => cases h
  | cons r ps ih =>
    by_cases e : r = p
    · subst e
      have : keyN (prV r) = some (qP r) := rfl
      simp only [tabD, List.map_cons, List.find?_cons, decide_eq_true this, Option.map_some]
    · have n : decide (keyN (prV r) = some (qP p)) = false := decide_eq_false fun z => e (keyN_iff.mp z)
      have ih := ih ((List.mem_cons.mp h).resolve_left fun z => e z.symm)
      simp only [tabD, List.map_cons, List.find?_cons, n] at ih ⊢
      exact ih
def addP (ps : List (Cp × Cp)) (p : Cp × Cp) : List (Cp × Cp) := if p ∈ ps then ps else ps ++ [p]
theorem addP_mem {r : Cp × Cp} : r ∈ addP ps p ↔ r ∈ ps ∨ r = p := by
  unfold addP
  split
  · rename_i h
    exact ⟨.inl, fun z => z.elim id fun z => by rw [z]; exact h⟩
  · rw [List.mem_append, List.mem_singleton]
theorem addP_len : (addP ps p).length ≤ ps.length + 1 := by
  unfold addP
  split
  · omega
  · rw [List.length_append]; exact Nat.le_refl _
theorem tab_put (hl : ps.length < 100000) : putIxT (.dct true (tabD f ps)) (prV p) (.bl (f p)) = some (.dct true (tabD f (addP ps p))) := by
  have e1 : PputX (tabD f ps) (prV p) (.bl (f p)) = some (putX (tabD f ps) (prV p) (qP p) (.bl (f p))) := by
    unfold PputX
    rw [keyT_pr]
    simp only [tab_all, true_and]
    rw [if_pos (by unfold tabD; rw [List.length_map]; exact hl)]
  show (PputX (tabD f ps) (prV p) (.bl (f p))).map (Val.dct true) = _
  rw [e1, Option.map_some]
  congr 2
  unfold putX addP
  rw [tab_has]
  by_cases h : p ∈ ps
  · rw [decide_eq_true h, if_pos rfl, if_pos h]
    unfold tabD
    rw [List.map_map]
    refine List.map_congr_left fun r _ => ?_
    show (if keyN (prV r) = some (qP p) then (prV r, Val.bl (f p)) else (prV r, Val.bl (f r))) = _
    by_cases e : r = p
    · subst e; rw [if_pos (keyN_pr r)]
    · rw [if_neg fun z => e (keyN_iff.mp z)]
  · rw [decide_eq_false h, if_neg (by decide), if_neg h]
    unfold tabD
    rw [List.map_append]
    rfl
theorem tab_ix (h : p ∈ ps) : PixZ [.dct true (tabD f ps), prV p] = some (false, .bl (f p)) := by
  have h1 : Pix [.dct true (tabD f ps), prV p] = none := rfl
  have h2 : PixT [.dct true (tabD f ps), prV p] = some (false, .bl (f p)) := by
    unfold PixT
    simp only [keyT_pr, tab_all, if_true, tab_get h, Option.map_some]
  unfold PixZ orP
  simp only [h1, h2]
end
theorem bars2_wp {rows : List Str} {m : Nd} {a b : Cp} {K : GR → Prop} (h : Sh rows m) (ha : a.1 ∈ rows) (hb : b.1 ∈ rows) (q : K (.ok false (.bl (barB rows m a b)) none)) : wG g_bars [(false, sheetV rows m), (false, cpV a), (false, cpV b)] K := by
  unfold g_bars
  rw [wG_run (by rfl) (by simp [ownIx])]
  unfold b_bars
  simp? only [f_order]
  refine closure_wp h fun cl hC hk => ?_
  simp? only []
  refine is_bar_wp hC ha hb (hk _ hb) ?_
  simp? only []
  exact q
theorem place_of_wp {rows : List Str} {m : Nd} {c : Cp} {K : GR → Prop} (h : c.1 ∈ rows) (q : K (.ok false (.tup [.int c.2, .int (rows.idxOf c.1 : Nat)]) none)) : wG g_place_of [(false, sheetV rows m), (false, cpV c)] K := by
  unfold g_place_of
  rw [wG_run (by rfl) (by simp [ownIx])]
  unfold b_place_of
  simp? only [f_order]
  refine place_in_wp h ?_
  simp? only []
  exact q
end K21
namespace K21
open PySem L2 M PN PR PQ PT
theorem shp_cp {c : Cp} (h : CpOk c.1) : shp (PT.cpD c) = true := by
  have hs' := strOk_iff.mpr h
  show SeqAt.shaped _ = true
  unfold SeqAt.shaped
  simp only [PyData.canLay0, PyData.canLayAll0, hs', PyData.depth, PyData.depthAll]
  simp
theorem shp_cpl {cs : List Cp} (h : ∀ c ∈ cs, CpOk c.1) : shp (.list (cs.map PT.cpD)) = true := by
  have k : ∀ l : List Cp, (∀ t ∈ l, CpOk t.1) → PyData.canLayAll0 (l.map PT.cpD) = true ∧ PyData.depthAll (l.map PT.cpD) ≤ 1 := by
    intro l
    induction l with
    | nil => intro _; exact ⟨rfl, by simp [PyData.depthAll]⟩
    | cons t l ih =>
      intro h
      obtain ⟨h1, h2⟩ := ih fun u hu => h u (List.mem_cons_of_mem _ hu)
      have hs := strOk_iff.mpr (h t (by simp))
      refine ⟨by simp [PyData.canLayAll0, PyData.canLay0, hs, h1], ?_⟩
      simp only [List.map_cons, PyData.depthAll, PyData.depth]
      omega
  obtain ⟨h1, h2⟩ := k cs h
  show SeqAt.shaped _ = true
  unfold SeqAt.shaped
  rw [PyData.canLay0, h1, PyData.depth]
  simp
  omega
theorem pin_cpl {c : Cp} {cs : List Cp} (hc : CpOk c.1) (h : ∀ d ∈ cs, CpOk d.1) : PinX [cpV c, .lst (cs.map cpV)] = some (false, .bl (decide (c ∈ cs))) ∧ PnotInX [cpV c, .lst (cs.map cpV)] = some (false, .bl (!decide (c ∈ cs))) := by
  have e1 : toD (cpV c) = some (PT.cpD c) := by simp [toD, toDs]
  have e2 := PT.toDs_cps cs
  have h1 := shp_cp hc
  have h2 := shp_cpl h
  have e3 : inOf (cpV c) (.lst (cs.map cpV)) = some (decide (c ∈ cs)) := by
    simp only [inOf, e1, e2, h1, h2, and_self, if_true]
    exact congrArg some (any_cps c cs)
  have d1 : PinD [cpV c, .lst (cs.map cpV)] = none := rfl
  have d2 : PnotInD [cpV c, .lst (cs.map cpV)] = none := rfl
  refine ⟨?_, ?_⟩
  · simp only [PinX, orP, d1, Pin, e3]
  · simp only [PnotInX, orP, d2, PnotIn, e3]
noncomputable def barF (rows : List Str) (m : Nd) (p : Cp × Cp) : Bool := barB rows m p.1 p.2
noncomputable abbrev oE (rows : List Str) (m : Nd) (cs : List Cp) (ps : List (Cp × Cp)) (s3 s4 s5 s6 : M.Slot) : M.Env := [some (false, sheetV rows m), some (false, .lst (cs.map cpV)), some (true, .dct true (tabD (barF rows m) ps)), s3, s4, s5, s6]
theorem repr_bl (b : Bool) : ∃ z, PreprX [.bl b] = some (false, .str z) := by cases b <;> exact ⟨_, rfl⟩
section
variable {rows : List Str} {m : Nd} {cs : List Cp} {ps : List (Cp × Cp)}
theorem tab_at (hps : ∀ a ∈ cs, ∀ b ∈ cs, (a, b) ∈ ps) {a b : Cp} (ha : a ∈ cs) (hb : b ∈ cs) : PixZ [.dct true (tabD (barF rows m) ps), .tup [cpV a, cpV b]] = some (false, .bl (barB rows m a b)) := tab_ix (p := (a, b)) (hps a ha b hb)
theorem order_in {a x : Cp} {s6 : M.Slot} {t4 : M.Slot} {Q : SR → Prop} (hl : cs.length ≤ 1000) (hps : ∀ a ∈ cs, ∀ b ∈ cs, (a, b) ∈ ps) (ha : a ∈ cs) (hx : x ∈ cs) (h : barB rows m a x = true)
    (q : Q (.nx (oE rows m cs ps (some (false, cpV a)) t4 (some (false, cpV x)) s6))) : wS L7__law_order_right (oE rows m cs ps (some (false, cpV a)) t4 (some (false, cpV x)) s6) Q := by
  unfold L7__law_order_right
  simp? only []
  refine wC_map (env := oE rows m cs ps (some (false, cpV a)) t4 (some (false, cpV x)) none) cpV cpV (fun y => barB rows m x y && !barB rows m a y) cs (fun y hy => ⟨_, rfl, ?_, rfl, fun _ => ?_⟩) (by omega) ?_
  · simp? only [F6__law_order_right, tab_at hps hx hy]
    cases barB rows m x y
    · simp? only [Bool.false_and]
    · simp? only [tab_at hps ha hy, Bool.true_and]
  · simp? only [E5__law_order_right]
    exact ⟨_, _, rfl, rfl⟩
  have e : cs.filter (fun y => barB rows m x y && !barB rows m a y) = [] := by
    rw [List.filter_eq_nil_iff]
    intro y _ z
    rw [Bool.and_eq_true] at z
    rw [bar_tr h z.1] at z
    exact absurd z.2 (by decide)
  have n : PneX [.lst [], .lst []] = some (false, .bl false) := rfl
  rw [e]
  simp? only [List.map_nil, n]
  exact q
theorem order_lead {a : Cp} {s4 s5 s6 : M.Slot} {Q : SR → Prop} (hcp : ∀ c ∈ cs, CpOk c.1) (hl : cs.length ≤ 1000) (hps : ∀ a ∈ cs, ∀ b ∈ cs, (a, b) ∈ ps) (ha : a ∈ cs)
    (q : ∀ s4 s5 s6, Q (.nx (oE rows m cs ps (some (false, cpV a)) s4 s5 s6))) : wS L8__law_order_right (oE rows m cs ps (some (false, cpV a)) s4 s5 s6) Q := by
  unfold L8__law_order_right
  obtain ⟨T, hT⟩ : ∃ T, T = L7__law_order_right := ⟨_, rfl⟩
  rw [← hT]
  simp? only []
  refine wC_map (env := oE rows m cs ps (some (false, cpV a)) s4 none s6) cpV cpV (fun x => barB rows m a x) cs (fun y hy => ⟨_, rfl, ?_, rfl, fun _ => ?_⟩) (by omega) ?_
  · simp? only [F2__law_order_right, tab_at hps ha hy]
  · simp? only [E1__law_order_right]
    exact ⟨_, _, rfl, rfl⟩
  obtain ⟨fs, hfs⟩ : ∃ fs, fs = cs.filter fun x => barB rows m a x := ⟨_, rfl⟩
  have fm : ∀ x ∈ fs, x ∈ cs ∧ barB rows m a x = true := fun x hx => by rw [hfs] at hx; exact List.mem_filter.mp hx
  have fl : fs.length ≤ 1000 := by rw [hfs]; exact Nat.le_trans (List.length_filter_le _ _) hl
  rw [← hfs]
  have an : a ∉ fs := fun z => by have := (fm a z).2; rw [bar_ir] at this; cases this
  have pin := (pin_cpl (c := a) (cs := fs) (hcp a ha) fun d hd => hcp d (fm d hd).1).1
  rw [decide_eq_false an] at pin
  simp? only [pin]
  refine wC_map (env := oE rows m cs ps (some (false, cpV a)) _ none s6) cpV cpV (fun x => barB rows m x a) fs (fun y hy => ⟨_, rfl, ?_, rfl, fun _ => ?_⟩) (by omega) ?_
  · simp? only [F4__law_order_right, tab_at hps (fm y hy).1 ha]
  · simp? only [E3__law_order_right]
    exact ⟨_, _, rfl, rfl⟩
  have e : fs.filter (fun x => barB rows m x a) = [] := by
    rw [List.filter_eq_nil_iff]
    intro y hy z
    rw [bar_as (fm y hy).2] at z; cases z
  have n : PneX [.lst [], .lst []] = some (false, .bl false) := rfl
  rw [e]
  simp? only [List.map_nil, n]
  obtain ⟨I, hI⟩ : ∃ I : List Val → M.Env → Prop, I = fun vs r => ∃ (k : Nat) (s5 s6 : M.Slot), vs = (fs.map cpV).drop k ∧ k ≤ fs.length ∧ r = oE rows m cs ps (some (false, cpV a)) (some (false, .lst (fs.map cpV))) s5 s6 := ⟨_, rfl⟩
  refine wL_inv I ?_ ?_ _ _ (by rw [hI]; exact ⟨0, s5, s6, rfl, Nat.zero_le _, rfl⟩)
  · intro v vs r hh
    rw [hI] at hh
    obtain ⟨k, s5, s6, e, hk, rfl⟩ := hh
    obtain ⟨hk2, rfl, rfl⟩ := drop_step e
    have hk3 : k < fs.length := by simpa using hk2
    rw [List.getElem_map]
    simp? only []
    rw [hT]
    have hx := fm _ (List.getElem_mem hk3)
    refine order_in hl hps ha hx.1 hx.2 ?_
    rw [kTurn, hI]
    exact ⟨k + 1, _, _, rfl, hk3, rfl⟩
  · intro r hh
    rw [hI] at hh
    obtain ⟨k, s5, s6, e, hk, rfl⟩ := hh
    exact q _ _ _
theorem order_wp {K : GR → Prop} (h : Sh rows m) (hr : ∀ c ∈ cs, c.1 ∈ rows) (hcp : ∀ c ∈ cs, CpOk c.1) (h2 : 2 ≤ cs.length) (hl : cs.length ≤ 1000) (hps : ∀ a ∈ cs, ∀ b ∈ cs, (a, b) ∈ ps)
    (q : K (.ok false (.bl true) (some (true, .dct true (tabD (barF rows m) ps))))) : wG g__law_order_right [(false, sheetV rows m), (false, .lst (cs.map cpV)), (true, .dct true (tabD (barF rows m) ps))] K := by
  unfold g__law_order_right
  rw [wG_run (by rfl) (by simp [ownIx])]
  unfold b__law_order_right
  obtain ⟨T, hT⟩ : ∃ T, T = L8__law_order_right := ⟨_, rfl⟩
  rw [← hT]
  simp? only []
  obtain ⟨I, hI⟩ : ∃ I : List Val → M.Env → Prop, I = fun vs r => ∃ (k : Nat) (s3 s4 s5 s6 : M.Slot), vs = (cs.map cpV).drop k ∧ k ≤ cs.length ∧ r = oE rows m cs ps s3 s4 s5 s6 := ⟨_, rfl⟩
  refine wL_inv I ?_ ?_ _ _ (by rw [hI]; exact ⟨0, none, none, none, none, rfl, Nat.zero_le _, rfl⟩)
  · intro v vs r hh
    rw [hI] at hh
    obtain ⟨k, s3, s4, s5, s6, e, hk, rfl⟩ := hh
    obtain ⟨hk2, rfl, rfl⟩ := drop_step e
    have hk3 : k < cs.length := by simpa using hk2
    rw [List.getElem_map]
    simp? only []
    rw [hT]
    refine order_lead hcp hl hps (List.getElem_mem hk3) fun s4 s5 s6 => ?_
    rw [kTurn, hI]
    exact ⟨k + 1, _, _, _, _, rfl, hk3, rfl⟩
  · intro r hh
    rw [hI] at hh
    obtain ⟨k, s3, s4, s5, s6, e, hk, rfl⟩ := hh
    clear hI I
    have hx : cs[0] ∈ cs := List.getElem_mem (by omega)
    have hy : cs[1] ∈ cs := List.getElem_mem (by omega)
    have i0 : Pix [.lst (cs.map cpV), .int 0] = some (false, cpV cs[0]) := by
      rw [pix_lst (by decide) (by rw [List.length_map]; show 0 < _; omega)]; simp
    have i1 : Pix [.lst (cs.map cpV), .int 1] = some (false, cpV cs[1]) := by
      rw [pix_lst (by decide) (by rw [List.length_map]; show 1 < _; omega)]; simp
    have hpk : ∀ a b c : Hd, pick [2, 1, 0] [a, b, c] = some [c, b, a] := fun _ _ _ => rfl
    obtain ⟨z, hz⟩ := repr_bl (barB rows m cs[0] cs[1])
    have ht := tab_at (rows := rows) (m := m) hps hx hy
    obtain ⟨x, ex⟩ : ∃ x, x = cs[0] := ⟨_, rfl⟩
    obtain ⟨y, ey⟩ : ∃ y, y = cs[1] := ⟨_, rfl⟩
    rw [← ex, ← ey] at hz ht
    rw [← ex] at i0 hx
    rw [← ey] at i1 hy
    simp? only [i0, i1, hpk]
    refine bars2_wp h (hr _ hx) (hr _ hy) ?_
    simp? only [hz, i0, i1, ht, peq_same]
    exact q
end
end K21
namespace K21
open PySem L2 M PN PR PQ PT
def ta_law : SF := (seq (forS (itV (var 7)) (tgN 9) L4_law)
    (ifS (notB (tst (callG 3 g__law_order_right (osCons (oV (var 6)) (osCons (oV (var 7)) (osCons (oS 8) osNil)))))) (ret (cst (.bl false))) skip))
theorem dep_in {m m' : Nd} (h : ∀ s y, y ∈ getN m s → y ∈ getN m' s) {a b : Str} (d : Dep m a b) : Dep m' a b := by
  induction d with
  | one hb => exact .one (h _ _ hb)
  | more hb _ ih => exact .more (h _ _ hb) ih
theorem raw_dep {rows : List Str} {m : Nd} (h : Raw rows m) {a b : Str} : Dep m a b ↔ Dep (mkN rows m) a b := by
  have e : ∀ s y, y ∈ getN m s ↔ y ∈ getN (mkN rows m) s := fun s y => by
    by_cases hs : s ∈ rows
    · rw [mkN_get hs, srt_mem]
    · rw [getN_nil fun z => hs (h.ks s z), getN_nil (by rw [mkN_keys]; exact hs)]
  exact ⟨dep_in fun s y => (e s y).mp, dep_in fun s y => (e s y).mpr⟩
theorem blw_mk {rows : List Str} {m bl : Nd} (h : Blw rows m bl) (hr : Raw rows m) : Blw rows (mkN rows m) bl :=
  ⟨h.ks, fun s hs => ⟨(h.ok s hs).1, fun y => ((h.ok s hs).2 y).trans (raw_dep hr)⟩⟩
theorem pix4 (a b c e d : Int) (h0 : 0 ≤ d) (h1 : d < 4) : ∃ n : Int, Pix [.lst [.int a, .int b, .int c, .int e], .int d] = some (false, .int n) ∧ (n = a ∨ n = b ∨ n = c ∨ n = e) := by
  have : d = 0 ∨ d = 1 ∨ d = 2 ∨ d = 3 := by omega
  rcases this with rfl | rfl | rfl | rfl
  · exact ⟨a, rfl, .inl rfl⟩
  · exact ⟨b, rfl, .inr (.inl rfl)⟩
  · exact ⟨c, rfl, .inr (.inr (.inl rfl))⟩
  · exact ⟨e, rfl, .inr (.inr (.inr rfl))⟩
theorem pix2 (a b d : Int) (h0 : 0 ≤ d) (h1 : d < 2) : ∃ n : Int, Pix [.lst [.int a, .int b], .int d] = some (false, .int n) ∧ (n = a ∨ n = b) := by
  have : d = 0 ∨ d = 1 := by omega
  rcases this with rfl | rfl
  · exact ⟨a, rfl, .inl rfl⟩
  · exact ⟨b, rfl, .inr rfl⟩
theorem copy_wp {m0 : Int} {p : Val} {rows : List Str} {K : GR → Prop} (hp : Pen m0 p) (hm : m0 < 900000) (h1 : 1 ≤ rows.length) (h2 : rows.length ≤ 60)
    (q : ∀ (c : Cp) p', c.1 ∈ rows → 1 ≤ c.2 → c.2 ≤ 60 → Pen (m0 + 5) p' → K (.ok false (cpV c) (some (true, p')))) : wG g__law_copy [(true, p), (false, .lst (rows.map .str))] K := by
  have hpos := hp.pos
  have pa : ∀ a b : Int, Padd [.int a, .int b] = some (false, .int (a + b)) := fun _ _ => rfl
  have pl : Plen [.lst (rows.map .str)] = some (false, .int (rows.length : Nat)) := by
    have : Plen [.lst (rows.map Val.str)] = some (false, .int ((rows.map Val.str).length : Nat)) := rfl
    rw [this, List.length_map]
  unfold g__law_copy
  rw [wG_run (by rfl) (by simp [ownIx])]
  unfold b__law_copy
  simp? only []
  refine draw_wp hp (by omega) (by decide) (by decide) fun d1 p1 a0 a1 hp1 => ?_
  simp? only [pa]
  refine draw_wp hp1 (by omega) (by decide) (by decide) fun d2 p2 b0 b1 hp2 => ?_
  simp? only [pa]
  refine draw_wp hp2 (by omega) (by decide) (by decide) fun d3 p3 c0 c1 hp3 => ?_
  obtain ⟨n, en, hn⟩ := pix4 1 2 (1 + d1) (1 + d2) d3 c0 c1
  simp? only [en, pl]
  refine draw_wp hp3 (by omega) (by omega) (by omega) fun d4 p4 e0 e1 hp4 => ?_
  have hx := pix_strs (ss := rows) (i := d4) e0 (by omega)
  simp? only [hx]
  exact q (rows[d4.toNat]'(by omega), n) p4 (List.getElem_mem _) (by omega) (by omega) (hp4.mono (by omega))
noncomputable abbrev kE (s0 p : Val) (s2 s3 s4 s5 s6 s7 s8 s9 s10 s11 s12 s13 : M.Slot) : M.Env := [some (false, s0), some (true, p), s2, s3, s4, s5, s6, s7, s8, s9, s10, s11, s12, s13, none]
theorem copies_drawn {m0 : Int} {s0 p : Val} {rows : List Str} {s2 s4 s5 s6 s7 s8 s9 s10 s11 s12 s13 : M.Slot} {Q : AR → Prop} (hp : Pen m0 p) (hm : m0 < 800000) (h1 : 1 ≤ rows.length) (h2 : rows.length ≤ 60)
    (q : ∀ (cs : List Cp) p', cs.length = 8 → (∀ c ∈ cs, c.1 ∈ rows ∧ 1 ≤ c.2 ∧ c.2 ≤ 60) → Pen (m0 + 40) p' → Q (.ok (cs.map cpV) (kE s0 p' s2 (some (false, .lst (rows.map .str))) s4 s5 s6 s7 s8 s9 s10 s11 s12 s13))) :
    wC (M.tgN 14) yesB E1_law [14] (nums (8 : Int).toNat) [] (kE s0 p s2 (some (false, .lst (rows.map .str))) s4 s5 s6 s7 s8 s9 s10 s11 s12 s13) Q := by
  have hpos := hp.pos
  obtain ⟨I, hI⟩ : ∃ I : List Val → List Val → M.Env → Prop, I = fun vs acc r => ∃ (j : Nat) (cs : List Cp) (p4 : Val), vs = (nums (8 : Int).toNat).drop j ∧ j ≤ 8 ∧ acc = cs.map cpV ∧ cs.length = j ∧ (∀ c ∈ cs, c.1 ∈ rows ∧ 1 ≤ c.2 ∧ c.2 ≤ 60) ∧ Pen (m0 + 5 * j) p4 ∧ r = kE s0 p4 s2 (some (false, .lst (rows.map .str))) s4 s5 s6 s7 s8 s9 s10 s11 s12 s13 := ⟨_, rfl⟩
  refine wC_inv I ?_ ?_ _ _ _ (by rw [hI]; exact ⟨0, [], p, rfl, by omega, rfl, rfl, by simp, hp.mono (by omega), rfl⟩)
  · intro v vs acc r h
    rw [hI] at h
    obtain ⟨j, cs, p4, e, hj, rfl, hy, hc, hp4, rfl⟩ := h
    obtain ⟨hj2, rfl, rfl⟩ := drop_step e
    rw [nums_len] at hj2
    have hj3 : j < 8 := hj2
    rw [nums_get]
    have hacc : (cs.map cpV).length < 100000 := by rw [List.length_map]; omega
    simp? only [E1_law]
    refine copy_wp hp4 (by omega) h1 h2 fun c p5 c1 c2 c3 hp5 => ?_
    simp? only []
    rw [hI]
    refine ⟨hacc, j + 1, cs ++ [c], p5, rfl, hj3, by simp, by simp [hy], ?_, hp5.mono (by omega), rfl⟩
    intro x hx
    rcases List.mem_append.mp hx with z | z
    · exact hc x z
    · rw [List.mem_singleton.mp z]; exact ⟨c1, c2, c3⟩
  · intro acc r h
    rw [hI] at h
    obtain ⟨j, cs, p4, e, hj, rfl, hy, hc, hp4, rfl⟩ := h
    have hj2 := drop_end e (by rw [nums_len]; exact hj)
    rw [nums_len] at hj2
    exact q cs p4 (by rw [hy, hj2]; rfl) hc (hp4.mono (by omega))
theorem two_ints {a b : Int} (h1 : 0 ≤ a) (h2 : a ≤ 60) (h3 : 0 ≤ b) (h4 : b ≤ 60) : ∃ z, PreprX [.tup [.int a, .int b]] = some (false, .str z) :=
  ⟨_, repr_shw (shw_tup (shl_cons ((shw_int (i := a) (by
    have : a.natAbs ≤ 60 := by omega
    exact Nat.lt_of_le_of_lt this (by decide))).mono (n' := 1000) (k' := 1) (by omega) (by omega)) (shl_cons ((shw_int (i := b) (by
    have : b.natAbs ≤ 60 := by omega
    exact Nat.lt_of_le_of_lt this (by decide))).mono (n' := 1000) (k' := 1) (by omega) (by omega)) shl_nil))) rfl (by omega) (by omega)⟩
theorem place_turn {s0 p : Val} {rows : List Str} {m : Nd} {c : Cp} {s2 s4 s5 s7 s8 s9 s12 s13 : M.Slot} {Q : SR → Prop} (h : Sh rows m) (hc : c.1 ∈ rows) (c0 : 1 ≤ c.2) (c1 : c.2 ≤ 60)
    (q : ∀ s12, Q (.nx (kE s0 p s2 (some (false, .lst (rows.map .str))) s4 s5 (some (false, sheetV rows m)) s7 s8 s9 (some (false, .str c.1)) (some (false, .int c.2)) s12 s13))) :
    wS L2_law (kE s0 p s2 (some (false, .lst (rows.map .str))) s4 s5 (some (false, sheetV rows m)) s7 s8 s9 (some (false, .str c.1)) (some (false, .int c.2)) s12 s13) Q := by
  have hx := pidx_rows h.toRows hc
  have hl : rows.idxOf c.1 < rows.length := List.idxOf_lt_length_of_mem hc
  have hrl := h.len
  obtain ⟨z, hz⟩ := two_ints (a := c.2) (b := ((rows.idxOf c.1 : Nat) : Int)) (by omega) (by omega) (by omega) (by omega)
  have hpk : ∀ a b : Hd, pick [1, 0] [a, b] = some [b, a] := fun _ _ => rfl
  have hpl := @place_of_wp rows m c
  unfold L2_law
  simp? only [tyOf, hx, hz]
  refine hpl hc ?_
  simp? only [hz, pne_same, hpk]
  refine hpl hc ?_
  simp? only [hz, pne_same]
  exact q _
theorem pair_turn {s0 p : Val} {rows : List Str} {m bl : Nd} {a b : Cp} {ps : List (Cp × Cp)} {s2 s4 s7 s10 s11 s12 : M.Slot} {Q : SR → Prop} (h : Sh rows m) (hB : Blw rows m bl) (ha : a.1 ∈ rows) (hb : b.1 ∈ rows) (hl : ps.length < 100000)
    (q : Q (.nx (kE s0 p s2 (some (false, .lst (rows.map .str))) s4 (some (false, encB bl)) (some (false, sheetV rows m)) s7 (some (true, .dct true (tabD (barF rows m) (addP ps (a, b))))) (some (false, cpV a)) s10 s11 s12 (some (false, cpV b))))) :
    wS L3_law (kE s0 p s2 (some (false, .lst (rows.map .str))) s4 (some (false, encB bl)) (some (false, sheetV rows m)) s7 (some (true, .dct true (tabD (barF rows m) ps))) (some (false, cpV a)) s10 s11 s12 (some (false, cpV b))) Q := by
  have pu : putIxT (.dct true (tabD (barF rows m) ps)) (.tup [cpV a, cpV b]) (.bl (barB rows m a b)) = some (.dct true (tabD (barF rows m) (addP ps (a, b)))) := tab_put (f := barF rows m) (p := (a, b)) hl
  have pg : PixZ [.dct true (tabD (barF rows m) (addP ps (a, b))), .tup [cpV a, cpV b]] = some (false, .bl (barB rows m a b)) := tab_ix (p := (a, b)) (addP_mem.mpr (.inr rfl))
  obtain ⟨z, hz⟩ := repr_bl (barB rows m a b)
  unfold L3_law
  simp? only []
  refine bars2_wp h ha hb ?_
  simp? only [pu, pg, hz]
  refine bars_wp h.toRows hB ha hb ?_
  simp? only [hz, pne_same]
  exact q
end K21
namespace K21
open PySem L2 M PN PR PQ PT
theorem lead_turn {s0 p : Val} {rows : List Str} {m bl : Nd} {cs : List Cp} {a : Cp} {ps : List (Cp × Cp)} {s2 s4 s10 s11 s12 s13 : M.Slot} {Q : SR → Prop} (h : Sh rows m) (hB : Blw rows m bl) (ha : a.1 ∈ rows) (hr : ∀ c ∈ cs, c.1 ∈ rows) (hc8 : cs.length ≤ 8) (hl : ps.length ≤ 1000)
    (q : ∀ ps' s13, (∀ r ∈ ps, r ∈ ps') → (∀ x ∈ cs, (a, x) ∈ ps') → ps'.length ≤ ps.length + 8 → Q (.nx (kE s0 p s2 (some (false, .lst (rows.map .str))) s4 (some (false, encB bl)) (some (false, sheetV rows m)) (some (false, .lst (cs.map cpV))) (some (true, .dct true (tabD (barF rows m) ps'))) (some (false, cpV a)) s10 s11 s12 s13))) :
    wS L4_law (kE s0 p s2 (some (false, .lst (rows.map .str))) s4 (some (false, encB bl)) (some (false, sheetV rows m)) (some (false, .lst (cs.map cpV))) (some (true, .dct true (tabD (barF rows m) ps))) (some (false, cpV a)) s10 s11 s12 s13) Q := by
  unfold L4_law
  obtain ⟨T, hT⟩ : ∃ T, T = L3_law := ⟨_, rfl⟩
  rw [← hT]
  simp? only []
  obtain ⟨I, hI⟩ : ∃ I : List Val → M.Env → Prop, I = fun vs r => ∃ (k : Nat) (ps' : List (Cp × Cp)) (s13 : M.Slot), vs = (cs.map cpV).drop k ∧ k ≤ cs.length ∧ (∀ r ∈ ps, r ∈ ps') ∧ (∀ x ∈ cs.take k, (a, x) ∈ ps') ∧ ps'.length ≤ ps.length + k ∧
    r = kE s0 p s2 (some (false, .lst (rows.map .str))) s4 (some (false, encB bl)) (some (false, sheetV rows m)) (some (false, .lst (cs.map cpV))) (some (true, .dct true (tabD (barF rows m) ps'))) (some (false, cpV a)) s10 s11 s12 s13 := ⟨_, rfl⟩
  refine wL_inv I ?_ ?_ _ _ (by rw [hI]; exact ⟨0, ps, s13, rfl, Nat.zero_le _, fun r h => h, by simp, by omega, rfl⟩)
  · intro v vs r hh
    rw [hI] at hh
    obtain ⟨k, ps', s13, e, hk, h1, h2, h3, rfl⟩ := hh
    obtain ⟨hk2, rfl, rfl⟩ := drop_step e
    have hk3 : k < cs.length := by simpa using hk2
    rw [List.getElem_map]
    simp? only []
    rw [hT]
    refine pair_turn h hB ha (hr _ (List.getElem_mem hk3)) (by omega) ?_
    rw [kTurn, hI]
    have al := @addP_len ps' (a, cs[k])
    refine ⟨k + 1, addP ps' (a, cs[k]), _, rfl, hk3, fun r hr => addP_mem.mpr (.inl (h1 r hr)), fun x hx => ?_, by omega, rfl⟩
    rw [List.take_succ_eq_append_getElem hk3] at hx
    rcases List.mem_append.mp hx with z | z
    · exact addP_mem.mpr (.inl (h2 x z))
    · rw [List.mem_singleton.mp z]; exact addP_mem.mpr (.inr rfl)
  · intro r hh
    rw [hI] at hh
    obtain ⟨k, ps', s13, e, hk, h1, h2, h3, rfl⟩ := hh
    have hk2 := drop_end e (by simpa using hk)
    have hk3 : k = cs.length := by simpa using hk2
    subst hk3
    rw [List.take_length] at h2
    exact q ps' s13 h1 h2 (by omega)
theorem tail_turn {s0 p : Val} {rows : List Str} {m bl : Nd} {cs : List Cp} {s2 s4 s9 s10 s11 s12 s13 : M.Slot} {Q : SR → Prop} (h : Sh rows m) (hB : Blw rows m bl) (hr : ∀ c ∈ cs, c.1 ∈ rows) (hc8 : cs.length = 8)
    (q : ∀ s8 s9 s13, Q (.nx (kE s0 p s2 (some (false, .lst (rows.map .str))) s4 (some (false, encB bl)) (some (false, sheetV rows m)) (some (false, .lst (cs.map cpV))) s8 s9 s10 s11 s12 s13))) :
    wS ta_law (kE s0 p s2 (some (false, .lst (rows.map .str))) s4 (some (false, encB bl)) (some (false, sheetV rows m)) (some (false, .lst (cs.map cpV))) (some (true, .dct true [])) s9 s10 s11 s12 s13) Q := by
  have hcp : ∀ c ∈ cs, CpOk c.1 := fun c hc => (h.nm _ (hr c hc)).cp
  have how := @order_wp rows m cs
  unfold ta_law
  obtain ⟨T, hT⟩ : ∃ T, T = L4_law := ⟨_, rfl⟩
  rw [← hT]
  simp? only []
  obtain ⟨I, hI⟩ : ∃ I : List Val → M.Env → Prop, I = fun vs r => ∃ (k : Nat) (ps' : List (Cp × Cp)) (s9 s13 : M.Slot), vs = (cs.map cpV).drop k ∧ k ≤ cs.length ∧ (∀ a ∈ cs.take k, ∀ x ∈ cs, (a, x) ∈ ps') ∧ ps'.length ≤ 8 * k ∧
    r = kE s0 p s2 (some (false, .lst (rows.map .str))) s4 (some (false, encB bl)) (some (false, sheetV rows m)) (some (false, .lst (cs.map cpV))) (some (true, .dct true (tabD (barF rows m) ps'))) s9 s10 s11 s12 s13 := ⟨_, rfl⟩
  refine wL_inv I ?_ ?_ _ _ (by rw [hI]; exact ⟨0, [], s9, s13, rfl, Nat.zero_le _, by simp, by simp, rfl⟩)
  · intro v vs r hh
    rw [hI] at hh
    obtain ⟨k, ps', s9, s13, e, hk, h2, h3, rfl⟩ := hh
    obtain ⟨hk2, rfl, rfl⟩ := drop_step e
    have hk3 : k < cs.length := by simpa using hk2
    rw [List.getElem_map]
    simp? only []
    rw [hT]
    refine lead_turn h hB (hr _ (List.getElem_mem hk3)) hr (by omega) (by omega) fun ps2 s13 g1 g2 g3 => ?_
    rw [kTurn, hI]
    refine ⟨k + 1, ps2, _, _, rfl, hk3, fun a ha => ?_, by omega, rfl⟩
    rw [List.take_succ_eq_append_getElem hk3] at ha
    rcases List.mem_append.mp ha with z | z
    · exact fun x hx => g1 _ (h2 a z x hx)
    · rw [List.mem_singleton.mp z]; exact g2
  · intro r hh
    rw [hI] at hh
    obtain ⟨k, ps', s9, s13, e, hk, h2, h3, rfl⟩ := hh
    have hk2 := drop_end e (by simpa using hk)
    have hk3 : k = cs.length := by simpa using hk2
    subst hk3
    rw [List.take_length] at h2
    clear hI I
    simp? only []
    refine how h hr hcp (by omega) (by omega) h2 ?_
    simp? only []
    exact q _ _ _
def tb_law : SF := (seq (forS (itV (var 7)) (tgT (tgCons (tgN 10) (tgCons (tgN 11) tgNil))) L2_law)
    (seq (asg 8 (dNew true))
    (seq (forS (itV (var 7)) (tgN 9) L4_law)
    (ifS (notB (tst (callG 3 g__law_order_right (osCons (oV (var 6)) (osCons (oV (var 7)) (osCons (oS 8) osNil)))))) (ret (cst (.bl false))) skip))))
theorem tb_law_eq : L5_law = seq (asg 3 (frz (callG 2 g__law_names (osCons (oS 1) (osCons (oV (frz (bin Padd (oV (cst (.int 1))) (oV (bin Pix (oV (lst (asCons (callG 2 g__law_draw (osCons (oS 1) (osCons (oV (cst (.int 6))) osNil))) (asCons (callG 2 g__law_draw (osCons (oS 1) (osCons (oV (cst (.int 12))) osNil))) asNil)))) (oV (callG 2 g__law_draw (osCons (oS 1) (osCons (oV (cst (.int 2))) osNil))))))))) osNil))))) (seq (asg 4 (frz (callG 2 g__law_needs (osCons (oS 1) (osCons (oV (var 3)) osNil))))) (seq (asg 5 (frz (callG 1 g__law_below (osCons (oV (var 4)) osNil)))) (seq (asg 6 (frz (callG 3 g_C_Sheet_of (osCons (oV (cst (.cls "Sheet"))) (osCons (oV (frz (prim Ptuple (osCons (oS 3) osNil)))) (osCons (oV (var 4)) osNil)))))) (seq (asg 7 (lc (itR rng1 (asCons (cst (.int 8)) asNil)) (tgN 14) yesB E1_law [14])) (tb_law))))) := rfl
theorem mid_turn {s0 p : Val} {rows : List Str} {m bl : Nd} {cs : List Cp} {s2 s4 s8 s9 s10 s11 s12 s13 : M.Slot} {Q : SR → Prop} (h : Sh rows m) (hB : Blw rows m bl) (hr : ∀ c ∈ cs, c.1 ∈ rows ∧ 1 ≤ c.2 ∧ c.2 ≤ 60) (hc8 : cs.length = 8)
    (q : ∀ s8 s9 s10 s11 s12 s13, Q (.nx (kE s0 p s2 (some (false, .lst (rows.map .str))) s4 (some (false, encB bl)) (some (false, sheetV rows m)) (some (false, .lst (cs.map cpV))) s8 s9 s10 s11 s12 s13))) :
    wS tb_law (kE s0 p s2 (some (false, .lst (rows.map .str))) s4 (some (false, encB bl)) (some (false, sheetV rows m)) (some (false, .lst (cs.map cpV))) s8 s9 s10 s11 s12 s13) Q := by
  obtain ⟨T, hT⟩ : ∃ T, T = L2_law := ⟨_, rfl⟩
  obtain ⟨T2, hT2⟩ : ∃ T, T = ta_law := ⟨_, rfl⟩
  have e : tb_law = seq (forS (itV (var 7)) (tgT (tgCons (tgN 10) (tgCons (tgN 11) tgNil))) T) (seq (asg 8 (dNew true)) T2) := by rw [hT, hT2]; rfl
  rw [e]
  simp? only []
  obtain ⟨I, hI⟩ : ∃ I : List Val → M.Env → Prop, I = fun vs r => ∃ (k : Nat) (s10 s11 s12 : M.Slot), vs = (cs.map cpV).drop k ∧ k ≤ cs.length ∧
    r = kE s0 p s2 (some (false, .lst (rows.map .str))) s4 (some (false, encB bl)) (some (false, sheetV rows m)) (some (false, .lst (cs.map cpV))) s8 s9 s10 s11 s12 s13 := ⟨_, rfl⟩
  refine wL_inv I ?_ ?_ _ _ (by rw [hI]; exact ⟨0, s10, s11, s12, rfl, Nat.zero_le _, rfl⟩)
  · intro v vs r hh
    rw [hI] at hh
    obtain ⟨k, s10, s11, s12, e, hk, rfl⟩ := hh
    obtain ⟨hk2, rfl, rfl⟩ := drop_step e
    have hk3 : k < cs.length := by simpa using hk2
    rw [List.getElem_map]
    obtain ⟨h1, h2, h3⟩ := hr _ (List.getElem_mem hk3)
    simp? only []
    rw [hT]
    refine place_turn h h1 h2 h3 fun s12 => ?_
    rw [kTurn, hI]
    exact ⟨k + 1, _, _, _, rfl, hk3, rfl⟩
  · intro r hh
    rw [hI] at hh
    obtain ⟨k, s10, s11, s12, e, hk, rfl⟩ := hh
    clear hI I
    simp? only []
    rw [hT2]
    exact tail_turn h hB (fun c hc => (hr c hc).1) hc8 fun s8 s9 s13 => q _ _ _ _ _ _
theorem law_turn {m0 : Int} {s0 p : Val} {s2 s3 s4 s5 s6 s7 s8 s9 s10 s11 s12 s13 : M.Slot} {Q : SR → Prop} (hp : Pen m0 p) (hm : m0 < 400000)
    (q : ∀ (p' : Val) (s3 s4 s5 s6 s7 s8 s9 s10 s11 s12 s13 : M.Slot), Pen (m0 + 5000) p' → Q (.nx (kE s0 p' s2 s3 s4 s5 s6 s7 s8 s9 s10 s11 s12 s13))) :
    wS L5_law (kE s0 p s2 s3 s4 s5 s6 s7 s8 s9 s10 s11 s12 s13) Q := by
  have hpos := hp.pos
  have pa : ∀ a b : Int, Padd [.int a, .int b] = some (false, .int (a + b)) := fun _ _ => rfl
  obtain ⟨T, hT⟩ : ∃ T, T = tb_law := ⟨_, rfl⟩
  rw [tb_law_eq, ← hT]
  simp? only []
  refine draw_wp hp (by omega) (by decide) (by decide) fun d1 p1 a0 a1 hp1 => ?_
  simp? only []
  refine draw_wp hp1 (by omega) (by decide) (by decide) fun d2 p2 b0 b1 hp2 => ?_
  simp? only []
  refine draw_wp hp2 (by omega) (by decide) (by decide) fun d3 p3 c0 c1 hp3 => ?_
  obtain ⟨n, en, hn⟩ := pix2 d1 d2 d3 c0 c1
  obtain ⟨rows, p4, hnm, hl, hnd, h60, hp4⟩ := names_eq (many := 1 + n) hp3 (by omega) (by omega) (by omega)
  have hrl : rows.length ≤ 12 := by omega
  have hr : Rows rows := ⟨hnd, fun s hs => sixty_nm s (h60 s hs), by omega⟩
  simp? only [en, pa, hnm]
  refine needs_wp hp4 (by omega) hr fun m p5 hraw hac hks hso hp5 => ?_
  have hg : Pgs rows m := ⟨hr, hraw, hac, hks, hso⟩
  have hs : Sh rows (mkN rows m) := mkN_sh hr hraw hac
  simp? only []
  refine below_wp hg (by omega) fun bl hB => ?_
  have hB' := blw_mk hB hraw
  have hpt : Ptuple [.lst (rows.map Val.str)] = some (false, .tup (rows.map Val.str)) := rfl
  simp? only [hpt]
  refine of_wp (.inl rfl) hr hraw hac ?_
  simp? only [rng_nums 8 ⟨by decide, by decide⟩]
  refine copies_drawn hp5 (by omega) (by omega) (by omega) fun cs p6 hc8 hcr hp6 => ?_
  simp? only []
  rw [hT]
  exact mid_turn hs hB' hcr hc8 fun s8 s9 s10 s11 s12 s13 => q p6 _ _ _ _ _ _ _ _ _ _ _ (hp6.mono (by omega))
theorem holds (ns : List Int) (hns : ns.length ≤ 63) : g_law [(false, .scr ns)] = .ok false (.bl true) none := by
  show wG g_law [(false, .scr ns)] fun x => x = .ok false (.bl true) none
  unfold g_law
  rw [wG_run (by rfl) (by simp [ownIx])]
  unfold b_law
  simp? only []
  refine pen_wp hns fun p hp => ?_
  simp? only [rng_nums 4 ⟨by decide, by decide⟩]
  obtain ⟨I, hI⟩ : ∃ I : List Val → M.Env → Prop, I = fun vs r => ∃ (k : Nat) (p : Val) (s2 s3 s4 s5 s6 s7 s8 s9 s10 s11 s12 s13 : M.Slot), vs = (nums (4 : Int).toNat).drop k ∧ k ≤ 4 ∧ Pen (k * 5000) p ∧ r = kE (.scr ns) p s2 s3 s4 s5 s6 s7 s8 s9 s10 s11 s12 s13 := ⟨_, rfl⟩
  refine wL_inv I ?_ ?_ _ _ (by rw [hI]; exact ⟨0, p, none, none, none, none, none, none, none, none, none, none, none, none, rfl, by omega, hp, rfl⟩)
  · intro v vs r h
    rw [hI] at h
    obtain ⟨k, p, s2, s3, s4, s5, s6, s7, s8, s9, s10, s11, s12, s13, e, hk, hp, rfl⟩ := h
    obtain ⟨hk2, rfl, rfl⟩ := drop_step e
    rw [nums_get]
    rw [nums_len] at hk2
    have hk3 : k < 4 := hk2
    simp only [M.kT, M.tgN, List.set_cons_succ, List.set_cons_zero]
    refine law_turn hp (by omega) fun p' s3 s4 s5 s6 s7 s8 s9 s10 s11 s12 s13 hp' => ?_
    rw [kTurn, hI]
    exact ⟨k + 1, p', _, _, _, _, _, _, _, _, _, _, _, _, rfl, hk2, hp'.mono (by omega), rfl⟩
  · intro r h
    rw [hI] at h
    obtain ⟨k, p, s2, s3, s4, s5, s6, s7, s8, s9, s10, s11, s12, s13, e, hk, hp, rfl⟩ := h
    clear hI I
    simp? only []
end K21
namespace K21
open PySem L2 M PN PR PQ PT
theorem sc_C_InvalidRow___init__ : FnScope ["self", "index"] ["self", "index"] (defScope s_C_InvalidRow___init__) := ⟨rfl, rfl, rfl, by decide +kernel, rfl, by decide +kernel, by decide +kernel⟩
theorem sc_C_InvalidNeeds___init__ : FnScope ["self", "name"] ["self", "name"] (defScope s_C_InvalidNeeds___init__) := ⟨rfl, rfl, rfl, by decide +kernel, rfl, by decide +kernel, by decide +kernel⟩
theorem sc_C_HasRing___init__ : FnScope ["self", "ring"] ["self", "ring"] (defScope s_C_HasRing___init__) := ⟨rfl, rfl, rfl, by decide +kernel, rfl, by decide +kernel, by decide +kernel⟩
theorem sc__law_pen : FnScope ["_law_script"] ["_law_script"] (defScope s__law_pen) := ⟨rfl, rfl, rfl, by decide +kernel, rfl, by decide +kernel, by decide +kernel⟩
theorem sc__law_draw : FnScope ["_law_pen_here", "_law_size", "_law_turn", "_law_cell", "_law_mixed", "_law_digit", "_law_great"] ["_law_pen_here", "_law_size"] (defScope s__law_draw) := ⟨rfl, rfl, rfl, by decide +kernel, rfl, by decide +kernel, by decide +kernel⟩
theorem sc__law_names : FnScope ["_law_pen_here", "_law_many", "_law_letters", "_law_left", "_law_k"] ["_law_pen_here", "_law_many"] (defScope s__law_names) := ⟨rfl, rfl, rfl, by decide +kernel, rfl, by decide +kernel, by decide +kernel⟩
theorem sc__law_needs : FnScope ["_law_pen_here", "_law_ladder", "_law_left", "_law_order", "_law_way", "_law_found", "_law_k", "_law_title", "_law_some", "_law_mate"] ["_law_pen_here", "_law_ladder"] (defScope s__law_needs) := ⟨rfl, rfl, rfl, by decide +kernel, rfl, by decide +kernel, by decide +kernel⟩
theorem sc__law_below : FnScope ["_law_wants", "_law_found", "_law_title", "_law_some", "_law_left", "_law_mate"] ["_law_wants"] (defScope s__law_below) := ⟨rfl, rfl, rfl, by decide +kernel, rfl, by decide +kernel, by decide +kernel⟩
theorem sc_is_name : FnScope ["value", "letter"] ["value"] (defScope s_is_name) := ⟨rfl, rfl, rfl, by decide +kernel, rfl, by decide +kernel, by decide +kernel⟩
theorem sc_first_wrong : FnScope ["rows", "index", "name"] ["rows"] (defScope s_first_wrong) := ⟨rfl, rfl, rfl, by decide +kernel, rfl, by decide +kernel, by decide +kernel⟩
theorem sc_need_rows : FnScope ["rows", "wrong"] ["rows"] (defScope s_need_rows) := ⟨rfl, rfl, rfl, by decide +kernel, rfl, by decide +kernel, by decide +kernel⟩
theorem sc_are_needs : FnScope ["rows", "value", "name"] ["rows", "value"] (defScope s_are_needs) := ⟨rfl, rfl, rfl, by decide +kernel, rfl, by decide +kernel, by decide +kernel⟩
theorem sc_need_needs : FnScope ["rows", "needs", "name", "others"] ["rows", "needs"] (defScope s_need_needs) := ⟨rfl, rfl, rfl, by decide +kernel, rfl, by decide +kernel, by decide +kernel⟩
theorem sc_unfinished : FnScope ["needs", "left", "ready", "name", "others", "other"] ["needs"] (defScope s_unfinished) := ⟨rfl, rfl, rfl, by decide +kernel, rfl, by decide +kernel, by decide +kernel⟩
theorem sc_ring_in : FnScope ["needs", "left", "walk", "following", "other"] ["needs"] (defScope s_ring_in) := ⟨rfl, rfl, rfl, by decide +kernel, rfl, by decide +kernel, by decide +kernel⟩
theorem sc_C_Sheet_needs : FnScope ["self"] ["self"] (defScope s_C_Sheet_needs) := ⟨rfl, rfl, rfl, by decide +kernel, rfl, by decide +kernel, by decide +kernel⟩
theorem sc_row_text : FnScope ["name", "needed"] ["name", "needed"] (defScope s_row_text) := ⟨rfl, rfl, rfl, by decide +kernel, rfl, by decide +kernel, by decide +kernel⟩
theorem sc_C_Sheet_rows : FnScope ["self"] ["self"] (defScope s_C_Sheet_rows) := ⟨rfl, rfl, rfl, by decide +kernel, rfl, by decide +kernel, by decide +kernel⟩
theorem sc_sheet_text : FnScope ["sheet", "needs", "name"] ["sheet"] (defScope s_sheet_text) := ⟨rfl, rfl, rfl, by decide +kernel, rfl, by decide +kernel, by decide +kernel⟩
theorem sc_C_Sheet_fill : FnScope ["self", "rows", "needs", "direct", "ring", "name", "index"] ["self", "rows", "needs"] (defScope s_C_Sheet_fill) := ⟨rfl, rfl, rfl, by decide +kernel, rfl, by decide +kernel, by decide +kernel⟩
theorem sc_C_Sheet___init__ : FnScope ["self", "rows", "needs"] ["self", "rows", "needs"] (defScope s_C_Sheet___init__) := ⟨rfl, rfl, rfl, by decide +kernel, rfl, by decide +kernel, by decide +kernel⟩
theorem sc_C_Sheet_of : FnScope ["cls", "rows", "needs", "found"] ["cls", "rows", "needs"] (defScope s_C_Sheet_of) := ⟨rfl, rfl, rfl, by decide +kernel, rfl, by decide +kernel, by decide +kernel⟩
theorem sc__law_copy : FnScope ["_law_pen_here", "_law_ladder", "_law_number"] ["_law_pen_here", "_law_ladder"] (defScope s__law_copy) := ⟨rfl, rfl, rfl, by decide +kernel, rfl, by decide +kernel, by decide +kernel⟩
theorem sc_place_in : FnScope ["order", "copy", "name", "number"] ["order", "copy"] (defScope s_place_in) := ⟨rfl, rfl, rfl, by decide +kernel, rfl, by decide +kernel, by decide +kernel⟩
theorem sc_place_of : FnScope ["sheet", "copy"] ["sheet", "copy"] (defScope s_place_of) := ⟨rfl, rfl, rfl, by decide +kernel, rfl, by decide +kernel, by decide +kernel⟩
theorem sc_is_bar : FnScope ["order", "below", "one", "other"] ["order", "below", "one", "other"] (defScope s_is_bar) := ⟨rfl, rfl, rfl, by decide +kernel, rfl, by decide +kernel, by decide +kernel⟩
theorem sc_closure : FnScope ["sheet", "needs", "found", "name", "others", "other", "row"] ["sheet"] (defScope s_closure) := ⟨rfl, rfl, rfl, by decide +kernel, rfl, by decide +kernel, by decide +kernel⟩
theorem sc_bars : FnScope ["sheet", "one", "other"] ["sheet", "one", "other"] (defScope s_bars) := ⟨rfl, rfl, rfl, by decide +kernel, rfl, by decide +kernel, by decide +kernel⟩
theorem sc__law_bars : FnScope ["_law_ladder", "_law_below_here", "_law_lead", "_law_mate"] ["_law_ladder", "_law_below_here", "_law_lead", "_law_mate"] (defScope s__law_bars) := ⟨rfl, rfl, rfl, by decide +kernel, rfl, by decide +kernel, by decide +kernel⟩
theorem sc__law_order_right : FnScope ["_law_made", "_law_some", "_law_told", "_law_lead", "_law_after", "_law_mate", "_law_third"] ["_law_made", "_law_some", "_law_told"] (defScope s__law_order_right) := ⟨rfl, rfl, rfl, by decide +kernel, rfl, by decide +kernel, by decide +kernel⟩
theorem sc_law : FnScope ["_law_script", "_law_pen_here", "_law_turn", "_law_ladder", "_law_wants", "_law_below_here", "_law_made", "_law_some", "_law_told", "_law_lead", "_law_title", "_law_number", "_law_due", "_law_mate", "_law_k"] ["_law_script"] (defScope s_law) := ⟨rfl, rfl, rfl, by decide +kernel, rfl, by decide +kernel, by decide +kernel⟩
structure Txt (K : PySem.W.Frag) (mg : Str → Option Value) : Prop where
  d__law_pen : ∃ fd, FunQ K "_law_pen" "_law_pen" s__law_pen (He.ga K "_law_pen") fd
  d__law_draw : ∃ fd, FunQ K "_law_draw" "_law_draw" s__law_draw (He.ga K "_law_draw") fd
  d__law_names : ∃ fd, FunQ K "_law_names" "_law_names" s__law_names (He.ga K "_law_names") fd
  d__law_needs : ∃ fd, FunQ K "_law_needs" "_law_needs" s__law_needs (He.ga K "_law_needs") fd
  d__law_below : ∃ fd, FunQ K "_law_below" "_law_below" s__law_below (He.ga K "_law_below") fd
  d_is_name : ∃ fd, FunQ K "is_name" "is_name" s_is_name (He.ga K "is_name") fd
  d_first_wrong : ∃ fd, FunQ K "first_wrong" "first_wrong" s_first_wrong (He.ga K "first_wrong") fd
  d_need_rows : ∃ fd, FunQ K "need_rows" "need_rows" s_need_rows (He.ga K "need_rows") fd
  d_are_needs : ∃ fd, FunQ K "are_needs" "are_needs" s_are_needs (He.ga K "are_needs") fd
  d_need_needs : ∃ fd, FunQ K "need_needs" "need_needs" s_need_needs (He.ga K "need_needs") fd
  d_unfinished : ∃ fd, FunQ K "unfinished" "unfinished" s_unfinished (He.ga K "unfinished") fd
  d_ring_in : ∃ fd, FunQ K "ring_in" "ring_in" s_ring_in (He.ga K "ring_in") fd
  d_C_Sheet_needs : ∃ fd, FunQ K "needs" "Sheet.needs" s_C_Sheet_needs (M.pf K (He.ga K "Sheet") "needs") fd
  d_row_text : ∃ fd, FunQ K "row_text" "row_text" s_row_text (He.ga K "row_text") fd
  d_C_Sheet_rows : ∃ fd, FunQ K "rows" "Sheet.rows" s_C_Sheet_rows (M.pf K (He.ga K "Sheet") "rows") fd
  d_sheet_text : ∃ fd, FunQ K "sheet_text" "sheet_text" s_sheet_text (He.ga K "sheet_text") fd
  d_C_Sheet_fill : ∃ fd, FunQ K "fill" "Sheet.fill" s_C_Sheet_fill (He.ma K (He.ga K "Sheet") "fill") fd
  d_C_Sheet___init__ : ∃ fd, FunQ K "__init__" "Sheet.__init__" s_C_Sheet___init__ (He.ma K (He.ga K "Sheet") "__init__") fd
  d_C_Sheet_of : ∃ fd, FunQ K "of" "Sheet.of" s_C_Sheet_of (He5.wf K (He.ga K "Sheet") "classmethod" "of") fd
  d__law_copy : ∃ fd, FunQ K "_law_copy" "_law_copy" s__law_copy (He.ga K "_law_copy") fd
  d_place_in : ∃ fd, FunQ K "place_in" "place_in" s_place_in (He.ga K "place_in") fd
  d_place_of : ∃ fd, FunQ K "place_of" "place_of" s_place_of (He.ga K "place_of") fd
  d_is_bar : ∃ fd, FunQ K "is_bar" "is_bar" s_is_bar (He.ga K "is_bar") fd
  d_closure : ∃ fd, FunQ K "closure" "closure" s_closure (He.ga K "closure") fd
  d_bars : ∃ fd, FunQ K "bars" "bars" s_bars (He.ga K "bars") fd
  d__law_bars : ∃ fd, FunQ K "_law_bars" "_law_bars" s__law_bars (He.ga K "_law_bars") fd
  d__law_order_right : ∃ fd, FunQ K "_law_order_right" "_law_order_right" s__law_order_right (He.ga K "_law_order_right") fd
  d_law : ∃ fd, FunQ K "law" "law" s_law (He.ga K "law") fd
  d_C_InvalidRow___init__ : ∃ fd, FunQ K "__init__" "InvalidRow.__init__" s_C_InvalidRow___init__ (He.ma K (He.ga K "InvalidRow") "__init__") fd
  d_C_InvalidNeeds___init__ : ∃ fd, FunQ K "__init__" "InvalidNeeds.__init__" s_C_InvalidNeeds___init__ (He.ma K (He.ga K "InvalidNeeds") "__init__") fd
  d_C_HasRing___init__ : ∃ fd, FunQ K "__init__" "HasRing.__init__" s_C_HasRing___init__ (He.ma K (He.ga K "HasRing") "__init__") fd
  g__law_pen : mg "_law_pen" = some (.ref (He.ga K "_law_pen"))
  g__law_draw : mg "_law_draw" = some (.ref (He.ga K "_law_draw"))
  g__law_names : mg "_law_names" = some (.ref (He.ga K "_law_names"))
  g__law_needs : mg "_law_needs" = some (.ref (He.ga K "_law_needs"))
  g__law_below : mg "_law_below" = some (.ref (He.ga K "_law_below"))
  g_is_name : mg "is_name" = some (.ref (He.ga K "is_name"))
  g_first_wrong : mg "first_wrong" = some (.ref (He.ga K "first_wrong"))
  g_need_rows : mg "need_rows" = some (.ref (He.ga K "need_rows"))
  g_are_needs : mg "are_needs" = some (.ref (He.ga K "are_needs"))
  g_need_needs : mg "need_needs" = some (.ref (He.ga K "need_needs"))
  g_unfinished : mg "unfinished" = some (.ref (He.ga K "unfinished"))
  g_ring_in : mg "ring_in" = some (.ref (He.ga K "ring_in"))
  t_C_Sheet_needs : PropOf K (He.ga K "Sheet") "needs" (He.ma K (He.ga K "Sheet") "needs") (M.pf K (He.ga K "Sheet") "needs")
  g_row_text : mg "row_text" = some (.ref (He.ga K "row_text"))
  t_C_Sheet_rows : PropOf K (He.ga K "Sheet") "rows" (He.ma K (He.ga K "Sheet") "rows") (M.pf K (He.ga K "Sheet") "rows")
  g_sheet_text : mg "sheet_text" = some (.ref (He.ga K "sheet_text"))
  t_C_Sheet_fill : Meth K (He.ga K "Sheet") "fill" (He.ma K (He.ga K "Sheet") "fill")
  t_C_Sheet___init__ : Mk K (He.ga K "Sheet") (He.ma K (He.ga K "Sheet") "__init__")
  t_C_Sheet_of : ClX.CMet K (He.ga K "Sheet") (.type "type") "of" (He.ma K (He.ga K "Sheet") "of") (He5.wf K (He.ga K "Sheet") "classmethod" "of")
  g__law_copy : mg "_law_copy" = some (.ref (He.ga K "_law_copy"))
  g_place_in : mg "place_in" = some (.ref (He.ga K "place_in"))
  g_place_of : mg "place_of" = some (.ref (He.ga K "place_of"))
  g_is_bar : mg "is_bar" = some (.ref (He.ga K "is_bar"))
  g_closure : mg "closure" = some (.ref (He.ga K "closure"))
  g_bars : mg "bars" = some (.ref (He.ga K "bars"))
  g__law_bars : mg "_law_bars" = some (.ref (He.ga K "_law_bars"))
  g__law_order_right : mg "_law_order_right" = some (.ref (He.ga K "_law_order_right"))
  g_law : mg "law" = some (.ref (He.ga K "law"))
  gc_Sheet : mg "Sheet" = some (.ref (He.ga K "Sheet"))
  cl_Sheet : Cls K (He.ga K "Sheet")
  cr_Sheet : ClX.CRead K (He.ga K "Sheet") (.type "type")
  na_Sheet_direct : NoAttr K (He.ga K "Sheet") "direct"
  na_Sheet_names : NoAttr K (He.ga K "Sheet") "names"
  na_Sheet_order : NoAttr K (He.ga K "Sheet") "order"
  na_Sheet_shown : NoAttr K (He.ga K "Sheet") "shown"
  gc_InvalidRow : mg "InvalidRow" = some (.ref (He.ga K "InvalidRow"))
  gc_InvalidNeeds : mg "InvalidNeeds" = some (.ref (He.ga K "InvalidNeeds"))
  gc_HasRing : mg "HasRing" = some (.ref (He.ga K "HasRing"))
  ex_InvalidRow : ExOk K (He.ga K "InvalidRow")
  xi_InvalidRow : IniOk K (He.ga K "InvalidRow") (He.ma K (He.ga K "InvalidRow") "__init__")
  ex_InvalidNeeds : ExOk K (He.ga K "InvalidNeeds")
  xi_InvalidNeeds : IniOk K (He.ga K "InvalidNeeds") (He.ma K (He.ga K "InvalidNeeds") "__init__")
  ex_HasRing : ExOk K (He.ga K "HasRing")
  xi_HasRing : IniOk K (He.ga K "HasRing") (He.ma K (He.ga K "HasRing") "__init__")
  xn_InvalidRow_index : PySem.W.findIn K (.ref (He.ga K "InvalidRow")) "index" = some none
  xn_InvalidNeeds_name : PySem.W.findIn K (.ref (He.ga K "InvalidNeeds")) "name" = some none
  xn_HasRing_ring : PySem.W.findIn K (.ref (He.ga K "HasRing")) "ring" = some none
  sysm : (K.lookup sysModules).isSome = true
  b_abs : mg "abs" = none
  b_all : mg "all" = none
  b_any : mg "any" = none
  b_dict : mg "dict" = none
  b_enumerate : mg "enumerate" = none
  b_int : mg "int" = none
  b_isinstance : mg "isinstance" = none
  b_len : mg "len" = none
  b_list : mg "list" = none
  b_range : mg "range" = none
  b_repr : mg "repr" = none
  b_set : mg "set" = none
  b_sorted : mg "sorted" = none
  b_str : mg "str" = none
  b_tuple : mg "tuple" = none
  c_LETTERS : ∃ t, mg "LETTERS" = some (.str "abcdefghijklmnopqrstuvwxyz" t)
  c_LIMIT : ∃ t, mg "LIMIT" = some (.int 60 t)
  c_LONGEST_NAME : ∃ t, mg "LONGEST_NAME" = some (.int 8 t)
theorem kw_0 : KwB "bars" s_bars ["sheet", "one", "other"] ["other", "one", "sheet"] [2, 1, 0] 0 := fun _ _ _ _ _ _ us ws zs h1 h2 h3 _ => match us, ws, h1, h2, h3 with | [], [_, _, _], _, _, h3 => by cases h3; rfl
theorem kw_1 : KwB "place_of" s_place_of ["sheet", "copy"] ["copy", "sheet"] [1, 0] 0 := fun _ _ _ _ _ _ us ws zs h1 h2 h3 _ => match us, ws, h1, h2, h3 with | [], [_, _], _, _, h3 => by cases h3; rfl
section
variable {P : Program} {w : World} {K : PySem.W.Frag} {mg : Str → Option Value} {base : Heap}
theorem ok__law_pen (T : Txt K mg) : DefP P w K mg base ⟨K, cmK K, [], w⟩ 1 "_law_pen" s__law_pen ["_law_script"] g__law_pen := by
  obtain ⟨fd, F⟩ := T.d__law_pen
  refine def_mk (N := ["_law_script"]) (ios := [0]) (k := 0) T.g__law_pen F sc__law_pen (fun cdv A0 outer s H E hr => ⟨fun A W hw hio tk => ?_⟩) (fun _ _ _ _ _ _ us hl => match us, hl with | [_], _ => rfl)
  have c := cal_of (CXx := L2.CX P w) (Tb := []) (CM := cmK K) (N := ["_law_script"]) (mg := mg) (P := P) (w := w) (K := K) (base := base) (E := E) (cdv := cdv) (H := H) (s := s) (A := A0) (outer := outer) (qual := "_law_pen") (scope := defScope s__law_pen) (k := 0) hr T.sysm
  have hC : ∀ x : Str, A.w.CM x = some (He.ga K x) := fun x => by rw [hw]; rfl
  have hK : A.w.K = K := by rw [hw]
  rw [← hw] at c
  have nd : (["_law_script"] : List Str).Nodup := sc__law_pen.nd
  have nio : ∀ i, i ∉ A.io ∨ i ∈ [0] := fun i => by by_cases h : i ∈ A.io; exact .inr (hio i h); exact .inl h
  exact (pss_one' (ps_ret' (pe_lst' (pa_asCons (pe_bt (bi_list c) rfl T.b_list bt_list (pa_osCons (po_V (pe_slc c (po_S (pv 0)) po_pNo (po_pInt pe_ci))) pa_osNil)) (pa_asCons pe_ci (pa_asCons pe_ci pa_asNil))))))
theorem ok__law_draw (T : Txt K mg) : DefP P w K mg base ⟨K, cmK K, [], w⟩ 1 "_law_draw" s__law_draw ["_law_pen_here", "_law_size"] g__law_draw := by
  obtain ⟨fd, F⟩ := T.d__law_draw
  refine def_mk (N := ["_law_pen_here", "_law_size", "_law_turn", "_law_cell", "_law_mixed", "_law_digit", "_law_great"]) (ios := [0, 1]) (k := 0) T.g__law_draw F sc__law_draw (fun cdv A0 outer s H E hr => ⟨fun A W hw hio tk => ?_⟩) (fun _ _ _ _ _ _ us hl => match us, hl with | [_, _], _ => rfl)
  have c := cal_of (CXx := L2.CX P w) (Tb := []) (CM := cmK K) (N := ["_law_pen_here", "_law_size", "_law_turn", "_law_cell", "_law_mixed", "_law_digit", "_law_great"]) (mg := mg) (P := P) (w := w) (K := K) (base := base) (E := E) (cdv := cdv) (H := H) (s := s) (A := A0) (outer := outer) (qual := "_law_draw") (scope := defScope s__law_draw) (k := 0) hr T.sysm
  have hC : ∀ x : Str, A.w.CM x = some (He.ga K x) := fun x => by rw [hw]; rfl
  have hK : A.w.K = K := by rw [hw]
  rw [← hw] at c
  have nd : (["_law_pen_here", "_law_size", "_law_turn", "_law_cell", "_law_mixed", "_law_digit", "_law_great"] : List Str).Nodup := sc__law_draw.nd
  have nio : ∀ i, i ∉ A.io ∨ i ∈ [0, 1] := fun i => by by_cases h : i ∈ A.io; exact .inr (hio i h); exact .inl h
  exact (pss_cons' (ps_if' (pt_cmpV opr_gt (po_V (pe_idx c (po_S (pv 0)) (po_V pe_ci))) (po_V pe_ci)) (pss_cons' (ps_asg' (i := 5) nd rfl (by first | exact .inl rfl | exact .inr rfl) (pe_bin (opr_mod c) (po_V (pe_idx c (po_S (pv 0)) (po_V pe_ci))) (po_S (pv 1))) ((nio 5).resolve_right (by decide)))
    (pss_cons' (ps_setIx c (pv 0) pe_ci (pe_bin (opr_div c) (po_V (pe_idx c (po_S (pv 0)) (po_V pe_ci))) (po_S (pv 1))))
    (pss_one' (ps_ret' (pe_mv (pv 5)))))) pss_nil')
    (pss_cons' (ps_asg' (i := 2) nd rfl (by first | exact .inl rfl | exact .inr rfl) (pe_idx c (po_S (pv 0)) (po_V pe_ci)) ((nio 2).resolve_right (by decide)))
    (pss_cons' (ps_setIx c (pv 0) pe_ci (pe_bin (opr_add c) (po_S (pv 2)) (po_V pe_ci)))
    (pss_cons' (ps_asg' (i := 3) nd rfl (by first | exact .inl rfl | exact .inr rfl) (pe_frz (pe_bin (opr_add c) (po_V (pe_bin (opr_mul c) (po_V pe_ci) (po_S (pv 2)))) (po_V pe_ci))) ((nio 3).resolve_right (by decide)))
    (pss_cons' (ps_if' (pt_cmpV (opr_neX c) (po_V (pe_idx c (po_S (pv 0)) (po_V pe_ci))) (po_V (pe_lst' pa_asNil))) (pss_one' (ps_asg' (i := 3) nd rfl (by first | exact .inl rfl | exact .inr rfl) (pe_idx c (po_V (pe_idx c (po_S (pv 0)) (po_V pe_ci))) (po_V (pe_bin (opr_mod c) (po_S (pv 2)) (po_V (pe_bi (bi_len c) rfl T.b_len bf_len (pa_osCons (po_V (pe_idx c (po_S (pv 0)) (po_V pe_ci))) pa_osNil)))))) ((nio 3).resolve_right (by decide)))) pss_nil')
    (pss_cons' (ps_if' (PW.pt (pw_and' (pt_cmpV opr_lt (po_S (pv 2)) (po_V (pe_bi (bi_len c) rfl T.b_len bf_len (pa_osCons (po_V (pe_idx c (po_S (pv 0)) (po_V pe_ci))) pa_osNil)))) (pw_and1 (pt_cmpV opr_ge (po_V (pe_bi bi_abs rfl T.b_abs bf_abs (pa_osCons (po_S (pv 3)) pa_osNil))) (po_V (pe_bin (opr_pow c) (po_V pe_ci) (po_V pe_ci))))))) (pss_cons' (ps_asg' (i := 6) nd rfl (by first | exact .inl rfl | exact .inr rfl) (pe_frz (pe_bin (opr_add c) (po_V (pe_bin (opr_mul c) (po_V pe_ci) (po_V (pe_bi bi_abs rfl T.b_abs bf_abs (pa_osCons (po_S (pv 3)) pa_osNil))))) (po_V (pe_bt bi_int rfl T.b_int bt_int (pa_osCons (po_V (pe_cmpV opr_lt (po_S (pv 3)) (po_V pe_ci))) pa_osNil))))) ((nio 6).resolve_right (by decide)))
    (pss_cons' (ps_setIx c (pv 0) pe_ci (pe_bin (opr_div c) (po_S (pv 6)) (po_S (pv 1))))
    (pss_one' (ps_ret' (pe_bin (opr_mod c) (po_S (pv 6)) (po_S (pv 1))))))) pss_nil')
    (pss_cons' (ps_asg' (i := 4) nd rfl (by first | exact .inl rfl | exact .inr rfl) (pe_frz (pe_bin (opr_mod c) (po_V (pe_bin (opr_pow c) (po_V (pe_bin (opr_add c) (po_V (pe_bin (opr_add c) (po_V (pe_bin (opr_mod c) (po_S (pv 3)) (po_V pe_ci))) (po_V (pe_bin (opr_mul c) (po_V pe_ci) (po_S (pv 2)))))) (po_V pe_ci))) (po_V pe_ci))) (po_V pe_ci))) ((nio 4).resolve_right (by decide)))
    (pss_cons' (ps_asg' (i := 4) nd rfl (by first | exact .inl rfl | exact .inr rfl) (pe_frz (pe_bin (opr_mod c) (po_V (pe_bin (opr_pow c) (po_V (pe_bin (opr_add c) (po_V (pe_bin (opr_mul c) (po_S (pv 4)) (po_V (pe_bin (opr_add c) (po_S (pv 2)) (po_V pe_ci))))) (po_V (pe_bin (opr_mul c) (po_V (pe_bin (opr_mul c) (po_V pe_ci) (po_S (pv 2)))) (po_S (pv 2)))))) (po_V pe_ci))) (po_V pe_ci))) ((nio 4).resolve_right (by decide)))
    (pss_one' (ps_ret' (pe_bin (opr_mod c) (po_V (pe_bin (opr_div c) (po_S (pv 4)) (po_V pe_ci))) (po_S (pv 1)))))))))))))
theorem ok__law_names (T : Txt K mg) : DefP P w K mg base ⟨K, cmK K, [], w⟩ 2 "_law_names" s__law_names ["_law_pen_here", "_law_many"] g__law_names := by
  obtain ⟨fd, F⟩ := T.d__law_names
  have e__law_draw := ok__law_draw (P := P) (w := w) (base := base) T
  refine def_mk (N := ["_law_pen_here", "_law_many", "_law_letters", "_law_left", "_law_k"]) (ios := [0, 1]) (k := 1) T.g__law_names F sc__law_names (fun cdv A0 outer s H E hr => ⟨fun A W hw hio tk => ?_⟩) (fun _ _ _ _ _ _ us hl => match us, hl with | [_, _], _ => rfl)
  have c := cal_of (CXx := L2.CX P w) (Tb := []) (CM := cmK K) (N := ["_law_pen_here", "_law_many", "_law_letters", "_law_left", "_law_k"]) (mg := mg) (P := P) (w := w) (K := K) (base := base) (E := E) (cdv := cdv) (H := H) (s := s) (A := A0) (outer := outer) (qual := "_law_names") (scope := defScope s__law_names) (k := 1) hr T.sysm
  have hC : ∀ x : Str, A.w.CM x = some (He.ga K x) := fun x => by rw [hw]; rfl
  have hK : A.w.K = K := by rw [hw]
  rw [← hw] at c
  have d__law_draw := e__law_draw; rw [← hw] at d__law_draw; clear e__law_draw
  have nd : (["_law_pen_here", "_law_many", "_law_letters", "_law_left", "_law_k"] : List Str).Nodup := sc__law_names.nd
  have nio : ∀ i, i ∉ A.io ∨ i ∈ [0, 1] := fun i => by by_cases h : i ∈ A.io; exact .inr (hio i h); exact .inl h
  exact (pss_cons' (ps_asg' (i := 2) nd rfl (by first | exact .inl rfl | exact .inr rfl) pe_cs ((nio 2).resolve_right (by decide)))
    (pss_cons' (ps_asg' (i := 3) nd rfl (by first | exact .inl rfl | exact .inr rfl) (pe_lcM rfl nd (pi_rng1 rfl T.b_range (pa_asCons pe_ci pa_asNil)) (blkOk_by (own := [("_law_k", 4)]) (by rfl)) (fun _ _ _ _ _ => (pg_N (i := 4) nd rfl (by first | exact .inl rfl | exact .inr rfl) ((nio 4).resolve_right (by decide)))) (fun _ _ _ _ _ => pts_no) (fun _ _ _ _ _ => (pe_bin (opr_mul (Cal.blk c)) (po_V (pe_idx (Cal.blk c) (po_S (pv 2)) (po_V (pe_bin (opr_mod (Cal.blk c)) (po_S (pv 4)) (po_V pe_ci))))) (po_V (pe_bin (opr_add (Cal.blk c)) (po_V pe_ci) (po_V (pe_bin (opr_div (Cal.blk c)) (po_S (pv 4)) (po_V pe_ci))))))) (tok_N 4) (by decide) (fun i hi => (by decide : ∀ i ∈ ([0, 1] : List Nat), i ∉ _) i (hio i hi))) ((nio 3).resolve_right (by decide)))
    (pss_cons' (ps_asg' (i := 3) nd rfl (by first | exact .inl rfl | exact .inr rfl) (pe_bin (opr_add c) (po_S (pv 3)) (po_V (pe_lst' (pa_asCons pe_cs (pa_asCons pe_cs (pa_asCons pe_cs (pa_asCons pe_cs (pa_asCons pe_cs (pa_asCons pe_cs (pa_asCons pe_cs (pa_asCons pe_cs pa_asNil))))))))))) ((nio 3).resolve_right (by decide)))
    (pss_cons' (ps_if' (pt_cmpV opr_gt (po_V (pe_cD d__law_draw (hr.le (by decide)) rfl tk (pa_osCons (po_S (pv 0)) (pa_osCons (po_V pe_ci) pa_osNil)))) (po_V pe_ci)) (pss_one' (ps_asg' (i := 3) nd rfl (by first | exact .inl rfl | exact .inr rfl) (pe_slc c (po_S (pv 3)) po_pNo (po_pInt (pe_var' (pv 1)))) ((nio 3).resolve_right (by decide)))) pss_nil')
    (pss_one' (ps_ret' (pe_lcM rfl nd (pi_rng1 rfl T.b_range (pa_asCons (pe_var' (pv 1)) pa_asNil)) (blkOk_by (own := [("_law_k", 4)]) (by rfl)) (fun _ _ _ _ _ => (pg_N (i := 4) nd rfl (by first | exact .inl rfl | exact .inr rfl) ((nio 4).resolve_right (by decide)))) (fun _ _ _ _ _ => pts_no) (fun _ _ _ _ _ => (pe_mut PySem.F.plainAttrs_list PySem.F.slot_list_pop PySem.F.type_list_pop mutp_popAt (pv 3) (pa_asCons (pe_cD d__law_draw (hr.le (by decide)) rfl takes0 (pa_osCons (po_S (pv 0)) (pa_osCons (po_V (pe_frz (pe_bi (bi_len (Cal.blk c)) rfl T.b_len bf_len (pa_osCons (po_S (pv 3)) pa_osNil)))) pa_osNil))) pa_asNil))) (tok_N 4) (by decide) (fun i hi => (by decide : ∀ i ∈ ([0, 1] : List Nat), i ∉ _) i (hio i hi)))))))))
theorem ok__law_needs (T : Txt K mg) : DefP P w K mg base ⟨K, cmK K, [], w⟩ 2 "_law_needs" s__law_needs ["_law_pen_here", "_law_ladder"] g__law_needs := by
  obtain ⟨fd, F⟩ := T.d__law_needs
  have e__law_draw := ok__law_draw (P := P) (w := w) (base := base) T
  refine def_mk (N := ["_law_pen_here", "_law_ladder", "_law_left", "_law_order", "_law_way", "_law_found", "_law_k", "_law_title", "_law_some", "_law_mate"]) (ios := [0, 1]) (k := 1) T.g__law_needs F sc__law_needs (fun cdv A0 outer s H E hr => ⟨fun A W hw hio tk => ?_⟩) (fun _ _ _ _ _ _ us hl => match us, hl with | [_, _], _ => rfl)
  have c := cal_of (CXx := L2.CX P w) (Tb := []) (CM := cmK K) (N := ["_law_pen_here", "_law_ladder", "_law_left", "_law_order", "_law_way", "_law_found", "_law_k", "_law_title", "_law_some", "_law_mate"]) (mg := mg) (P := P) (w := w) (K := K) (base := base) (E := E) (cdv := cdv) (H := H) (s := s) (A := A0) (outer := outer) (qual := "_law_needs") (scope := defScope s__law_needs) (k := 1) hr T.sysm
  have hC : ∀ x : Str, A.w.CM x = some (He.ga K x) := fun x => by rw [hw]; rfl
  have hK : A.w.K = K := by rw [hw]
  rw [← hw] at c
  have d__law_draw := e__law_draw; rw [← hw] at d__law_draw; clear e__law_draw
  have nd : (["_law_pen_here", "_law_ladder", "_law_left", "_law_order", "_law_way", "_law_found", "_law_k", "_law_title", "_law_some", "_law_mate"] : List Str).Nodup := sc__law_needs.nd
  have nio : ∀ i, i ∉ A.io ∨ i ∈ [0, 1] := fun i => by by_cases h : i ∈ A.io; exact .inr (hio i h); exact .inl h
  exact (pss_cons' (ps_asg' (i := 2) nd rfl (by first | exact .inl rfl | exact .inr rfl) (pe_bt (bi_list c) rfl T.b_list bt_list (pa_osCons (po_S (pv 1)) pa_osNil)) ((nio 2).resolve_right (by decide)))
    (pss_cons' (ps_asgLc rfl nd (i := 3) rfl rfl ((nio 3).resolve_right (by decide)) (sw_true rfl rfl rfl (by decide +kernel)) (pi_V c.K (pe_var' (pv 1))) (blkOk_by (own := [("_law_title", 7)]) (by rfl)) (fun _ _ _ _ _ => (pg_N (i := 7) nd rfl (by first | exact .inl rfl | exact .inr rfl) ((nio 7).resolve_right (by decide)))) (fun _ _ _ _ _ => pts_no) (fun _ _ _ _ _ => (pe_mut PySem.F.plainAttrs_list PySem.F.slot_list_pop PySem.F.type_list_pop mutp_popAt (pv 2) (pa_asCons (pe_cD d__law_draw (hr.le (by decide)) rfl takes0 (pa_osCons (po_S (pv 0)) (pa_osCons (po_V (pe_frz (pe_bi (bi_len (Cal.blk c)) rfl T.b_len bf_len (pa_osCons (po_S (pv 2)) pa_osNil)))) pa_osNil))) pa_asNil))) (tok_N 7) (by decide) (fun i hi => (by decide : ∀ i ∈ ([0, 1] : List Nat), i ∉ _) i (hio i hi)))
    (pss_cons' (ps_asg' (i := 4) nd rfl (by first | exact .inl rfl | exact .inr rfl) (pe_frz (pe_cD d__law_draw (hr.le (by decide)) rfl tk (pa_osCons (po_S (pv 0)) (pa_osCons (po_V pe_ci) pa_osNil)))) ((nio 4).resolve_right (by decide)))
    (pss_cons' (ps_asg' (i := 5) nd rfl (by first | exact .inl rfl | exact .inr rfl) pe_dNewK ((nio 5).resolve_right (by decide)))
    (pss_cons' (ps_for' (passes_of rfl) rfl (pi_E c.K rfl T.b_enumerate (pe_var' (pv 3))) (pg_T rfl c.K (pgs_Cons (pg_N (i := 6) nd rfl (by first | exact .inl rfl | exact .inr rfl) ((nio 6).resolve_right (by decide))) (pgs_Cons (pg_N (i := 7) nd rfl (by first | exact .inl rfl | exact .inr rfl) ((nio 7).resolve_right (by decide))) pgs_Nil)) (tl_cons (tl_cons tl_nil))) (pss_cons' (ps_asg' (i := 8) nd rfl (by first | exact .inl rfl | exact .inr rfl) (pe_frz (pe_slc c (po_S (pv 3)) po_pNo (po_pInt (pe_var' (pv 6))))) ((nio 8).resolve_right (by decide)))
    (pss_cons' (ps_if' (pt_cmpV (opr_eqX c) (po_S (pv 4)) (po_V pe_ci)) (pss_one' (ps_asg' (i := 8) nd rfl (by first | exact .inl rfl | exact .inr rfl) (pe_frz (pe_lst' pa_asNil)) ((nio 8).resolve_right (by decide)))) pss_nil')
    (pss_cons' (ps_if' (pt_cmpV (opr_eqX c) (po_S (pv 4)) (po_V pe_ci)) (pss_one' (ps_asg' (i := 8) nd rfl (by first | exact .inl rfl | exact .inr rfl) (pe_frz (pe_ite (pt_cmpV opr_gt (po_S (pv 6)) (po_V pe_ci)) (pe_slc c (po_S (pv 3)) (po_pInt (pe_bin (opr_sub c) (po_S (pv 6)) (po_V pe_ci))) (po_pInt (pe_var' (pv 6)))) (pe_lst' pa_asNil))) ((nio 8).resolve_right (by decide)))) pss_nil')
    (pss_cons' (ps_if' (pt_cmpV opr_gt (po_S (pv 4)) (po_V pe_ci)) (pss_one' (ps_asgLc rfl nd (i := 8) rfl rfl ((nio 8).resolve_right (by decide)) (sw_true rfl rfl rfl (by decide +kernel)) (pi_V c.K (pe_slc c (po_S (pv 3)) po_pNo (po_pInt (pe_var' (pv 6))))) (blkOk_by (own := [("_law_mate", 9)]) (by rfl)) (fun _ _ _ _ _ => (pg_N (i := 9) nd rfl (by first | exact .inl rfl | exact .inr rfl) ((nio 9).resolve_right (by decide)))) (fun _ _ _ _ _ => (pts_1 (pt_cmpV (opr_eqX (Cal.blk c)) (po_V (pe_cD d__law_draw (hr.le (by decide)) rfl takes0 (pa_osCons (po_S (pv 0)) (pa_osCons (po_V (pe_idx (Cal.blk c) (po_V (pe_lst' (pa_asCons pe_ci (pa_asCons pe_ci pa_asNil)))) (po_V (pe_bin (opr_sub (Cal.blk c)) (po_S (pv 4)) (po_V pe_ci))))) pa_osNil)))) (po_V pe_ci)))) (fun _ _ _ _ _ => (pe_var' (pv 9))) (tok_N 9) (by decide) (fun i hi => (by decide : ∀ i ∈ ([0, 1] : List Nat), i ∉ _) i (hio i hi)))) pss_nil')
    (pss_cons' (ps_if' (pt_cmpV (opr_eqX c) (po_S (pv 4)) (po_V pe_ci)) (pss_one' (ps_asgLc rfl nd (i := 8) rfl rfl ((nio 8).resolve_right (by decide)) (sw_true rfl rfl rfl (by decide +kernel)) (pi_V c.K (pe_slc c (po_S (pv 3)) po_pNo (po_pInt (pe_var' (pv 6))))) (blkOk_by (own := [("_law_mate", 9)]) (by rfl)) (fun _ _ _ _ _ => (pg_N (i := 9) nd rfl (by first | exact .inl rfl | exact .inr rfl) ((nio 9).resolve_right (by decide)))) (fun _ _ _ _ _ => (pts_1 (pt_cmpV (opr_eqX (Cal.blk c)) (po_V (pe_cD d__law_draw (hr.le (by decide)) rfl takes0 (pa_osCons (po_S (pv 0)) (pa_osCons (po_V (pe_bin (opr_add (Cal.blk c)) (po_S (pv 6)) (po_V pe_ci))) pa_osNil)))) (po_V pe_ci)))) (fun _ _ _ _ _ => (pe_var' (pv 9))) (tok_N 9) (by decide) (fun i hi => (by decide : ∀ i ∈ ([0, 1] : List Nat), i ∉ _) i (hio i hi)))) pss_nil')
    (pss_one' (ps_setIx c (pv 5) (pe_var' (pv 7)) (pe_bt (bi_tuple c) rfl T.b_tuple bt_tuple (pa_osCons (po_V (pe_slc c (po_V (pe_bi (bi_sortedX c) rfl T.b_sorted bf_sorted (pa_osCons (po_S (pv 8)) pa_osNil))) po_pNo (po_pInt pe_ci))) pa_osNil))))))))))
    (pss_one' (ps_ret' (pe_mv (pv 5)))))))))
theorem ok__law_below (T : Txt K mg) : DefP P w K mg base ⟨K, cmK K, [], w⟩ 1 "_law_below" s__law_below ["_law_wants"] g__law_below := by
  obtain ⟨fd, F⟩ := T.d__law_below
  refine def_mk (N := ["_law_wants", "_law_found", "_law_title", "_law_some", "_law_left", "_law_mate"]) (ios := [0]) (k := 0) T.g__law_below F sc__law_below (fun cdv A0 outer s H E hr => ⟨fun A W hw hio tk => ?_⟩) (fun _ _ _ _ _ _ us hl => match us, hl with | [_], _ => rfl)
  have c := cal_of (CXx := L2.CX P w) (Tb := []) (CM := cmK K) (N := ["_law_wants", "_law_found", "_law_title", "_law_some", "_law_left", "_law_mate"]) (mg := mg) (P := P) (w := w) (K := K) (base := base) (E := E) (cdv := cdv) (H := H) (s := s) (A := A0) (outer := outer) (qual := "_law_below") (scope := defScope s__law_below) (k := 0) hr T.sysm
  have hC : ∀ x : Str, A.w.CM x = some (He.ga K x) := fun x => by rw [hw]; rfl
  have hK : A.w.K = K := by rw [hw]
  rw [← hw] at c
  have nd : (["_law_wants", "_law_found", "_law_title", "_law_some", "_law_left", "_law_mate"] : List Str).Nodup := sc__law_below.nd
  have nio : ∀ i, i ∉ A.io ∨ i ∈ [0] := fun i => by by_cases h : i ∈ A.io; exact .inr (hio i h); exact .inl h
  exact (pss_cons' (ps_asg' (i := 1) nd rfl (by first | exact .inl rfl | exact .inr rfl) pe_dNewK ((nio 1).resolve_right (by decide)))
    (pss_cons' (ps_for' (passes_of rfl) rfl (pi_V c.K (pe_var' (pv 0))) (pg_N (i := 2) nd rfl (by first | exact .inl rfl | exact .inr rfl) ((nio 2).resolve_right (by decide))) (pss_cons' (ps_asg' (i := 3) nd rfl (by first | exact .inl rfl | exact .inr rfl) (pe_lst' pa_asNil) ((nio 3).resolve_right (by decide)))
    (pss_cons' (ps_asg' (i := 4) nd rfl (by first | exact .inl rfl | exact .inr rfl) (pe_bt (bi_list c) rfl T.b_list bt_list (pa_osCons (po_V (pe_idx c (po_S (pv 0)) (po_S (pv 2)))) pa_osNil)) ((nio 4).resolve_right (by decide)))
    (pss_cons' (ps_whlN (passes_of rfl) (pt_cmpV (opr_neX c) (po_S (pv 4)) (po_V (pe_lst' pa_asNil))) (pss_cons' (ps_asg' (i := 5) nd rfl (by first | exact .inl rfl | exact .inr rfl) (pe_frz (pe_mut0 PySem.F.plainAttrs_list PySem.F.slot_list_pop PySem.F.type_list_pop mutp_pop (pv 4))) ((nio 5).resolve_right (by decide)))
    (pss_one' (ps_if' (pt_cmpV (opr_notInX c) (po_S (pv 5)) (po_S (pv 3))) (pss_cons' (ps_drop' (pe_mut PySem.F.plainAttrs_list PySem.F.slot_list_append PySem.F.type_list_append mutp_append (pv 3) (pa_asCons (pe_var' (pv 5)) pa_asNil)))
    (pss_one' (ps_drop' (pe_mut PySem.F.plainAttrs_list PySem.F.slot_list_extend PySem.F.type_list_extend mutp_extend (pv 4) (pa_asCons (pe_bt (bi_list c) rfl T.b_list bt_list (pa_osCons (po_V (pe_idx c (po_S (pv 0)) (po_S (pv 5)))) pa_osNil)) pa_asNil))))) pss_nil'))))
    (pss_one' (ps_setIx c (pv 1) (pe_var' (pv 2)) (pe_var' (pv 3))))))))
    (pss_one' (ps_ret' (pe_mv (pv 1))))))
theorem ok_is_name (T : Txt K mg) : DefP P w K mg base ⟨K, cmK K, [], w⟩ 1 "is_name" s_is_name ["value"] g_is_name := by
  obtain ⟨fd, F⟩ := T.d_is_name
  refine def_mk (N := ["value", "letter"]) (ios := [0]) (k := 0) T.g_is_name F sc_is_name (fun cdv A0 outer s H E hr => ⟨fun A W hw hio tk => ?_⟩) (fun _ _ _ _ _ _ us hl => match us, hl with | [_], _ => rfl)
  have c := cal_of (CXx := L2.CX P w) (Tb := []) (CM := cmK K) (N := ["value", "letter"]) (mg := mg) (P := P) (w := w) (K := K) (base := base) (E := E) (cdv := cdv) (H := H) (s := s) (A := A0) (outer := outer) (qual := "is_name") (scope := defScope s_is_name) (k := 0) hr T.sysm
  have hC : ∀ x : Str, A.w.CM x = some (He.ga K x) := fun x => by rw [hw]; rfl
  have hK : A.w.K = K := by rw [hw]
  rw [← hw] at c
  have nd : (["value", "letter"] : List Str).Nodup := sc_is_name.nd
  have nio : ∀ i, i ∉ A.io ∨ i ∈ [0] := fun i => by by_cases h : i ∈ A.io; exact .inr (hio i h); exact .inl h
  exact (pss_cons' (ps_if' (PW.pt (pw_or' (pt_not' (pt_tst (pe_bi (bi_isi c) rfl T.b_isinstance bf_isinstance (pa_osCons (po_S (pv 0)) (pa_osCons (po_V (pe_tyN rfl T.b_str bt_str)) pa_osNil))))) (pw_or1 (pt_not' (pt_chn opr_le opr_le (po_V pe_ci) (po_V (pe_bi (bi_len c) rfl T.b_len bf_len (pa_osCons (po_S (pv 0)) pa_osNil))) (po_V (pe_gi rfl T.c_LONGEST_NAME))))))) (pss_one' (ps_ret' (pe_cst pe_bl fun _ => rep_bl.mpr rfl))) pss_nil')
    (pss_one' (ps_ret' (pe_bi (bi_all c) rfl T.b_all bf_all (pa_osCons (po_V (pe_lcM rfl nd (pi_V c.K (pe_var' (pv 0))) (blkOk_by (own := [("letter", 1)]) (by rfl)) (fun _ _ _ _ _ => (pg_N (i := 1) nd rfl (by first | exact .inl rfl | exact .inr rfl) ((nio 1).resolve_right (by decide)))) (fun _ _ _ _ _ => pts_no) (fun _ _ _ _ _ => (pe_cmpV (opr_inX (Cal.blk c)) (po_S (pv 1)) (po_V (pe_gs rfl T.c_LETTERS)))) (tok_N 1) (by decide) (fun i hi => (by decide : ∀ i ∈ ([0] : List Nat), i ∉ _) i (hio i hi)))) pa_osNil)))))
theorem ok_first_wrong (T : Txt K mg) : DefP P w K mg base ⟨K, cmK K, [], w⟩ 2 "first_wrong" s_first_wrong ["rows"] g_first_wrong := by
  obtain ⟨fd, F⟩ := T.d_first_wrong
  have e_is_name := ok_is_name (P := P) (w := w) (base := base) T
  refine def_mk (N := ["rows", "index", "name"]) (ios := [0]) (k := 1) T.g_first_wrong F sc_first_wrong (fun cdv A0 outer s H E hr => ⟨fun A W hw hio tk => ?_⟩) (fun _ _ _ _ _ _ us hl => match us, hl with | [_], _ => rfl)
  have c := cal_of (CXx := L2.CX P w) (Tb := []) (CM := cmK K) (N := ["rows", "index", "name"]) (mg := mg) (P := P) (w := w) (K := K) (base := base) (E := E) (cdv := cdv) (H := H) (s := s) (A := A0) (outer := outer) (qual := "first_wrong") (scope := defScope s_first_wrong) (k := 1) hr T.sysm
  have hC : ∀ x : Str, A.w.CM x = some (He.ga K x) := fun x => by rw [hw]; rfl
  have hK : A.w.K = K := by rw [hw]
  rw [← hw] at c
  have d_is_name := e_is_name; rw [← hw] at d_is_name; clear e_is_name
  have nd : (["rows", "index", "name"] : List Str).Nodup := sc_first_wrong.nd
  have nio : ∀ i, i ∉ A.io ∨ i ∈ [0] := fun i => by by_cases h : i ∈ A.io; exact .inr (hio i h); exact .inl h
  exact (pss_cons' (ps_for' (passes_of rfl) rfl (pi_E c.K rfl T.b_enumerate (pe_var' (pv 0))) (pg_T rfl c.K (pgs_Cons (pg_N (i := 1) nd rfl (by first | exact .inl rfl | exact .inr rfl) ((nio 1).resolve_right (by decide))) (pgs_Cons (pg_N (i := 2) nd rfl (by first | exact .inl rfl | exact .inr rfl) ((nio 2).resolve_right (by decide))) pgs_Nil)) (tl_cons (tl_cons tl_nil))) (pss_one' (ps_if' (PW.pt (pw_or' (pt_cmpV (opr_eqX c) (po_S (pv 1)) (po_V (pe_gi rfl T.c_LIMIT))) (pw_or' (pt_not' (pt_tst (pe_cD d_is_name (hr.le (by decide)) rfl tk (pa_osCons (po_V (pe_var' (pv 2))) pa_osNil)))) (pw_or1 (pt_cmpV (opr_inX c) (po_S (pv 2)) (po_V (pe_slc c (po_S (pv 0)) po_pNo (po_pInt (pe_var' (pv 1)))))))))) (pss_one' (ps_ret' (pe_mv (pv 1)))) pss_nil')))
    (pss_one' (ps_ret' (pe_cst pe_non fun _ => rep_non.mpr rfl))))
theorem ok_need_rows (T : Txt K mg) : DefP P w K mg base ⟨K, cmK K, [], w⟩ 3 "need_rows" s_need_rows ["rows"] g_need_rows := by
  obtain ⟨fd, F⟩ := T.d_need_rows
  have e_first_wrong := ok_first_wrong (P := P) (w := w) (base := base) T
  refine def_mk (N := ["rows", "wrong"]) (ios := [0]) (k := 2) T.g_need_rows F sc_need_rows (fun cdv A0 outer s H E hr => ⟨fun A W hw hio tk => ?_⟩) (fun _ _ _ _ _ _ us hl => match us, hl with | [_], _ => rfl)
  have c := cal_of (CXx := L2.CX P w) (Tb := []) (CM := cmK K) (N := ["rows", "wrong"]) (mg := mg) (P := P) (w := w) (K := K) (base := base) (E := E) (cdv := cdv) (H := H) (s := s) (A := A0) (outer := outer) (qual := "need_rows") (scope := defScope s_need_rows) (k := 2) hr T.sysm
  have hC : ∀ x : Str, A.w.CM x = some (He.ga K x) := fun x => by rw [hw]; rfl
  have hK : A.w.K = K := by rw [hw]
  rw [← hw] at c
  have d_first_wrong := e_first_wrong; rw [← hw] at d_first_wrong; clear e_first_wrong
  obtain ⟨fd_InvalidRow, F_InvalidRow⟩ := T.d_C_InvalidRow___init__
  have xi_InvalidRow := ini1 (P := P) (w := w) (mg := mg) (base := base) F_InvalidRow sc_C_InvalidRow___init__ T.ex_InvalidRow.o T.xn_InvalidRow_index rfl
  have xb_InvalidRow := FunD.bindsN (ps := ["self", "index"]) F_InvalidRow (fun _ _ _ _ _ _ us hl => match us, hl with | [_, _], _ => rfl)
  have nd : (["rows", "wrong"] : List Str).Nodup := sc_need_rows.nd
  have nio : ∀ i, i ∉ A.io ∨ i ∈ [0] := fun i => by by_cases h : i ∈ A.io; exact .inr (hio i h); exact .inl h
  exact (pss_cons' (ps_if' (pt_not' (pt_tst (pe_bi (bi_isis c) rfl T.b_isinstance bf_isinstance (pa_osCons (po_S (pv 0)) (pa_osCons (po_V (pe_tup' (pa_asCons (pe_tyN rfl T.b_tuple bt_tuple) (pa_asCons (pe_tyN rfl T.b_list bt_list) pa_asNil)))) pa_osNil))))) (pss_one' (ps_raiM c tk (hC "InvalidRow") (pmk_M T.ex_InvalidRow.o T.xi_InvalidRow.iC T.xi_InvalidRow.tI xi_InvalidRow (hr.le (by decide)) xb_InvalidRow rfl T.gc_InvalidRow (pa_osCons (po_V (pe_cst pe_non fun _ => rep_non.mpr rfl)) pa_osNil)))) pss_nil')
    (pss_cons' (ps_asg' (i := 1) nd rfl (by first | exact .inl rfl | exact .inr rfl) (pe_frz (pe_cD d_first_wrong (hr.le (by decide)) rfl tk (pa_osCons (po_V (pe_var' (pv 0))) pa_osNil))) ((nio 1).resolve_right (by decide)))
    (pss_one' (ps_if' (pt_cmpV opr_isNot (po_S (pv 1)) (po_V (pe_cst pe_non fun _ => rep_non.mpr rfl))) (pss_one' (ps_raiM c tk (hC "InvalidRow") (pmk_M T.ex_InvalidRow.o T.xi_InvalidRow.iC T.xi_InvalidRow.tI xi_InvalidRow (hr.le (by decide)) xb_InvalidRow rfl T.gc_InvalidRow (pa_osCons (po_V (pe_var' (pv 1))) pa_osNil)))) pss_nil'))))
theorem ok_are_needs (T : Txt K mg) : DefP P w K mg base ⟨K, cmK K, [], w⟩ 2 "are_needs" s_are_needs ["rows", "value"] g_are_needs := by
  obtain ⟨fd, F⟩ := T.d_are_needs
  have e_is_name := ok_is_name (P := P) (w := w) (base := base) T
  refine def_mk (N := ["rows", "value", "name"]) (ios := [0, 1]) (k := 1) T.g_are_needs F sc_are_needs (fun cdv A0 outer s H E hr => ⟨fun A W hw hio tk => ?_⟩) (fun _ _ _ _ _ _ us hl => match us, hl with | [_, _], _ => rfl)
  have c := cal_of (CXx := L2.CX P w) (Tb := []) (CM := cmK K) (N := ["rows", "value", "name"]) (mg := mg) (P := P) (w := w) (K := K) (base := base) (E := E) (cdv := cdv) (H := H) (s := s) (A := A0) (outer := outer) (qual := "are_needs") (scope := defScope s_are_needs) (k := 1) hr T.sysm
  have hC : ∀ x : Str, A.w.CM x = some (He.ga K x) := fun x => by rw [hw]; rfl
  have hK : A.w.K = K := by rw [hw]
  rw [← hw] at c
  have d_is_name := e_is_name; rw [← hw] at d_is_name; clear e_is_name
  have nd : (["rows", "value", "name"] : List Str).Nodup := sc_are_needs.nd
  have nio : ∀ i, i ∉ A.io ∨ i ∈ [0, 1] := fun i => by by_cases h : i ∈ A.io; exact .inr (hio i h); exact .inl h
  exact (pss_cons' (ps_if' (PW.pt (pw_or' (pt_not' (pt_tst (pe_bi (bi_isi c) rfl T.b_isinstance bf_isinstance (pa_osCons (po_S (pv 1)) (pa_osCons (po_V (pe_tyN rfl T.b_tuple bt_tuple)) pa_osNil))))) (pw_or1 (pt_not' (pt_tst (pe_bi (bi_all c) rfl T.b_all bf_all (pa_osCons (po_V (pe_lcM rfl nd (pi_V c.K (pe_var' (pv 1))) (blkOk_by (own := [("name", 2)]) (by rfl)) (fun _ _ _ _ _ => (pg_N (i := 2) nd rfl (by first | exact .inl rfl | exact .inr rfl) ((nio 2).resolve_right (by decide)))) (fun _ _ _ _ _ => pts_no) (fun _ _ _ _ _ => (pe_andV (pe_cD d_is_name (hr.le (by decide)) rfl takes0 (pa_osCons (po_V (pe_var' (pv 2))) pa_osNil)) (pe_one (pe_cmpV (opr_inX (Cal.blk c)) (po_S (pv 2)) (po_S (pv 0)))))) (tok_N 2) (by decide) (fun i hi => (by decide : ∀ i ∈ ([0, 1] : List Nat), i ∉ _) i (hio i hi)))) pa_osNil))))))) (pss_one' (ps_ret' (pe_cst pe_bl fun _ => rep_bl.mpr rfl))) pss_nil')
    (pss_one' (ps_ret' (pe_cmpV (opr_eqX c) (po_V (pe_lenSet c rfl T.b_len rfl T.b_set (pe_var' (pv 1)))) (po_V (pe_bi (bi_len c) rfl T.b_len bf_len (pa_osCons (po_S (pv 1)) pa_osNil)))))))
theorem ok_need_needs (T : Txt K mg) : DefP P w K mg base ⟨K, cmK K, [], w⟩ 3 "need_needs" s_need_needs ["rows", "needs"] g_need_needs := by
  obtain ⟨fd, F⟩ := T.d_need_needs
  have e_are_needs := ok_are_needs (P := P) (w := w) (base := base) T
  refine def_mk (N := ["rows", "needs", "name", "others"]) (ios := [0, 1]) (k := 2) T.g_need_needs F sc_need_needs (fun cdv A0 outer s H E hr => ⟨fun A W hw hio tk => ?_⟩) (fun _ _ _ _ _ _ us hl => match us, hl with | [_, _], _ => rfl)
  have c := cal_of (CXx := L2.CX P w) (Tb := []) (CM := cmK K) (N := ["rows", "needs", "name", "others"]) (mg := mg) (P := P) (w := w) (K := K) (base := base) (E := E) (cdv := cdv) (H := H) (s := s) (A := A0) (outer := outer) (qual := "need_needs") (scope := defScope s_need_needs) (k := 2) hr T.sysm
  have hC : ∀ x : Str, A.w.CM x = some (He.ga K x) := fun x => by rw [hw]; rfl
  have hK : A.w.K = K := by rw [hw]
  rw [← hw] at c
  have d_are_needs := e_are_needs; rw [← hw] at d_are_needs; clear e_are_needs
  obtain ⟨fd_InvalidNeeds, F_InvalidNeeds⟩ := T.d_C_InvalidNeeds___init__
  have xi_InvalidNeeds := ini1 (P := P) (w := w) (mg := mg) (base := base) F_InvalidNeeds sc_C_InvalidNeeds___init__ T.ex_InvalidNeeds.o T.xn_InvalidNeeds_name rfl
  have xb_InvalidNeeds := FunD.bindsN (ps := ["self", "name"]) F_InvalidNeeds (fun _ _ _ _ _ _ us hl => match us, hl with | [_, _], _ => rfl)
  have nd : (["rows", "needs", "name", "others"] : List Str).Nodup := sc_need_needs.nd
  have nio : ∀ i, i ∉ A.io ∨ i ∈ [0, 1] := fun i => by by_cases h : i ∈ A.io; exact .inr (hio i h); exact .inl h
  exact (pss_cons' (ps_if' (pt_not' (pt_tst (pe_bi (bi_isi c) rfl T.b_isinstance bf_isinstance (pa_osCons (po_S (pv 1)) (pa_osCons (po_V (pe_tyN rfl T.b_dict bt_dict)) pa_osNil))))) (pss_one' (ps_raiM c tk (hC "InvalidNeeds") (pmk_M T.ex_InvalidNeeds.o T.xi_InvalidNeeds.iC T.xi_InvalidNeeds.tI xi_InvalidNeeds (hr.le (by decide)) xb_InvalidNeeds rfl T.gc_InvalidNeeds (pa_osCons (po_V (pe_cst pe_non fun _ => rep_non.mpr rfl)) pa_osNil)))) pss_nil')
    (pss_one' (ps_for' (passes_of rfl) rfl (pi_I (pe_var' (pv 1))) (pg_T rfl c.K (pgs_Cons (pg_N (i := 2) nd rfl (by first | exact .inl rfl | exact .inr rfl) ((nio 2).resolve_right (by decide))) (pgs_Cons (pg_N (i := 3) nd rfl (by first | exact .inl rfl | exact .inr rfl) ((nio 3).resolve_right (by decide))) pgs_Nil)) (tl_cons (tl_cons tl_nil))) (pss_one' (ps_if' (PW.pt (pw_or' (pt_cmpV (opr_notInX c) (po_S (pv 2)) (po_S (pv 0))) (pw_or1 (pt_not' (pt_tst (pe_cD d_are_needs (hr.le (by decide)) rfl tk (pa_osCons (po_V (pe_var' (pv 0))) (pa_osCons (po_V (pe_var' (pv 3))) pa_osNil)))))))) (pss_one' (ps_raiM c tk (hC "InvalidNeeds") (pmk_M T.ex_InvalidNeeds.o T.xi_InvalidNeeds.iC T.xi_InvalidNeeds.tI xi_InvalidNeeds (hr.le (by decide)) xb_InvalidNeeds rfl T.gc_InvalidNeeds (pa_osCons (po_V (pe_var' (pv 2))) pa_osNil)))) pss_nil')))))
theorem ok_unfinished (T : Txt K mg) : DefP P w K mg base ⟨K, cmK K, [], w⟩ 1 "unfinished" s_unfinished ["needs"] g_unfinished := by
  obtain ⟨fd, F⟩ := T.d_unfinished
  refine def_mk (N := ["needs", "left", "ready", "name", "others", "other"]) (ios := [0]) (k := 0) T.g_unfinished F sc_unfinished (fun cdv A0 outer s H E hr => ⟨fun A W hw hio tk => ?_⟩) (fun _ _ _ _ _ _ us hl => match us, hl with | [_], _ => rfl)
  have c := cal_of (CXx := L2.CX P w) (Tb := []) (CM := cmK K) (N := ["needs", "left", "ready", "name", "others", "other"]) (mg := mg) (P := P) (w := w) (K := K) (base := base) (E := E) (cdv := cdv) (H := H) (s := s) (A := A0) (outer := outer) (qual := "unfinished") (scope := defScope s_unfinished) (k := 0) hr T.sysm
  have hC : ∀ x : Str, A.w.CM x = some (He.ga K x) := fun x => by rw [hw]; rfl
  have hK : A.w.K = K := by rw [hw]
  rw [← hw] at c
  have nd : (["needs", "left", "ready", "name", "others", "other"] : List Str).Nodup := sc_unfinished.nd
  have nio : ∀ i, i ∉ A.io ∨ i ∈ [0] := fun i => by by_cases h : i ∈ A.io; exact .inr (hio i h); exact .inl h
  exact (pss_cons' (ps_asg' (i := 1) nd rfl (by first | exact .inl rfl | exact .inr rfl) (pe_bt (bi_dict c) rfl T.b_dict bt_dict (pa_osCons (po_S (pv 0)) pa_osNil)) ((nio 1).resolve_right (by decide)))
    (pss_cons' (ps_asg' (i := 2) nd rfl (by first | exact .inl rfl | exact .inr rfl) (pe_frz (pe_lcM rfl nd (pi_I (pe_var' (pv 1))) (blkOk_by (own := [("name", 3), ("others", 4)]) (by rfl)) (fun _ _ _ _ _ => (pg_T rfl (Cal.blk c).K (pgs_Cons (pg_N (i := 3) nd rfl (by first | exact .inl rfl | exact .inr rfl) ((nio 3).resolve_right (by decide))) (pgs_Cons (pg_N (i := 4) nd rfl (by first | exact .inl rfl | exact .inr rfl) ((nio 4).resolve_right (by decide))) pgs_Nil)) (tl_cons (tl_cons tl_nil)))) (fun _ _ _ _ _ => (pts_1 (pt_cmpV (opr_eqX (Cal.blk c)) (po_S (pv 4)) (po_V (pe_tup' pa_asNil))))) (fun _ _ _ _ _ => (pe_var' (pv 3))) (tok_T (tsok_cons (tok_N 3) (tsok_cons (tok_N 4) tsok_nil))) (by decide) (fun i hi => (by decide : ∀ i ∈ ([0] : List Nat), i ∉ _) i (hio i hi)))) ((nio 2).resolve_right (by decide)))
    (pss_cons' (ps_whlN (passes_of rfl) (pt_cmpV (opr_neX c) (po_S (pv 2)) (po_V (pe_lst' pa_asNil))) (pss_cons' (ps_asg' (i := 1) nd rfl (by first | exact .inl rfl | exact .inr rfl) (pe_dcM rfl nd (pi_I (pe_var' (pv 1))) (blkOk_by (own := [("name", 3), ("others", 4)]) (by rfl)) (fun _ _ _ _ _ => (pg_T rfl (Cal.blk c).K (pgs_Cons (pg_N (i := 3) nd rfl (by first | exact .inl rfl | exact .inr rfl) ((nio 3).resolve_right (by decide))) (pgs_Cons (pg_N (i := 4) nd rfl (by first | exact .inl rfl | exact .inr rfl) ((nio 4).resolve_right (by decide))) pgs_Nil)) (tl_cons (tl_cons tl_nil)))) (fun _ _ _ _ _ => (pts_1 (pt_cmpV (opr_notInX (Cal.blk c)) (po_S (pv 3)) (po_S (pv 2))))) (fun _ _ _ _ _ => (pe_var' (pv 3))) (fun _ _ _ _ _ => (pe_var' (pv 4))) (tok_T (tsok_cons (tok_N 3) (tsok_cons (tok_N 4) tsok_nil))) (by decide) (fun i hi => (by decide : ∀ i ∈ ([0] : List Nat), i ∉ _) i (hio i hi))) ((nio 1).resolve_right (by decide)))
    (pss_one' (ps_asg' (i := 2) nd rfl (by first | exact .inl rfl | exact .inr rfl) (pe_frz (pe_lcM rfl nd (pi_I (pe_var' (pv 1))) (blkOk_by (own := [("name", 3), ("others", 4)]) (by rfl)) (fun _ _ _ _ _ => (pg_T rfl (Cal.blk c).K (pgs_Cons (pg_N (i := 3) nd rfl (by first | exact .inl rfl | exact .inr rfl) ((nio 3).resolve_right (by decide))) (pgs_Cons (pg_N (i := 4) nd rfl (by first | exact .inl rfl | exact .inr rfl) ((nio 4).resolve_right (by decide))) pgs_Nil)) (tl_cons (tl_cons tl_nil)))) (fun _ _ _ _ _ => (pts_1 (pt_not' (pt_tst (pe_bi (bi_any (Cal.blk c)) rfl T.b_any bf_any (pa_osCons (po_V (pe_lcM rfl nd (pi_V (Cal.blk c).K (pe_var' (pv 4))) (blkOk_by (own := [("other", 5)]) (by rfl)) (fun _ _ _ _ _ => (pg_N (i := 5) nd rfl (by first | exact .inl rfl | exact .inr rfl) ((nio 5).resolve_right (by decide)))) (fun _ _ _ _ _ => pts_no) (fun _ _ _ _ _ => (pe_cmpV (opr_inX (Cal.blk (Cal.blk c))) (po_S (pv 5)) (po_S (pv 1)))) (tok_N 5) (by decide) (fun i hi => (by decide : ∀ i ∈ ([0] : List Nat), i ∉ _) i (hio i hi)))) pa_osNil)))))) (fun _ _ _ _ _ => (pe_var' (pv 3))) (tok_T (tsok_cons (tok_N 3) (tsok_cons (tok_N 4) tsok_nil))) (by decide) (fun i hi => (by decide : ∀ i ∈ ([0] : List Nat), i ∉ _) i (hio i hi)))) ((nio 2).resolve_right (by decide))))))
    (pss_one' (ps_ret' (pe_mv (pv 1)))))))
theorem ok_ring_in (T : Txt K mg) : DefP P w K mg base ⟨K, cmK K, [], w⟩ 2 "ring_in" s_ring_in ["needs"] g_ring_in := by
  obtain ⟨fd, F⟩ := T.d_ring_in
  have e_unfinished := ok_unfinished (P := P) (w := w) (base := base) T
  refine def_mk (N := ["needs", "left", "walk", "following", "other"]) (ios := [0]) (k := 1) T.g_ring_in F sc_ring_in (fun cdv A0 outer s H E hr => ⟨fun A W hw hio tk => ?_⟩) (fun _ _ _ _ _ _ us hl => match us, hl with | [_], _ => rfl)
  have c := cal_of (CXx := L2.CX P w) (Tb := []) (CM := cmK K) (N := ["needs", "left", "walk", "following", "other"]) (mg := mg) (P := P) (w := w) (K := K) (base := base) (E := E) (cdv := cdv) (H := H) (s := s) (A := A0) (outer := outer) (qual := "ring_in") (scope := defScope s_ring_in) (k := 1) hr T.sysm
  have hC : ∀ x : Str, A.w.CM x = some (He.ga K x) := fun x => by rw [hw]; rfl
  have hK : A.w.K = K := by rw [hw]
  rw [← hw] at c
  have d_unfinished := e_unfinished; rw [← hw] at d_unfinished; clear e_unfinished
  have nd : (["needs", "left", "walk", "following", "other"] : List Str).Nodup := sc_ring_in.nd
  have nio : ∀ i, i ∉ A.io ∨ i ∈ [0] := fun i => by by_cases h : i ∈ A.io; exact .inr (hio i h); exact .inl h
  exact (pss_cons' (ps_asg' (i := 1) nd rfl (by first | exact .inl rfl | exact .inr rfl) (pe_frz (pe_cD d_unfinished (hr.le (by decide)) rfl tk (pa_osCons (po_V (pe_var' (pv 0))) pa_osNil))) ((nio 1).resolve_right (by decide)))
    (pss_cons' (ps_asg' (i := 2) nd rfl (by first | exact .inl rfl | exact .inr rfl) (pe_slc c (po_V (pe_bt (bi_listX c) rfl T.b_list bt_list (pa_osCons (po_S (pv 1)) pa_osNil))) po_pNo (po_pInt pe_ci)) ((nio 2).resolve_right (by decide)))
    (pss_cons' (ps_whlN (passes_of rfl) (pt_cmpV (opr_neX c) (po_S (pv 2)) (po_V (pe_lst' pa_asNil))) (pss_cons' (ps_asg' (i := 3) nd rfl (by first | exact .inl rfl | exact .inr rfl) (pe_idx c (po_V (pe_lcM rfl nd (pi_V c.K (pe_idx c (po_S (pv 1)) (po_V (pe_idx c (po_S (pv 2)) (po_V (pe_neg (po_V pe_ci))))))) (blkOk_by (own := [("other", 4)]) (by rfl)) (fun _ _ _ _ _ => (pg_N (i := 4) nd rfl (by first | exact .inl rfl | exact .inr rfl) ((nio 4).resolve_right (by decide)))) (fun _ _ _ _ _ => (pts_1 (pt_cmpV (opr_inX (Cal.blk c)) (po_S (pv 4)) (po_S (pv 1))))) (fun _ _ _ _ _ => (pe_var' (pv 4))) (tok_N 4) (by decide) (fun i hi => (by decide : ∀ i ∈ ([0] : List Nat), i ∉ _) i (hio i hi)))) (po_V pe_ci)) ((nio 3).resolve_right (by decide)))
    (pss_cons' (ps_if' (pt_cmpV (opr_inX c) (po_S (pv 3)) (po_S (pv 2))) (pss_one' (ps_ret' (pe_bt (bi_tuple c) rfl T.b_tuple bt_tuple (pa_osCons (po_V (pe_slc c (po_S (pv 2)) (po_pInt (pe_mt c (by decide) PySem.F.plainAttrs_list PySem.F.slot_list_index PySem.F.type_list_index (mtp_index c) (po_S (pv 2)) (pa_osCons (po_S (pv 3)) pa_osNil))) po_pNo)) pa_osNil)))) pss_nil')
    (pss_one' (ps_drop' (pe_mut PySem.F.plainAttrs_list PySem.F.slot_list_append PySem.F.type_list_append mutp_append (pv 2) (pa_asCons (pe_var' (pv 3)) pa_asNil)))))))
    (pss_one' (ps_ret' (pe_cst pe_non fun _ => rep_non.mpr rfl))))))
theorem ok_C_Sheet_needs (T : Txt K mg) : DefQ P w K mg base ⟨K, cmK K, [], w⟩ 1 "needs" "Sheet.needs" s_C_Sheet_needs ["self"] g_C_Sheet_needs (M.pf K (He.ga K "Sheet") "needs") := by
  obtain ⟨fd, F⟩ := T.d_C_Sheet_needs
  refine defQ_mk (N := ["self"]) (ios := [0]) (k := 0) F sc_C_Sheet_needs (fun cdv A0 outer s H E hr => ⟨fun A W hw hio tk => ?_⟩) (fun _ _ _ _ _ _ us hl => match us, hl with | [_], _ => rfl)
  have c := cal_of (CXx := L2.CX P w) (Tb := []) (CM := cmK K) (N := ["self"]) (mg := mg) (P := P) (w := w) (K := K) (base := base) (E := E) (cdv := cdv) (H := H) (s := s) (A := A0) (outer := outer) (qual := "Sheet.needs") (scope := defScope s_C_Sheet_needs) (k := 0) hr T.sysm
  have hC : ∀ x : Str, A.w.CM x = some (He.ga K x) := fun x => by rw [hw]; rfl
  have hK : A.w.K = K := by rw [hw]
  rw [← hw] at c
  have f_Sheet_direct : FldOk A.w ["Sheet"] "direct" := (fld_cons (hC "Sheet") (by rw [hK]; exact T.cl_Sheet) (by rw [hK]; exact T.na_Sheet_direct) fld_nil)
  have nd : (["self"] : List Str).Nodup := sc_C_Sheet_needs.nd
  have nio : ∀ i, i ∉ A.io ∨ i ∈ [0] := fun i => by by_cases h : i ∈ A.io; exact .inr (hio i h); exact .inl h
  exact (pss_one' (ps_ret' (pe_bt (bi_dict c) rfl T.b_dict bt_dict (pa_osCons (po_V (pe_fldM c f_Sheet_direct (po_S (pv 0)))) pa_osNil))))
theorem ok_row_text (T : Txt K mg) : DefP P w K mg base ⟨K, cmK K, [], w⟩ 1 "row_text" s_row_text ["name", "needed"] g_row_text := by
  obtain ⟨fd, F⟩ := T.d_row_text
  refine def_mk (N := ["name", "needed"]) (ios := [0, 1]) (k := 0) T.g_row_text F sc_row_text (fun cdv A0 outer s H E hr => ⟨fun A W hw hio tk => ?_⟩) (fun _ _ _ _ _ _ us hl => match us, hl with | [_, _], _ => rfl)
  have c := cal_of (CXx := L2.CX P w) (Tb := []) (CM := cmK K) (N := ["name", "needed"]) (mg := mg) (P := P) (w := w) (K := K) (base := base) (E := E) (cdv := cdv) (H := H) (s := s) (A := A0) (outer := outer) (qual := "row_text") (scope := defScope s_row_text) (k := 0) hr T.sysm
  have hC : ∀ x : Str, A.w.CM x = some (He.ga K x) := fun x => by rw [hw]; rfl
  have hK : A.w.K = K := by rw [hw]
  rw [← hw] at c
  have nd : (["name", "needed"] : List Str).Nodup := sc_row_text.nd
  have nio : ∀ i, i ∉ A.io ∨ i ∈ [0, 1] := fun i => by by_cases h : i ∈ A.io; exact .inr (hio i h); exact .inl h
  exact (pss_one' (ps_ret' (pe_ite (pt_cmpV (opr_neX c) (po_S (pv 1)) (po_V (pe_tup' pa_asNil))) (pe_mt c (by decide) PySem.F.plainAttrs_str PySem.F.slot_str_join PySem.F.type_str_join mtp_join (po_V pe_cs) (pa_osCons (po_V (pe_lst' (pa_asCons (pe_fstr (pj_Cons (pe_fmtM (po_S (pv 0))) (pj_Cons pe_cs pj_Nil))) (pa_asStar c (pe_var' (pv 1)) pa_asNil)))) pa_osNil)) (pe_var' (pv 0)))))
theorem ok_C_Sheet_rows (T : Txt K mg) : DefQ P w K mg base ⟨K, cmK K, [], w⟩ 1 "rows" "Sheet.rows" s_C_Sheet_rows ["self"] g_C_Sheet_rows (M.pf K (He.ga K "Sheet") "rows") := by
  obtain ⟨fd, F⟩ := T.d_C_Sheet_rows
  refine defQ_mk (N := ["self"]) (ios := [0]) (k := 0) F sc_C_Sheet_rows (fun cdv A0 outer s H E hr => ⟨fun A W hw hio tk => ?_⟩) (fun _ _ _ _ _ _ us hl => match us, hl with | [_], _ => rfl)
  have c := cal_of (CXx := L2.CX P w) (Tb := []) (CM := cmK K) (N := ["self"]) (mg := mg) (P := P) (w := w) (K := K) (base := base) (E := E) (cdv := cdv) (H := H) (s := s) (A := A0) (outer := outer) (qual := "Sheet.rows") (scope := defScope s_C_Sheet_rows) (k := 0) hr T.sysm
  have hC : ∀ x : Str, A.w.CM x = some (He.ga K x) := fun x => by rw [hw]; rfl
  have hK : A.w.K = K := by rw [hw]
  rw [← hw] at c
  have f_Sheet_names : FldOk A.w ["Sheet"] "names" := (fld_cons (hC "Sheet") (by rw [hK]; exact T.cl_Sheet) (by rw [hK]; exact T.na_Sheet_names) fld_nil)
  have nd : (["self"] : List Str).Nodup := sc_C_Sheet_rows.nd
  have nio : ∀ i, i ∉ A.io ∨ i ∈ [0] := fun i => by by_cases h : i ∈ A.io; exact .inr (hio i h); exact .inl h
  exact (pss_one' (ps_ret' (pe_fldM c f_Sheet_names (po_S (pv 0)))))
theorem ok_sheet_text (T : Txt K mg) : DefP P w K mg base ⟨K, cmK K, [], w⟩ 3 "sheet_text" s_sheet_text ["sheet"] g_sheet_text := by
  obtain ⟨fd, F⟩ := T.d_sheet_text
  have e_C_Sheet_needs := ok_C_Sheet_needs (P := P) (w := w) (base := base) T
  have e_row_text := ok_row_text (P := P) (w := w) (base := base) T
  have e_C_Sheet_rows := ok_C_Sheet_rows (P := P) (w := w) (base := base) T
  refine def_mk (N := ["sheet", "needs", "name"]) (ios := [0]) (k := 2) T.g_sheet_text F sc_sheet_text (fun cdv A0 outer s H E hr => ⟨fun A W hw hio tk => ?_⟩) (fun _ _ _ _ _ _ us hl => match us, hl with | [_], _ => rfl)
  have c := cal_of (CXx := L2.CX P w) (Tb := []) (CM := cmK K) (N := ["sheet", "needs", "name"]) (mg := mg) (P := P) (w := w) (K := K) (base := base) (E := E) (cdv := cdv) (H := H) (s := s) (A := A0) (outer := outer) (qual := "sheet_text") (scope := defScope s_sheet_text) (k := 2) hr T.sysm
  have hC : ∀ x : Str, A.w.CM x = some (He.ga K x) := fun x => by rw [hw]; rfl
  have hK : A.w.K = K := by rw [hw]
  rw [← hw] at c
  rw [← hw] at e_C_Sheet_needs
  have d_row_text := e_row_text; rw [← hw] at d_row_text; clear e_row_text
  rw [← hw] at e_C_Sheet_rows
  have p_C_Sheet_needs := prp_of (X := (cxOf (L2.CX P w) P w K mg base ["sheet", "needs", "name"] "sheet_text" (defScope s_sheet_text) (He.ga K "sheet_text") cdv A0 outer s H E)) (wd := A.w) (lvl := 1) (c := "Sheet") (n := 1) e_C_Sheet_needs (by decide) (hC "Sheet") T.cl_Sheet T.t_C_Sheet_needs
  have p_C_Sheet_rows := prp_of (X := (cxOf (L2.CX P w) P w K mg base ["sheet", "needs", "name"] "sheet_text" (defScope s_sheet_text) (He.ga K "sheet_text") cdv A0 outer s H E)) (wd := A.w) (lvl := 1) (c := "Sheet") (n := 1) e_C_Sheet_rows (by decide) (hC "Sheet") T.cl_Sheet T.t_C_Sheet_rows
  have nd : (["sheet", "needs", "name"] : List Str).Nodup := sc_sheet_text.nd
  have nio : ∀ i, i ∉ A.io ∨ i ∈ [0] := fun i => by by_cases h : i ∈ A.io; exact .inr (hio i h); exact .inl h
  exact (pss_cons' (ps_asg' (i := 1) nd rfl (by first | exact .inl rfl | exact .inr rfl) (pe_prp (tb_cons ⟨p_C_Sheet_needs.ok⟩ tb_nil) (hr.le (by decide)) (po_S (pv 0))) ((nio 1).resolve_right (by decide)))
    (pss_one' (ps_ret' (pe_mt c (by decide) PySem.F.plainAttrs_str PySem.F.slot_str_join PySem.F.type_str_join mtp_join (po_V pe_cs) (pa_osCons (po_V (pe_lcM rfl nd (pi_V c.K (pe_prp (tb_cons ⟨p_C_Sheet_rows.ok⟩ tb_nil) (hr.le (by decide)) (po_S (pv 0)))) (blkOk_by (own := [("name", 2)]) (by rfl)) (fun _ _ _ _ _ => (pg_N (i := 2) nd rfl (by first | exact .inl rfl | exact .inr rfl) ((nio 2).resolve_right (by decide)))) (fun _ _ _ _ _ => pts_no) (fun _ _ _ _ _ => (pe_cD d_row_text (hr.le (by decide)) rfl takes0 (pa_osCons (po_V (pe_var' (pv 2))) (pa_osCons (po_V (pe_idx (Cal.blk c) (po_S (pv 1)) (po_S (pv 2)))) pa_osNil)))) (tok_N 2) (by decide) (fun i hi => (by decide : ∀ i ∈ ([0] : List Nat), i ∉ _) i (hio i hi)))) pa_osNil)))))
theorem ok_C_Sheet_fill (T : Txt K mg) : DefQ P w K mg base ⟨K, cmK K, [], w⟩ 4 "fill" "Sheet.fill" s_C_Sheet_fill ["self", "rows", "needs"] g_C_Sheet_fill (He.ma K (He.ga K "Sheet") "fill") := by
  obtain ⟨fd, F⟩ := T.d_C_Sheet_fill
  have e_need_rows := ok_need_rows (P := P) (w := w) (base := base) T
  have e_need_needs := ok_need_needs (P := P) (w := w) (base := base) T
  have e_ring_in := ok_ring_in (P := P) (w := w) (base := base) T
  have e_sheet_text := ok_sheet_text (P := P) (w := w) (base := base) T
  refine defQ_mk (N := ["self", "rows", "needs", "direct", "ring", "name", "index"]) (ios := [0, 1, 2]) (k := 3) F sc_C_Sheet_fill (fun cdv A0 outer s H E hr => ⟨fun A W hw hio tk => ?_⟩) (fun _ _ _ _ _ _ us hl => match us, hl with | [_, _, _], _ => rfl)
  have c := cal_of (CXx := L2.CX P w) (Tb := []) (CM := cmK K) (N := ["self", "rows", "needs", "direct", "ring", "name", "index"]) (mg := mg) (P := P) (w := w) (K := K) (base := base) (E := E) (cdv := cdv) (H := H) (s := s) (A := A0) (outer := outer) (qual := "Sheet.fill") (scope := defScope s_C_Sheet_fill) (k := 3) hr T.sysm
  have hC : ∀ x : Str, A.w.CM x = some (He.ga K x) := fun x => by rw [hw]; rfl
  have hK : A.w.K = K := by rw [hw]
  rw [← hw] at c
  have d_need_rows := e_need_rows; rw [← hw] at d_need_rows; clear e_need_rows
  have d_need_needs := e_need_needs; rw [← hw] at d_need_needs; clear e_need_needs
  have d_ring_in := e_ring_in; rw [← hw] at d_ring_in; clear e_ring_in
  have d_sheet_text := e_sheet_text; rw [← hw] at d_sheet_text; clear e_sheet_text
  obtain ⟨fd_HasRing, F_HasRing⟩ := T.d_C_HasRing___init__
  have xi_HasRing := ini1 (P := P) (w := w) (mg := mg) (base := base) F_HasRing sc_C_HasRing___init__ T.ex_HasRing.o T.xn_HasRing_ring rfl
  have xb_HasRing := FunD.bindsN (ps := ["self", "ring"]) F_HasRing (fun _ _ _ _ _ _ us hl => match us, hl with | [_, _], _ => rfl)
  have f_Sheet_names : FldOk A.w ["Sheet"] "names" := (fld_cons (hC "Sheet") (by rw [hK]; exact T.cl_Sheet) (by rw [hK]; exact T.na_Sheet_names) fld_nil)
  have f_Sheet_direct : FldOk A.w ["Sheet"] "direct" := (fld_cons (hC "Sheet") (by rw [hK]; exact T.cl_Sheet) (by rw [hK]; exact T.na_Sheet_direct) fld_nil)
  have f_Sheet_order : FldOk A.w ["Sheet"] "order" := (fld_cons (hC "Sheet") (by rw [hK]; exact T.cl_Sheet) (by rw [hK]; exact T.na_Sheet_order) fld_nil)
  have f_Sheet_shown : FldOk A.w ["Sheet"] "shown" := (fld_cons (hC "Sheet") (by rw [hK]; exact T.cl_Sheet) (by rw [hK]; exact T.na_Sheet_shown) fld_nil)
  have nd : (["self", "rows", "needs", "direct", "ring", "name", "index"] : List Str).Nodup := sc_C_Sheet_fill.nd
  have nio : ∀ i, i ∉ A.io ∨ i ∈ [0, 1, 2] := fun i => by by_cases h : i ∈ A.io; exact .inr (hio i h); exact .inl h
  exact (pss_cons' (ps_drop' (pe_cD d_need_rows (hr.le (by decide)) rfl tk (pa_osCons (po_V (pe_var' (pv 1))) pa_osNil)))
    (pss_cons' (ps_drop' (pe_cD d_need_needs (hr.le (by decide)) rfl tk (pa_osCons (po_V (pe_var' (pv 1))) (pa_osCons (po_V (pe_var' (pv 2))) pa_osNil))))
    (pss_cons' (ps_asgDc rfl nd (i := 3) rfl rfl ((nio 3).resolve_right (by decide)) (sw_trueD rfl rfl rfl (by decide +kernel)) (pi_V c.K (pe_var' (pv 1))) (blkOk_by (own := [("name", 5)]) (by rfl)) (fun _ _ _ _ _ => (pg_N (i := 5) nd rfl (by first | exact .inl rfl | exact .inr rfl) ((nio 5).resolve_right (by decide)))) (fun _ _ _ _ _ => pts_no) (fun _ _ _ _ _ => (pe_var' (pv 5))) (fun _ _ _ _ _ => (pe_bt (bi_tuple (Cal.blk c)) rfl T.b_tuple bt_tuple (pa_osCons (po_V (pe_bi (bi_sortedX (Cal.blk c)) rfl T.b_sorted bf_sorted (pa_osCons (po_V (pe_mt (Cal.blk c) (by decide) PySem.F.plainAttrs_dict PySem.F.slot_dict_get PySem.F.type_dict_get (mtp_dget (Cal.blk c)) (po_S (pv 2)) (pa_osCons (po_S (pv 5)) (pa_osCons (po_V (pe_tup' pa_asNil)) pa_osNil)))) pa_osNil))) pa_osNil))) (tok_N 5) (by decide) (fun i hi => (by decide : ∀ i ∈ ([0, 1, 2] : List Nat), i ∉ _) i (hio i hi)))
    (pss_cons' (ps_asg' (i := 4) nd rfl (by first | exact .inl rfl | exact .inr rfl) (pe_frz (pe_cD d_ring_in (hr.le (by decide)) rfl tk (pa_osCons (po_V (pe_var' (pv 3))) pa_osNil))) ((nio 4).resolve_right (by decide)))
    (pss_cons' (ps_if' (pt_cmpV opr_isNot (po_S (pv 4)) (po_V (pe_cst pe_non fun _ => rep_non.mpr rfl))) (pss_one' (ps_raiM c tk (hC "HasRing") (pmk_M T.ex_HasRing.o T.xi_HasRing.iC T.xi_HasRing.tI xi_HasRing (hr.le (by decide)) xb_HasRing rfl T.gc_HasRing (pa_osCons (po_V (pe_var' (pv 4))) pa_osNil)))) pss_nil')
    (pss_cons' (ps_setFld c f_Sheet_names (pv 0) (pe_bt (bi_tuple c) rfl T.b_tuple bt_tuple (pa_osCons (po_S (pv 1)) pa_osNil)))
    (pss_cons' (ps_setFld c f_Sheet_direct (pv 0) (pe_var' (pv 3)))
    (pss_cons' (ps_setFld c f_Sheet_order (pv 0) (pe_dcM rfl nd (pi_E c.K rfl T.b_enumerate (pe_var' (pv 1))) (blkOk_by (own := [("index", 6), ("name", 5)]) (by rfl)) (fun _ _ _ _ _ => (pg_T rfl (Cal.blk c).K (pgs_Cons (pg_N (i := 6) nd rfl (by first | exact .inl rfl | exact .inr rfl) ((nio 6).resolve_right (by decide))) (pgs_Cons (pg_N (i := 5) nd rfl (by first | exact .inl rfl | exact .inr rfl) ((nio 5).resolve_right (by decide))) pgs_Nil)) (tl_cons (tl_cons tl_nil)))) (fun _ _ _ _ _ => pts_no) (fun _ _ _ _ _ => (pe_var' (pv 5))) (fun _ _ _ _ _ => (pe_var' (pv 6))) (tok_T (tsok_cons (tok_N 6) (tsok_cons (tok_N 5) tsok_nil))) (by decide) (fun i hi => (by decide : ∀ i ∈ ([0, 1, 2] : List Nat), i ∉ _) i (hio i hi))))
    (pss_one' (ps_setFld c f_Sheet_shown (pv 0) (pe_cD d_sheet_text (hr.le (by decide)) rfl tk (pa_osCons (po_S (pv 0)) pa_osNil))))))))))))
theorem ok_C_Sheet___init__ (T : Txt K mg) (n : Nat) : FnP P w K mg base (L2.CX P w) 5 (He.ma K (He.ga K "Sheet") "__init__") (spF ⟨K, cmK K, [], w⟩ n g_C_Sheet___init__) := by
  obtain ⟨fd, F⟩ := T.d_C_Sheet___init__
  have e_C_Sheet_fill := ok_C_Sheet_fill (P := P) (w := w) (base := base) T
  refine fnP_starkw (pv := "rows") (pd := "needs") (ps := ["self"]) (N := ["self", "rows", "needs"]) (ios := [0, 1, 2]) (k := 4) F sc_C_Sheet___init__ (fun cdv A0 outer s H E hr => ⟨fun A W hw hio tk => ?_⟩) (fun _ _ _ _ _ _ us rest hl => match us, rest, hl with | [_], [], _ => rfl | [_], _ :: _, _ => rfl)
  have c := cal_of (CXx := L2.CX P w) (Tb := []) (CM := cmK K) (N := ["self", "rows", "needs"]) (mg := mg) (P := P) (w := w) (K := K) (base := base) (E := E) (cdv := cdv) (H := H) (s := s) (A := A0) (outer := outer) (qual := "Sheet.__init__") (scope := defScope s_C_Sheet___init__) (k := 4) hr T.sysm
  have hC : ∀ x : Str, A.w.CM x = some (He.ga K x) := fun x => by rw [hw]; rfl
  have hK : A.w.K = K := by rw [hw]
  rw [← hw] at c
  rw [← hw] at e_C_Sheet_fill
  have m_C_Sheet_fill := mth_of (X := (cxOf (L2.CX P w) P w K mg base ["self", "rows", "needs"] "Sheet.__init__" (defScope s_C_Sheet___init__) (He.ma K (He.ga K "Sheet") "__init__") cdv A0 outer s H E)) (wd := A.w) (lvl := 4) (c := "Sheet") (n := 3) e_C_Sheet_fill (by decide) (hC "Sheet") T.cl_Sheet T.t_C_Sheet_fill
  have nd : (["self", "rows", "needs"] : List Str).Nodup := sc_C_Sheet___init__.nd
  have nio : ∀ i, i ∉ A.io ∨ i ∈ [0, 1, 2] := fun i => by by_cases h : i ∈ A.io; exact .inr (hio i h); exact .inl h
  exact (pss_one' (ps_drop' (pe_callM (tb_cons ⟨m_C_Sheet_fill.ok⟩ tb_nil) (hr.le (by decide)) tk (po_S (pv 0)) (pa_osCons (po_V (pe_var' (pv 1))) (pa_osCons (po_V (pe_var' (pv 2))) pa_osNil)))))
theorem ok_C_Sheet_of (T : Txt K mg) : DefQ P w K mg base ⟨K, cmK K, [], w⟩ 7 "of" "Sheet.of" s_C_Sheet_of ["cls", "rows", "needs"] g_C_Sheet_of (He5.wf K (He.ga K "Sheet") "classmethod" "of") := by
  obtain ⟨fd, F⟩ := T.d_C_Sheet_of
  have e_C_Sheet___init__ := fun n => ok_C_Sheet___init__ (P := P) (w := w) (base := base) T n
  have e_C_Sheet___init__ := ok_C_Sheet___init__ (P := P) (w := w) (base := base) T
  have e_C_Sheet_fill := ok_C_Sheet_fill (P := P) (w := w) (base := base) T
  refine defQ_mk (N := ["cls", "rows", "needs", "found"]) (ios := [0, 1, 2]) (k := 6) F sc_C_Sheet_of (fun cdv A0 outer s H E hr => ⟨fun A W hw hio tk => ?_⟩) (fun _ _ _ _ _ _ us hl => match us, hl with | [_, _, _], _ => rfl)
  have c := cal_of (CXx := L2.CX P w) (Tb := []) (CM := cmK K) (N := ["cls", "rows", "needs", "found"]) (mg := mg) (P := P) (w := w) (K := K) (base := base) (E := E) (cdv := cdv) (H := H) (s := s) (A := A0) (outer := outer) (qual := "Sheet.of") (scope := defScope s_C_Sheet_of) (k := 6) hr T.sysm
  have hC : ∀ x : Str, A.w.CM x = some (He.ga K x) := fun x => by rw [hw]; rfl
  have hK : A.w.K = K := by rw [hw]
  rw [← hw] at c
  rw [← hw] at e_C_Sheet___init__
  rw [← hw] at e_C_Sheet_fill
  have k_C_Sheet___init___1 := mk_ofP (X := (cxOf (L2.CX P w) P w K mg base ["cls", "rows", "needs", "found"] "Sheet.of" (defScope s_C_Sheet_of) (He5.wf K (He.ga K "Sheet") "classmethod" "of") cdv A0 outer s H E)) (wd := A.w) (lvl := 5) (c := "Sheet") (n := 1) (e_C_Sheet___init__ 1) (by decide) (hC "Sheet") T.t_C_Sheet___init__
  have m_C_Sheet_fill := mth_of (X := (cxOf (L2.CX P w) P w K mg base ["cls", "rows", "needs", "found"] "Sheet.of" (defScope s_C_Sheet_of) (He5.wf K (He.ga K "Sheet") "classmethod" "of") cdv A0 outer s H E)) (wd := A.w) (lvl := 4) (c := "Sheet") (n := 3) e_C_Sheet_fill (by decide) (hC "Sheet") T.cl_Sheet T.t_C_Sheet_fill
  have nd : (["cls", "rows", "needs", "found"] : List Str).Nodup := sc_C_Sheet_of.nd
  have nio : ∀ i, i ∉ A.io ∨ i ∈ [0, 1, 2] := fun i => by by_cases h : i ∈ A.io; exact .inr (hio i h); exact .inl h
  exact (pss_cons' (ps_asg' (i := 3) nd rfl (by first | exact .inl rfl | exact .inr rfl) (pe_mkD0 (tb_cons ⟨k_C_Sheet___init___1.ok⟩ tb_nil) (hr.le (by decide)) rfl (by first | exact .inl rfl | exact .inr (.inl rfl) | exact .inr rfl | decide) tk) ((nio 3).resolve_right (by decide)))
    (pss_cons' (ps_drop' (pe_callM (tb_cons ⟨m_C_Sheet_fill.ok⟩ tb_nil) (hr.le (by decide)) tk (po_S (pv 3)) (pa_osCons (po_V (pe_var' (pv 1))) (pa_osCons (po_V (pe_var' (pv 2))) pa_osNil))))
    (pss_one' (ps_ret' (pe_mv (pv 3))))))
theorem ok__law_copy (T : Txt K mg) : DefP P w K mg base ⟨K, cmK K, [], w⟩ 2 "_law_copy" s__law_copy ["_law_pen_here", "_law_ladder"] g__law_copy := by
  obtain ⟨fd, F⟩ := T.d__law_copy
  have e__law_draw := ok__law_draw (P := P) (w := w) (base := base) T
  refine def_mk (N := ["_law_pen_here", "_law_ladder", "_law_number"]) (ios := [0, 1]) (k := 1) T.g__law_copy F sc__law_copy (fun cdv A0 outer s H E hr => ⟨fun A W hw hio tk => ?_⟩) (fun _ _ _ _ _ _ us hl => match us, hl with | [_, _], _ => rfl)
  have c := cal_of (CXx := L2.CX P w) (Tb := []) (CM := cmK K) (N := ["_law_pen_here", "_law_ladder", "_law_number"]) (mg := mg) (P := P) (w := w) (K := K) (base := base) (E := E) (cdv := cdv) (H := H) (s := s) (A := A0) (outer := outer) (qual := "_law_copy") (scope := defScope s__law_copy) (k := 1) hr T.sysm
  have hC : ∀ x : Str, A.w.CM x = some (He.ga K x) := fun x => by rw [hw]; rfl
  have hK : A.w.K = K := by rw [hw]
  rw [← hw] at c
  have d__law_draw := e__law_draw; rw [← hw] at d__law_draw; clear e__law_draw
  have nd : (["_law_pen_here", "_law_ladder", "_law_number"] : List Str).Nodup := sc__law_copy.nd
  have nio : ∀ i, i ∉ A.io ∨ i ∈ [0, 1] := fun i => by by_cases h : i ∈ A.io; exact .inr (hio i h); exact .inl h
  exact (pss_cons' (ps_asg' (i := 2) nd rfl (by first | exact .inl rfl | exact .inr rfl) (pe_idx c (po_V (pe_lst' (pa_asCons pe_ci (pa_asCons pe_ci (pa_asCons (pe_bin (opr_add c) (po_V pe_ci) (po_V (pe_cD d__law_draw (hr.le (by decide)) rfl tk (pa_osCons (po_S (pv 0)) (pa_osCons (po_V pe_ci) pa_osNil))))) (pa_asCons (pe_bin (opr_add c) (po_V pe_ci) (po_V (pe_cD d__law_draw (hr.le (by decide)) rfl tk (pa_osCons (po_S (pv 0)) (pa_osCons (po_V pe_ci) pa_osNil))))) pa_asNil)))))) (po_V (pe_cD d__law_draw (hr.le (by decide)) rfl tk (pa_osCons (po_S (pv 0)) (pa_osCons (po_V pe_ci) pa_osNil))))) ((nio 2).resolve_right (by decide)))
    (pss_one' (ps_ret' (pe_tup' (pa_asCons (pe_idx c (po_S (pv 1)) (po_V (pe_cD d__law_draw (hr.le (by decide)) rfl tk (pa_osCons (po_S (pv 0)) (pa_osCons (po_V (pe_frz (pe_bi (bi_len c) rfl T.b_len bf_len (pa_osCons (po_S (pv 1)) pa_osNil)))) pa_osNil))))) (pa_asCons (pe_var' (pv 2)) pa_asNil))))))
theorem ok_place_in (T : Txt K mg) : DefP P w K mg base ⟨K, cmK K, [], w⟩ 1 "place_in" s_place_in ["order", "copy"] g_place_in := by
  obtain ⟨fd, F⟩ := T.d_place_in
  refine def_mk (N := ["order", "copy", "name", "number"]) (ios := [0, 1]) (k := 0) T.g_place_in F sc_place_in (fun cdv A0 outer s H E hr => ⟨fun A W hw hio tk => ?_⟩) (fun _ _ _ _ _ _ us hl => match us, hl with | [_, _], _ => rfl)
  have c := cal_of (CXx := L2.CX P w) (Tb := []) (CM := cmK K) (N := ["order", "copy", "name", "number"]) (mg := mg) (P := P) (w := w) (K := K) (base := base) (E := E) (cdv := cdv) (H := H) (s := s) (A := A0) (outer := outer) (qual := "place_in") (scope := defScope s_place_in) (k := 0) hr T.sysm
  have hC : ∀ x : Str, A.w.CM x = some (He.ga K x) := fun x => by rw [hw]; rfl
  have hK : A.w.K = K := by rw [hw]
  rw [← hw] at c
  have nd : (["order", "copy", "name", "number"] : List Str).Nodup := sc_place_in.nd
  have nio : ∀ i, i ∉ A.io ∨ i ∈ [0, 1] := fun i => by by_cases h : i ∈ A.io; exact .inr (hio i h); exact .inl h
  exact (pss_cons' (ps_asgT (pe_var' (pv 1)) (pg_T rfl c.K (pgs_Cons (pg_N (i := 2) nd rfl (by first | exact .inl rfl | exact .inr rfl) ((nio 2).resolve_right (by decide))) (pgs_Cons (pg_N (i := 3) nd rfl (by first | exact .inl rfl | exact .inr rfl) ((nio 3).resolve_right (by decide))) pgs_Nil)) (tl_cons (tl_cons tl_nil))))
    (pss_one' (ps_ret' (pe_tup' (pa_asCons (pe_var' (pv 3)) (pa_asCons (pe_idx c (po_S (pv 0)) (po_S (pv 2))) pa_asNil))))))
theorem ok_place_of (T : Txt K mg) : DefP P w K mg base ⟨K, cmK K, [], w⟩ 2 "place_of" s_place_of ["sheet", "copy"] g_place_of := by
  obtain ⟨fd, F⟩ := T.d_place_of
  have e_place_in := ok_place_in (P := P) (w := w) (base := base) T
  refine def_mk (N := ["sheet", "copy"]) (ios := [0, 1]) (k := 1) T.g_place_of F sc_place_of (fun cdv A0 outer s H E hr => ⟨fun A W hw hio tk => ?_⟩) (fun _ _ _ _ _ _ us hl => match us, hl with | [_, _], _ => rfl)
  have c := cal_of (CXx := L2.CX P w) (Tb := []) (CM := cmK K) (N := ["sheet", "copy"]) (mg := mg) (P := P) (w := w) (K := K) (base := base) (E := E) (cdv := cdv) (H := H) (s := s) (A := A0) (outer := outer) (qual := "place_of") (scope := defScope s_place_of) (k := 1) hr T.sysm
  have hC : ∀ x : Str, A.w.CM x = some (He.ga K x) := fun x => by rw [hw]; rfl
  have hK : A.w.K = K := by rw [hw]
  rw [← hw] at c
  have d_place_in := e_place_in; rw [← hw] at d_place_in; clear e_place_in
  have f_Sheet_order : FldOk A.w ["Sheet"] "order" := (fld_cons (hC "Sheet") (by rw [hK]; exact T.cl_Sheet) (by rw [hK]; exact T.na_Sheet_order) fld_nil)
  have nd : (["sheet", "copy"] : List Str).Nodup := sc_place_of.nd
  have nio : ∀ i, i ∉ A.io ∨ i ∈ [0, 1] := fun i => by by_cases h : i ∈ A.io; exact .inr (hio i h); exact .inl h
  exact (pss_one' (ps_ret' (pe_cD d_place_in (hr.le (by decide)) rfl tk (pa_osCons (po_V (pe_fldM c f_Sheet_order (po_S (pv 0)))) (pa_osCons (po_V (pe_var' (pv 1))) pa_osNil)))))
theorem ok_is_bar (T : Txt K mg) : DefP P w K mg base ⟨K, cmK K, [], w⟩ 2 "is_bar" s_is_bar ["order", "below", "one", "other"] g_is_bar := by
  obtain ⟨fd, F⟩ := T.d_is_bar
  have e_place_in := ok_place_in (P := P) (w := w) (base := base) T
  refine def_mk (N := ["order", "below", "one", "other"]) (ios := [0, 1, 2, 3]) (k := 1) T.g_is_bar F sc_is_bar (fun cdv A0 outer s H E hr => ⟨fun A W hw hio tk => ?_⟩) (fun _ _ _ _ _ _ us hl => match us, hl with | [_, _, _, _], _ => rfl)
  have c := cal_of (CXx := L2.CX P w) (Tb := []) (CM := cmK K) (N := ["order", "below", "one", "other"]) (mg := mg) (P := P) (w := w) (K := K) (base := base) (E := E) (cdv := cdv) (H := H) (s := s) (A := A0) (outer := outer) (qual := "is_bar") (scope := defScope s_is_bar) (k := 1) hr T.sysm
  have hC : ∀ x : Str, A.w.CM x = some (He.ga K x) := fun x => by rw [hw]; rfl
  have hK : A.w.K = K := by rw [hw]
  rw [← hw] at c
  have d_place_in := e_place_in; rw [← hw] at d_place_in; clear e_place_in
  have nd : (["order", "below", "one", "other"] : List Str).Nodup := sc_is_bar.nd
  have nio : ∀ i, i ∉ A.io ∨ i ∈ [0, 1, 2, 3] := fun i => by by_cases h : i ∈ A.io; exact .inr (hio i h); exact .inl h
  exact (pss_cons' (ps_if' (PW.pt (pw_and' (pt_cmpV (opr_neX c) (po_V (pe_idx c (po_S (pv 2)) (po_V pe_ci))) (po_V (pe_idx c (po_S (pv 3)) (po_V pe_ci)))) (pw_and1 (pt_cmpV (opr_notInX c) (po_V (pe_idx c (po_S (pv 2)) (po_V pe_ci))) (po_V (pe_idx c (po_S (pv 1)) (po_V (pe_idx c (po_S (pv 3)) (po_V pe_ci))))))))) (pss_one' (ps_ret' (pe_cst pe_bl fun _ => rep_bl.mpr rfl))) pss_nil')
    (pss_one' (ps_ret' (pe_cmpV (opr_gtX c) (po_V (pe_cD d_place_in (hr.le (by decide)) rfl tk (pa_osCons (po_V (pe_var' (pv 0))) (pa_osCons (po_V (pe_var' (pv 2))) pa_osNil)))) (po_V (pe_cD d_place_in (hr.le (by decide)) rfl tk (pa_osCons (po_V (pe_var' (pv 0))) (pa_osCons (po_V (pe_var' (pv 3))) pa_osNil))))))))
theorem ok_closure (T : Txt K mg) : DefP P w K mg base ⟨K, cmK K, [], w⟩ 3 "closure" s_closure ["sheet"] g_closure := by
  obtain ⟨fd, F⟩ := T.d_closure
  have e_C_Sheet_needs := ok_C_Sheet_needs (P := P) (w := w) (base := base) T
  refine def_mk (N := ["sheet", "needs", "found", "name", "others", "other", "row"]) (ios := [0]) (k := 2) T.g_closure F sc_closure (fun cdv A0 outer s H E hr => ⟨fun A W hw hio tk => ?_⟩) (fun _ _ _ _ _ _ us hl => match us, hl with | [_], _ => rfl)
  have c := cal_of (CXx := L2.CX P w) (Tb := []) (CM := cmK K) (N := ["sheet", "needs", "found", "name", "others", "other", "row"]) (mg := mg) (P := P) (w := w) (K := K) (base := base) (E := E) (cdv := cdv) (H := H) (s := s) (A := A0) (outer := outer) (qual := "closure") (scope := defScope s_closure) (k := 2) hr T.sysm
  have hC : ∀ x : Str, A.w.CM x = some (He.ga K x) := fun x => by rw [hw]; rfl
  have hK : A.w.K = K := by rw [hw]
  rw [← hw] at c
  rw [← hw] at e_C_Sheet_needs
  have p_C_Sheet_needs := prp_of (X := (cxOf (L2.CX P w) P w K mg base ["sheet", "needs", "found", "name", "others", "other", "row"] "closure" (defScope s_closure) (He.ga K "closure") cdv A0 outer s H E)) (wd := A.w) (lvl := 1) (c := "Sheet") (n := 1) e_C_Sheet_needs (by decide) (hC "Sheet") T.cl_Sheet T.t_C_Sheet_needs
  have nd : (["sheet", "needs", "found", "name", "others", "other", "row"] : List Str).Nodup := sc_closure.nd
  have nio : ∀ i, i ∉ A.io ∨ i ∈ [0] := fun i => by by_cases h : i ∈ A.io; exact .inr (hio i h); exact .inl h
  exact (pss_cons' (ps_asg' (i := 1) nd rfl (by first | exact .inl rfl | exact .inr rfl) (pe_prp (tb_cons ⟨p_C_Sheet_needs.ok⟩ tb_nil) (hr.le (by decide)) (po_S (pv 0))) ((nio 1).resolve_right (by decide)))
    (pss_cons' (ps_asg' (i := 2) nd rfl (by first | exact .inl rfl | exact .inr rfl) pe_dNewK ((nio 2).resolve_right (by decide)))
    (pss_cons' (ps_whlN (passes_of rfl) (pt_cmpV opr_lt (po_V (pe_bi (bi_lenX c) rfl T.b_len bf_len (pa_osCons (po_S (pv 2)) pa_osNil))) (po_V (pe_bi (bi_lenX c) rfl T.b_len bf_len (pa_osCons (po_S (pv 1)) pa_osNil)))) (pss_one' (ps_for' (passes_of rfl) rfl (pi_I (pe_var' (pv 1))) (pg_T rfl c.K (pgs_Cons (pg_N (i := 3) nd rfl (by first | exact .inl rfl | exact .inr rfl) ((nio 3).resolve_right (by decide))) (pgs_Cons (pg_N (i := 4) nd rfl (by first | exact .inl rfl | exact .inr rfl) ((nio 4).resolve_right (by decide))) pgs_Nil)) (tl_cons (tl_cons tl_nil))) (pss_one' (ps_if' (PW.pt (pw_and' (pt_cmpV (opr_notInX c) (po_S (pv 3)) (po_S (pv 2))) (pw_and1 (pt_tst (pe_bi (bi_all c) rfl T.b_all bf_all (pa_osCons (po_V (pe_lcM rfl nd (pi_V c.K (pe_var' (pv 4))) (blkOk_by (own := [("other", 5)]) (by rfl)) (fun _ _ _ _ _ => (pg_N (i := 5) nd rfl (by first | exact .inl rfl | exact .inr rfl) ((nio 5).resolve_right (by decide)))) (fun _ _ _ _ _ => pts_no) (fun _ _ _ _ _ => (pe_cmpV (opr_inX (Cal.blk c)) (po_S (pv 5)) (po_S (pv 2)))) (tok_N 5) (by decide) (fun i hi => (by decide : ∀ i ∈ ([0] : List Nat), i ∉ _) i (hio i hi)))) pa_osNil)))))) (pss_one' (ps_setIx c (pv 2) (pe_var' (pv 3)) (pe_dc2M rfl nd (pi_V c.K (pe_var' (pv 4))) (blkOk_by (own := [("other", 5), ("row", 6)]) (by rfl)) (fun _ _ _ _ _ => (pg_N (i := 5) nd rfl (by first | exact .inl rfl | exact .inr rfl) ((nio 5).resolve_right (by decide)))) (fun _ _ _ _ _ => pts_no) (fun _ _ _ _ _ => (pi_V (Cal.blk c).K (pe_tup' (pa_asCons (pe_var' (pv 5)) (pa_asStD (Cal.blk c).calm (pe_idx (Cal.blk c) (po_S (pv 2)) (po_S (pv 5))) pa_asNil))))) (fun _ _ _ _ _ => (pg_N (i := 6) nd rfl (by first | exact .inl rfl | exact .inr rfl) ((nio 6).resolve_right (by decide)))) (fun _ _ _ _ _ => pts_no) (fun _ _ _ _ _ => (pe_var' (pv 6))) (fun _ _ _ _ _ => (pe_cst pe_bl fun _ => rep_bl.mpr rfl)) (tok_N 5) (by decide) (tok_N 6) (by decide) (by decide) (fun i hi => (by decide : ∀ i ∈ ([0] : List Nat), i ∉ _) i (hio i hi))))) pss_nil')))))
    (pss_one' (ps_ret' (pe_mv (pv 2)))))))
theorem ok_bars (T : Txt K mg) : DefP P w K mg base ⟨K, cmK K, [], w⟩ 4 "bars" s_bars ["sheet", "one", "other"] g_bars := by
  obtain ⟨fd, F⟩ := T.d_bars
  have e_is_bar := ok_is_bar (P := P) (w := w) (base := base) T
  have e_closure := ok_closure (P := P) (w := w) (base := base) T
  refine def_mk (N := ["sheet", "one", "other"]) (ios := [0, 1, 2]) (k := 3) T.g_bars F sc_bars (fun cdv A0 outer s H E hr => ⟨fun A W hw hio tk => ?_⟩) (fun _ _ _ _ _ _ us hl => match us, hl with | [_, _, _], _ => rfl)
  have c := cal_of (CXx := L2.CX P w) (Tb := []) (CM := cmK K) (N := ["sheet", "one", "other"]) (mg := mg) (P := P) (w := w) (K := K) (base := base) (E := E) (cdv := cdv) (H := H) (s := s) (A := A0) (outer := outer) (qual := "bars") (scope := defScope s_bars) (k := 3) hr T.sysm
  have hC : ∀ x : Str, A.w.CM x = some (He.ga K x) := fun x => by rw [hw]; rfl
  have hK : A.w.K = K := by rw [hw]
  rw [← hw] at c
  have d_is_bar := e_is_bar; rw [← hw] at d_is_bar; clear e_is_bar
  have d_closure := e_closure; rw [← hw] at d_closure; clear e_closure
  have f_Sheet_order : FldOk A.w ["Sheet"] "order" := (fld_cons (hC "Sheet") (by rw [hK]; exact T.cl_Sheet) (by rw [hK]; exact T.na_Sheet_order) fld_nil)
  have nd : (["sheet", "one", "other"] : List Str).Nodup := sc_bars.nd
  have nio : ∀ i, i ∉ A.io ∨ i ∈ [0, 1, 2] := fun i => by by_cases h : i ∈ A.io; exact .inr (hio i h); exact .inl h
  exact (pss_one' (ps_ret' (pe_cD d_is_bar (hr.le (by decide)) rfl tk (pa_osCons (po_V (pe_fldM c f_Sheet_order (po_S (pv 0)))) (pa_osCons (po_V (pe_frz (pe_cD d_closure (hr.le (by decide)) rfl tk (pa_osCons (po_V (pe_var' (pv 0))) pa_osNil)))) (pa_osCons (po_V (pe_var' (pv 1))) (pa_osCons (po_V (pe_var' (pv 2))) pa_osNil)))))))
theorem ok__law_bars (T : Txt K mg) : DefP P w K mg base ⟨K, cmK K, [], w⟩ 1 "_law_bars" s__law_bars ["_law_ladder", "_law_below_here", "_law_lead", "_law_mate"] g__law_bars := by
  obtain ⟨fd, F⟩ := T.d__law_bars
  refine def_mk (N := ["_law_ladder", "_law_below_here", "_law_lead", "_law_mate"]) (ios := [0, 1, 2, 3]) (k := 0) T.g__law_bars F sc__law_bars (fun cdv A0 outer s H E hr => ⟨fun A W hw hio tk => ?_⟩) (fun _ _ _ _ _ _ us hl => match us, hl with | [_, _, _, _], _ => rfl)
  have c := cal_of (CXx := L2.CX P w) (Tb := []) (CM := cmK K) (N := ["_law_ladder", "_law_below_here", "_law_lead", "_law_mate"]) (mg := mg) (P := P) (w := w) (K := K) (base := base) (E := E) (cdv := cdv) (H := H) (s := s) (A := A0) (outer := outer) (qual := "_law_bars") (scope := defScope s__law_bars) (k := 0) hr T.sysm
  have hC : ∀ x : Str, A.w.CM x = some (He.ga K x) := fun x => by rw [hw]; rfl
  have hK : A.w.K = K := by rw [hw]
  rw [← hw] at c
  have nd : (["_law_ladder", "_law_below_here", "_law_lead", "_law_mate"] : List Str).Nodup := sc__law_bars.nd
  have nio : ∀ i, i ∉ A.io ∨ i ∈ [0, 1, 2, 3] := fun i => by by_cases h : i ∈ A.io; exact .inr (hio i h); exact .inl h
  exact (pss_cons' (ps_if' (PW.pt (pw_and' (pt_cmpV (opr_neX c) (po_V (pe_idx c (po_S (pv 2)) (po_V pe_ci))) (po_V (pe_idx c (po_S (pv 3)) (po_V pe_ci)))) (pw_and1 (pt_cmpV (opr_notInX c) (po_V (pe_idx c (po_S (pv 2)) (po_V pe_ci))) (po_V (pe_idx c (po_S (pv 1)) (po_V (pe_idx c (po_S (pv 3)) (po_V pe_ci))))))))) (pss_one' (ps_ret' (pe_cst pe_bl fun _ => rep_bl.mpr rfl))) pss_nil')
    (pss_cons' (ps_if' (pt_cmpV (opr_neX c) (po_V (pe_idx c (po_S (pv 2)) (po_V pe_ci))) (po_V (pe_idx c (po_S (pv 3)) (po_V pe_ci)))) (pss_one' (ps_ret' (pe_cmpV opr_gt (po_V (pe_idx c (po_S (pv 2)) (po_V pe_ci))) (po_V (pe_idx c (po_S (pv 3)) (po_V pe_ci)))))) pss_nil')
    (pss_one' (ps_ret' (pe_cmpV opr_gt (po_V (pe_mt c (by decide) PySem.F.plainAttrs_list PySem.F.slot_list_index PySem.F.type_list_index (mtp_index c) (po_S (pv 0)) (pa_osCons (po_V (pe_idx c (po_S (pv 2)) (po_V pe_ci))) pa_osNil))) (po_V (pe_mt c (by decide) PySem.F.plainAttrs_list PySem.F.slot_list_index PySem.F.type_list_index (mtp_index c) (po_S (pv 0)) (pa_osCons (po_V (pe_idx c (po_S (pv 3)) (po_V pe_ci))) pa_osNil))))))))
theorem ok__law_order_right (T : Txt K mg) : DefP P w K mg base ⟨K, cmK K, [], w⟩ 5 "_law_order_right" s__law_order_right ["_law_made", "_law_some", "_law_told"] g__law_order_right := by
  obtain ⟨fd, F⟩ := T.d__law_order_right
  have e_bars := ok_bars (P := P) (w := w) (base := base) T
  refine def_mk (N := ["_law_made", "_law_some", "_law_told", "_law_lead", "_law_after", "_law_mate", "_law_third"]) (ios := [0, 1, 2]) (k := 4) T.g__law_order_right F sc__law_order_right (fun cdv A0 outer s H E hr => ⟨fun A W hw hio tk => ?_⟩) (fun _ _ _ _ _ _ us hl => match us, hl with | [_, _, _], _ => rfl)
  have c := cal_of (CXx := L2.CX P w) (Tb := []) (CM := cmK K) (N := ["_law_made", "_law_some", "_law_told", "_law_lead", "_law_after", "_law_mate", "_law_third"]) (mg := mg) (P := P) (w := w) (K := K) (base := base) (E := E) (cdv := cdv) (H := H) (s := s) (A := A0) (outer := outer) (qual := "_law_order_right") (scope := defScope s__law_order_right) (k := 4) hr T.sysm
  have hC : ∀ x : Str, A.w.CM x = some (He.ga K x) := fun x => by rw [hw]; rfl
  have hK : A.w.K = K := by rw [hw]
  rw [← hw] at c
  have d_bars := e_bars; rw [← hw] at d_bars; clear e_bars
  have nd : (["_law_made", "_law_some", "_law_told", "_law_lead", "_law_after", "_law_mate", "_law_third"] : List Str).Nodup := sc__law_order_right.nd
  have nio : ∀ i, i ∉ A.io ∨ i ∈ [0, 1, 2] := fun i => by by_cases h : i ∈ A.io; exact .inr (hio i h); exact .inl h
  exact (pss_cons' (ps_for' (passes_of rfl) rfl (pi_V c.K (pe_var' (pv 1))) (pg_N (i := 3) nd rfl (by first | exact .inl rfl | exact .inr rfl) ((nio 3).resolve_right (by decide))) (pss_cons' (ps_asgLc rfl nd (i := 4) rfl rfl ((nio 4).resolve_right (by decide)) (sw_true rfl rfl rfl (by decide +kernel)) (pi_V c.K (pe_var' (pv 1))) (blkOk_by (own := [("_law_mate", 5)]) (by rfl)) (fun _ _ _ _ _ => (pg_N (i := 5) nd rfl (by first | exact .inl rfl | exact .inr rfl) ((nio 5).resolve_right (by decide)))) (fun _ _ _ _ _ => (pts_1 (pt_tst (pe_idxZ (Cal.blk c) (po_S (pv 2)) (po_V (pe_tup' (pa_asCons (pe_var' (pv 3)) (pa_asCons (pe_var' (pv 5)) pa_asNil)))))))) (fun _ _ _ _ _ => (pe_var' (pv 5))) (tok_N 5) (by decide) (fun i hi => (by decide : ∀ i ∈ ([0, 1, 2] : List Nat), i ∉ _) i (hio i hi)))
    (pss_cons' (ps_if' (PW.pt (pw_or' (pt_cmpV (opr_inX c) (po_S (pv 3)) (po_S (pv 4))) (pw_or1 (pt_cmpV (opr_neX c) (po_V (pe_lcM rfl nd (pi_V c.K (pe_var' (pv 4))) (blkOk_by (own := [("_law_mate", 5)]) (by rfl)) (fun _ _ _ _ _ => (pg_N (i := 5) nd rfl (by first | exact .inl rfl | exact .inr rfl) ((nio 5).resolve_right (by decide)))) (fun _ _ _ _ _ => (pts_1 (pt_tst (pe_idxZ (Cal.blk c) (po_S (pv 2)) (po_V (pe_tup' (pa_asCons (pe_var' (pv 5)) (pa_asCons (pe_var' (pv 3)) pa_asNil)))))))) (fun _ _ _ _ _ => (pe_var' (pv 5))) (tok_N 5) (by decide) (fun i hi => (by decide : ∀ i ∈ ([0, 1, 2] : List Nat), i ∉ _) i (hio i hi)))) (po_V (pe_lst' pa_asNil)))))) (pss_one' (ps_ret' (pe_cst pe_bl fun _ => rep_bl.mpr rfl))) pss_nil')
    (pss_one' (ps_for' (passes_of rfl) rfl (pi_V c.K (pe_var' (pv 4))) (pg_N (i := 5) nd rfl (by first | exact .inl rfl | exact .inr rfl) ((nio 5).resolve_right (by decide))) (pss_one' (ps_if' (pt_cmpV (opr_neX c) (po_V (pe_lcM rfl nd (pi_V c.K (pe_var' (pv 1))) (blkOk_by (own := [("_law_third", 6)]) (by rfl)) (fun _ _ _ _ _ => (pg_N (i := 6) nd rfl (by first | exact .inl rfl | exact .inr rfl) ((nio 6).resolve_right (by decide)))) (fun _ _ _ _ _ => (pts_1 (PW.pt (pw_and' (pt_tst (pe_idxZ (Cal.blk c) (po_S (pv 2)) (po_V (pe_tup' (pa_asCons (pe_var' (pv 5)) (pa_asCons (pe_var' (pv 6)) pa_asNil)))))) (pw_and1 (pt_not' (pt_tst (pe_idxZ (Cal.blk c) (po_S (pv 2)) (po_V (pe_tup' (pa_asCons (pe_var' (pv 3)) (pa_asCons (pe_var' (pv 6)) pa_asNil)))))))))))) (fun _ _ _ _ _ => (pe_var' (pv 6))) (tok_N 6) (by decide) (fun i hi => (by decide : ∀ i ∈ ([0, 1, 2] : List Nat), i ∉ _) i (hio i hi)))) (po_V (pe_lst' pa_asNil))) (pss_one' (ps_ret' (pe_cst pe_bl fun _ => rep_bl.mpr rfl))) pss_nil')))))))
    (pss_one' (ps_ret' (pe_cmpV (opr_eqX c) (po_V (pe_bi (bi_reprX c) rfl T.b_repr bf_repr (pa_osCons (po_V (pe_cDK0 d_bars (hr.le (by decide)) rfl tk kw_0 (pk_osCons (po_V (pe_idx c (po_S (pv 1)) (po_V pe_ci))) (pk_osCons (po_V (pe_idx c (po_S (pv 1)) (po_V pe_ci))) (pk_osCons (po_V (pe_var' (pv 0))) pk_osNil))))) pa_osNil))) (po_V (pe_bi (bi_reprX c) rfl T.b_repr bf_repr (pa_osCons (po_V (pe_idxZ c (po_S (pv 2)) (po_V (pe_tup' (pa_asCons (pe_idx c (po_S (pv 1)) (po_V pe_ci)) (pa_asCons (pe_idx c (po_S (pv 1)) (po_V pe_ci)) pa_asNil)))))) pa_osNil)))))))
theorem ok_law (T : Txt K mg) : DefP P w K mg base ⟨K, cmK K, [], w⟩ 8 "law" s_law ["_law_script"] g_law := by
  obtain ⟨fd, F⟩ := T.d_law
  have e__law_pen := ok__law_pen (P := P) (w := w) (base := base) T
  have e__law_names := ok__law_names (P := P) (w := w) (base := base) T
  have e__law_draw := ok__law_draw (P := P) (w := w) (base := base) T
  have e__law_needs := ok__law_needs (P := P) (w := w) (base := base) T
  have e__law_below := ok__law_below (P := P) (w := w) (base := base) T
  have e_C_Sheet_of := ok_C_Sheet_of (P := P) (w := w) (base := base) T
  have e__law_copy := ok__law_copy (P := P) (w := w) (base := base) T
  have e_place_of := ok_place_of (P := P) (w := w) (base := base) T
  have e_bars := ok_bars (P := P) (w := w) (base := base) T
  have e__law_bars := ok__law_bars (P := P) (w := w) (base := base) T
  have e__law_order_right := ok__law_order_right (P := P) (w := w) (base := base) T
  refine def_mk (N := ["_law_script", "_law_pen_here", "_law_turn", "_law_ladder", "_law_wants", "_law_below_here", "_law_made", "_law_some", "_law_told", "_law_lead", "_law_title", "_law_number", "_law_due", "_law_mate", "_law_k"]) (ios := [0]) (k := 7) T.g_law F sc_law (fun cdv A0 outer s H E hr => ⟨fun A W hw hio tk => ?_⟩) (fun _ _ _ _ _ _ us hl => match us, hl with | [_], _ => rfl)
  have c := cal_of (CXx := L2.CX P w) (Tb := []) (CM := cmK K) (N := ["_law_script", "_law_pen_here", "_law_turn", "_law_ladder", "_law_wants", "_law_below_here", "_law_made", "_law_some", "_law_told", "_law_lead", "_law_title", "_law_number", "_law_due", "_law_mate", "_law_k"]) (mg := mg) (P := P) (w := w) (K := K) (base := base) (E := E) (cdv := cdv) (H := H) (s := s) (A := A0) (outer := outer) (qual := "law") (scope := defScope s_law) (k := 7) hr T.sysm
  have hC : ∀ x : Str, A.w.CM x = some (He.ga K x) := fun x => by rw [hw]; rfl
  have hK : A.w.K = K := by rw [hw]
  rw [← hw] at c
  have d__law_pen := e__law_pen; rw [← hw] at d__law_pen; clear e__law_pen
  have d__law_names := e__law_names; rw [← hw] at d__law_names; clear e__law_names
  have d__law_draw := e__law_draw; rw [← hw] at d__law_draw; clear e__law_draw
  have d__law_needs := e__law_needs; rw [← hw] at d__law_needs; clear e__law_needs
  have d__law_below := e__law_below; rw [← hw] at d__law_below; clear e__law_below
  rw [← hw] at e_C_Sheet_of
  have d__law_copy := e__law_copy; rw [← hw] at d__law_copy; clear e__law_copy
  have d_place_of := e_place_of; rw [← hw] at d_place_of; clear e_place_of
  have d_bars := e_bars; rw [← hw] at d_bars; clear e_bars
  have d__law_bars := e__law_bars; rw [← hw] at d__law_bars; clear e__law_bars
  have d__law_order_right := e__law_order_right; rw [← hw] at d__law_order_right; clear e__law_order_right
  have c_C_Sheet_of := cmt_of (X := (cxOf (L2.CX P w) P w K mg base ["_law_script", "_law_pen_here", "_law_turn", "_law_ladder", "_law_wants", "_law_below_here", "_law_made", "_law_some", "_law_told", "_law_lead", "_law_title", "_law_number", "_law_due", "_law_mate", "_law_k"] "law" (defScope s_law) (He.ga K "law") cdv A0 outer s H E)) (wd := A.w) (lvl := 7) (c := "Sheet") (n := 3) e_C_Sheet_of (by decide) (hC "Sheet") T.cr_Sheet T.t_C_Sheet_of
  have n_Sheet : ∃ C, mg "Sheet" = some (.ref C) ∧ A.w.CM "Sheet" = some C := ⟨_, T.gc_Sheet, hC "Sheet"⟩
  have nd : (["_law_script", "_law_pen_here", "_law_turn", "_law_ladder", "_law_wants", "_law_below_here", "_law_made", "_law_some", "_law_told", "_law_lead", "_law_title", "_law_number", "_law_due", "_law_mate", "_law_k"] : List Str).Nodup := sc_law.nd
  have nio : ∀ i, i ∉ A.io ∨ i ∈ [0] := fun i => by by_cases h : i ∈ A.io; exact .inr (hio i h); exact .inl h
  exact (pss_cons' (ps_asg' (i := 1) nd rfl (by first | exact .inl rfl | exact .inr rfl) (pe_cD d__law_pen (hr.le (by decide)) rfl tk (pa_osCons (po_V (pe_var' (pv 0))) pa_osNil)) ((nio 1).resolve_right (by decide)))
    (pss_cons' (ps_for' (passes_of rfl) rfl (pi_rng1 rfl T.b_range (pa_asCons pe_ci pa_asNil)) (pg_N (i := 2) nd rfl (by first | exact .inl rfl | exact .inr rfl) ((nio 2).resolve_right (by decide))) (pss_cons' (ps_asg' (i := 3) nd rfl (by first | exact .inl rfl | exact .inr rfl) (pe_frz (pe_cD d__law_names (hr.le (by decide)) rfl tk (pa_osCons (po_S (pv 1)) (pa_osCons (po_V (pe_frz (pe_bin (opr_add c) (po_V pe_ci) (po_V (pe_idx c (po_V (pe_lst' (pa_asCons (pe_cD d__law_draw (hr.le (by decide)) rfl tk (pa_osCons (po_S (pv 1)) (pa_osCons (po_V pe_ci) pa_osNil))) (pa_asCons (pe_cD d__law_draw (hr.le (by decide)) rfl tk (pa_osCons (po_S (pv 1)) (pa_osCons (po_V pe_ci) pa_osNil))) pa_asNil)))) (po_V (pe_cD d__law_draw (hr.le (by decide)) rfl tk (pa_osCons (po_S (pv 1)) (pa_osCons (po_V pe_ci) pa_osNil))))))))) pa_osNil)))) ((nio 3).resolve_right (by decide)))
    (pss_cons' (ps_asg' (i := 4) nd rfl (by first | exact .inl rfl | exact .inr rfl) (pe_frz (pe_cD d__law_needs (hr.le (by decide)) rfl tk (pa_osCons (po_S (pv 1)) (pa_osCons (po_V (pe_var' (pv 3))) pa_osNil)))) ((nio 4).resolve_right (by decide)))
    (pss_cons' (ps_asg' (i := 5) nd rfl (by first | exact .inl rfl | exact .inr rfl) (pe_frz (pe_cD d__law_below (hr.le (by decide)) rfl tk (pa_osCons (po_V (pe_var' (pv 4))) pa_osNil))) ((nio 5).resolve_right (by decide)))
    (pss_cons' (ps_asg' (i := 6) nd rfl (by first | exact .inl rfl | exact .inr rfl) (pe_frz (pe_cmt ⟨c_C_Sheet_of.ok⟩ (hr.le (by decide)) rfl n_Sheet tk (pa_osCons (po_V (pe_frz (pe_bt (bi_tuple c) rfl T.b_tuple bt_tuple (pa_osCons (po_S (pv 3)) pa_osNil)))) (pa_osCons (po_V (pe_var' (pv 4))) pa_osNil)))) ((nio 6).resolve_right (by decide)))
    (pss_cons' (ps_asgLc rfl nd (i := 7) rfl rfl ((nio 7).resolve_right (by decide)) (sw_true rfl rfl rfl (by decide +kernel)) (pi_rng1 rfl T.b_range (pa_asCons pe_ci pa_asNil)) (blkOk_by (own := [("_law_k", 14)]) (by rfl)) (fun _ _ _ _ _ => (pg_N (i := 14) nd rfl (by first | exact .inl rfl | exact .inr rfl) ((nio 14).resolve_right (by decide)))) (fun _ _ _ _ _ => pts_no) (fun _ _ _ _ _ => (pe_cD d__law_copy (hr.le (by decide)) rfl takes0 (pa_osCons (po_S (pv 1)) (pa_osCons (po_V (pe_var' (pv 3))) pa_osNil)))) (tok_N 14) (by decide) (fun i hi => (by decide : ∀ i ∈ ([0] : List Nat), i ∉ _) i (hio i hi)))
    (pss_cons' (ps_for' (passes_of rfl) rfl (pi_V c.K (pe_var' (pv 7))) (pg_T rfl c.K (pgs_Cons (pg_N (i := 10) nd rfl (by first | exact .inl rfl | exact .inr rfl) ((nio 10).resolve_right (by decide))) (pgs_Cons (pg_N (i := 11) nd rfl (by first | exact .inl rfl | exact .inr rfl) ((nio 11).resolve_right (by decide))) pgs_Nil)) (tl_cons (tl_cons tl_nil))) (pss_cons' (ps_asg' (i := 12) nd rfl (by first | exact .inl rfl | exact .inr rfl) (pe_frz (pe_bi (bi_reprX c) rfl T.b_repr bf_repr (pa_osCons (po_V (pe_tup' (pa_asCons (pe_var' (pv 11)) (pa_asCons (pe_mt c (by decide) PySem.F.plainAttrs_list PySem.F.slot_list_index PySem.F.type_list_index (mtp_index c) (po_S (pv 3)) (pa_osCons (po_S (pv 10)) pa_osNil)) pa_asNil)))) pa_osNil))) ((nio 12).resolve_right (by decide)))
    (pss_one' (ps_if' (PW.pt (pw_or' (pt_cmpV (opr_neX c) (po_V (pe_bi (bi_reprX c) rfl T.b_repr bf_repr (pa_osCons (po_V (pe_cD d_place_of (hr.le (by decide)) rfl tk (pa_osCons (po_V (pe_var' (pv 6))) (pa_osCons (po_V (pe_tup' (pa_asCons (pe_var' (pv 10)) (pa_asCons (pe_var' (pv 11)) pa_asNil)))) pa_osNil)))) pa_osNil))) (po_S (pv 12))) (pw_or1 (pt_cmpV (opr_neX c) (po_V (pe_bi (bi_reprX c) rfl T.b_repr bf_repr (pa_osCons (po_V (pe_cDK0 d_place_of (hr.le (by decide)) rfl tk kw_1 (pk_osCons (po_V (pe_tup' (pa_asCons (pe_var' (pv 10)) (pa_asCons (pe_var' (pv 11)) pa_asNil)))) (pk_osCons (po_V (pe_var' (pv 6))) pk_osNil)))) pa_osNil))) (po_S (pv 12)))))) (pss_one' (ps_ret' (pe_cst pe_bl fun _ => rep_bl.mpr rfl))) pss_nil'))))
    (pss_cons' (ps_asg' (i := 8) nd rfl (by first | exact .inl rfl | exact .inr rfl) (pe_dNewX c) ((nio 8).resolve_right (by decide)))
    (pss_cons' (ps_for' (passes_of rfl) rfl (pi_V c.K (pe_var' (pv 7))) (pg_N (i := 9) nd rfl (by first | exact .inl rfl | exact .inr rfl) ((nio 9).resolve_right (by decide))) (pss_one' (ps_for' (passes_of rfl) rfl (pi_V c.K (pe_var' (pv 7))) (pg_N (i := 13) nd rfl (by first | exact .inl rfl | exact .inr rfl) ((nio 13).resolve_right (by decide))) (pss_cons' (ps_setIxT c (pv 8) (pe_tup' (pa_asCons (pe_var' (pv 9)) (pa_asCons (pe_var' (pv 13)) pa_asNil))) (pe_cD d_bars (hr.le (by decide)) rfl tk (pa_osCons (po_V (pe_var' (pv 6))) (pa_osCons (po_V (pe_var' (pv 9))) (pa_osCons (po_V (pe_var' (pv 13))) pa_osNil)))))
    (pss_one' (ps_if' (pt_cmpV (opr_neX c) (po_V (pe_bi (bi_reprX c) rfl T.b_repr bf_repr (pa_osCons (po_V (pe_idxZ c (po_S (pv 8)) (po_V (pe_tup' (pa_asCons (pe_var' (pv 9)) (pa_asCons (pe_var' (pv 13)) pa_asNil)))))) pa_osNil))) (po_V (pe_bi (bi_reprX c) rfl T.b_repr bf_repr (pa_osCons (po_V (pe_cD d__law_bars (hr.le (by decide)) rfl tk (pa_osCons (po_V (pe_var' (pv 3))) (pa_osCons (po_V (pe_var' (pv 5))) (pa_osCons (po_V (pe_var' (pv 9))) (pa_osCons (po_V (pe_var' (pv 13))) pa_osNil)))))) pa_osNil)))) (pss_one' (ps_ret' (pe_cst pe_bl fun _ => rep_bl.mpr rfl))) pss_nil'))))))
    (pss_one' (ps_if' (pt_not' (pt_tst (pe_cD d__law_order_right (hr.le (by decide)) rfl tk (pa_osCons (po_V (pe_var' (pv 6))) (pa_osCons (po_V (pe_var' (pv 7))) (pa_osCons (po_S (pv 8)) pa_osNil)))))) (pss_one' (ps_ret' (pe_cst pe_bl fun _ => rep_bl.mpr rfl))) pss_nil')))))))))))
    (pss_one' (ps_ret' (pe_cst pe_bl fun _ => rep_bl.mpr rfl)))))
end
theorem law_fn {K : PySem.W.Frag} {mg : Str → Option Value} (T : Txt K mg) {P : Program} {w : World} {base : Heap} {f : Addr} {fd : FuncData} (hm : mg "law" = some (.ref f)) (F : FunP K "law" s_law f fd) : FnG P w K mg base (L2.CX P w) 12 f fd ["_law_script"] (spF ⟨K, cmK K, [], w⟩ 1 g_law) := (ok_law T).at hm F (by decide)
theorem txt {K : PySem.W.Frag} {h : Heap} {mg : Str → Option Value} (X : K.In h) (G : h.Ns mainGlobals mg) (c : SaysM fa fn K) : Txt K mg where
  d__law_pen := c.def_ 0 (d := d__law_pen) rfl
  d__law_draw := c.def_ 1 (d := d__law_draw) rfl
  d__law_names := c.def_ 2 (d := d__law_names) rfl
  d__law_needs := c.def_ 3 (d := d__law_needs) rfl
  d__law_below := c.def_ 4 (d := d__law_below) rfl
  d_is_name := c.def_ 5 (d := d_is_name) rfl
  d_first_wrong := c.def_ 6 (d := d_first_wrong) rfl
  d_need_rows := c.def_ 7 (d := d_need_rows) rfl
  d_are_needs := c.def_ 8 (d := d_are_needs) rfl
  d_need_needs := c.def_ 9 (d := d_need_needs) rfl
  d_unfinished := c.def_ 10 (d := d_unfinished) rfl
  d_ring_in := c.def_ 11 (d := d_ring_in) rfl
  d_C_Sheet_needs := c.def_ 12 (d := d_C_Sheet_needs) rfl
  d_row_text := c.def_ 13 (d := d_row_text) rfl
  d_C_Sheet_rows := c.def_ 14 (d := d_C_Sheet_rows) rfl
  d_sheet_text := c.def_ 15 (d := d_sheet_text) rfl
  d_C_Sheet_fill := c.def_ 16 (d := d_C_Sheet_fill) rfl
  d_C_Sheet___init__ := c.def_ 17 (d := d_C_Sheet___init__) rfl
  d_C_Sheet_of := c.def_ 18 (d := d_C_Sheet_of) rfl
  d__law_copy := c.def_ 19 (d := d__law_copy) rfl
  d_place_in := c.def_ 20 (d := d_place_in) rfl
  d_place_of := c.def_ 21 (d := d_place_of) rfl
  d_is_bar := c.def_ 22 (d := d_is_bar) rfl
  d_closure := c.def_ 23 (d := d_closure) rfl
  d_bars := c.def_ 24 (d := d_bars) rfl
  d__law_bars := c.def_ 25 (d := d__law_bars) rfl
  d__law_order_right := c.def_ 26 (d := d__law_order_right) rfl
  d_law := c.def_ 27 (d := d_law) rfl
  d_C_InvalidRow___init__ := c.def_ 28 (d := d_C_InvalidRow___init__) rfl
  d_C_InvalidNeeds___init__ := c.def_ 29 (d := d_C_InvalidNeeds___init__) rfl
  d_C_HasRing___init__ := c.def_ 30 (d := d_C_HasRing___init__) rfl
  g__law_pen := He.glo_ok X G (c.fact 0 (f := .fa (.glo "_law_pen")) rfl)
  g__law_draw := He.glo_ok X G (c.fact 1 (f := .fa (.glo "_law_draw")) rfl)
  g__law_names := He.glo_ok X G (c.fact 2 (f := .fa (.glo "_law_names")) rfl)
  g__law_needs := He.glo_ok X G (c.fact 3 (f := .fa (.glo "_law_needs")) rfl)
  g__law_below := He.glo_ok X G (c.fact 4 (f := .fa (.glo "_law_below")) rfl)
  g_is_name := He.glo_ok X G (c.fact 5 (f := .fa (.glo "is_name")) rfl)
  g_first_wrong := He.glo_ok X G (c.fact 6 (f := .fa (.glo "first_wrong")) rfl)
  g_need_rows := He.glo_ok X G (c.fact 7 (f := .fa (.glo "need_rows")) rfl)
  g_are_needs := He.glo_ok X G (c.fact 8 (f := .fa (.glo "are_needs")) rfl)
  g_need_needs := He.glo_ok X G (c.fact 9 (f := .fa (.glo "need_needs")) rfl)
  g_unfinished := He.glo_ok X G (c.fact 10 (f := .fa (.glo "unfinished")) rfl)
  g_ring_in := He.glo_ok X G (c.fact 11 (f := .fa (.glo "ring_in")) rfl)
  t_C_Sheet_needs := M.propB_ok (c.fact 12 (f := .prop "Sheet" "needs") rfl)
  g_row_text := He.glo_ok X G (c.fact 13 (f := .fa (.glo "row_text")) rfl)
  t_C_Sheet_rows := M.propB_ok (c.fact 14 (f := .prop "Sheet" "rows") rfl)
  g_sheet_text := He.glo_ok X G (c.fact 15 (f := .fa (.glo "sheet_text")) rfl)
  t_C_Sheet_fill := He.meth_ok (c.fact 16 (f := .fa (.meth "Sheet" "fill")) rfl)
  t_C_Sheet___init__ := He.mkr_ok (c.fact 17 (f := .fa (.mkr "Sheet")) rfl)
  t_C_Sheet_of := M.cmetB_ok (c.fact 18 (f := .cmet "Sheet" "of") rfl)
  g__law_copy := He.glo_ok X G (c.fact 19 (f := .fa (.glo "_law_copy")) rfl)
  g_place_in := He.glo_ok X G (c.fact 20 (f := .fa (.glo "place_in")) rfl)
  g_place_of := He.glo_ok X G (c.fact 21 (f := .fa (.glo "place_of")) rfl)
  g_is_bar := He.glo_ok X G (c.fact 22 (f := .fa (.glo "is_bar")) rfl)
  g_closure := He.glo_ok X G (c.fact 23 (f := .fa (.glo "closure")) rfl)
  g_bars := He.glo_ok X G (c.fact 24 (f := .fa (.glo "bars")) rfl)
  g__law_bars := He.glo_ok X G (c.fact 25 (f := .fa (.glo "_law_bars")) rfl)
  g__law_order_right := He.glo_ok X G (c.fact 26 (f := .fa (.glo "_law_order_right")) rfl)
  g_law := He.glo_ok X G (c.fact 27 (f := .fa (.glo "law")) rfl)
  gc_Sheet := He.glo_ok X G (c.fact 28 (f := .fa (.glo "Sheet")) rfl)
  cl_Sheet := He.cls_ok (c.fact 29 (f := .fa (.cls "Sheet")) rfl)
  cr_Sheet := M.creadB_ok (c.fact 30 (f := .cread "Sheet") rfl)
  na_Sheet_direct := He.noat_ok (c.fact 31 (f := .fa (.noat "Sheet" "direct")) rfl)
  na_Sheet_names := He.noat_ok (c.fact 32 (f := .fa (.noat "Sheet" "names")) rfl)
  na_Sheet_order := He.noat_ok (c.fact 33 (f := .fa (.noat "Sheet" "order")) rfl)
  na_Sheet_shown := He.noat_ok (c.fact 34 (f := .fa (.noat "Sheet" "shown")) rfl)
  gc_InvalidRow := He.glo_ok X G (c.fact 35 (f := .fa (.glo "InvalidRow")) rfl)
  gc_InvalidNeeds := He.glo_ok X G (c.fact 36 (f := .fa (.glo "InvalidNeeds")) rfl)
  gc_HasRing := He.glo_ok X G (c.fact 37 (f := .fa (.glo "HasRing")) rfl)
  ex_InvalidRow := M.exkB_ok (c.fact 38 (f := .exk "InvalidRow") rfl)
  xi_InvalidRow := M.iniB_ok (c.fact 39 (f := .ini "InvalidRow") rfl)
  ex_InvalidNeeds := M.exkB_ok (c.fact 40 (f := .exk "InvalidNeeds") rfl)
  xi_InvalidNeeds := M.iniB_ok (c.fact 41 (f := .ini "InvalidNeeds") rfl)
  ex_HasRing := M.exkB_ok (c.fact 42 (f := .exk "HasRing") rfl)
  xi_HasRing := M.iniB_ok (c.fact 43 (f := .ini "HasRing") rfl)
  xn_InvalidRow_index := He.eqO_ok (c.fact 44 (f := .xno "InvalidRow" "index") rfl)
  xn_InvalidNeeds_name := He.eqO_ok (c.fact 45 (f := .xno "InvalidNeeds" "name") rfl)
  xn_HasRing_ring := He.eqO_ok (c.fact 46 (f := .xno "HasRing" "ring") rfl)
  sysm := (c.fact 47 (f := .sys) rfl)
  b_abs := He.free_ok X G (c.fact 48 (f := .fa (.free "abs")) rfl)
  b_all := He.free_ok X G (c.fact 49 (f := .fa (.free "all")) rfl)
  b_any := He.free_ok X G (c.fact 50 (f := .fa (.free "any")) rfl)
  b_dict := He.free_ok X G (c.fact 51 (f := .fa (.free "dict")) rfl)
  b_enumerate := He.free_ok X G (c.fact 52 (f := .fa (.free "enumerate")) rfl)
  b_int := He.free_ok X G (c.fact 53 (f := .fa (.free "int")) rfl)
  b_isinstance := He.free_ok X G (c.fact 54 (f := .fa (.free "isinstance")) rfl)
  b_len := He.free_ok X G (c.fact 55 (f := .fa (.free "len")) rfl)
  b_list := He.free_ok X G (c.fact 56 (f := .fa (.free "list")) rfl)
  b_range := He.free_ok X G (c.fact 57 (f := .fa (.free "range")) rfl)
  b_repr := He.free_ok X G (c.fact 58 (f := .fa (.free "repr")) rfl)
  b_set := He.free_ok X G (c.fact 59 (f := .fa (.free "set")) rfl)
  b_sorted := He.free_ok X G (c.fact 60 (f := .fa (.free "sorted")) rfl)
  b_str := He.free_ok X G (c.fact 61 (f := .fa (.free "str")) rfl)
  b_tuple := He.free_ok X G (c.fact 62 (f := .fa (.free "tuple")) rfl)
  c_LETTERS := He.str_ok X G (c.fact 63 (f := .fa (.str "LETTERS" "abcdefghijklmnopqrstuvwxyz")) rfl)
  c_LIMIT := He.int_ok X G (c.fact 64 (f := .fa (.int "LIMIT" 60)) rfl)
  c_LONGEST_NAME := He.int_ok X G (c.fact 65 (f := .fa (.int "LONGEST_NAME" 8)) rfl)
end K21
open PySem PySem.W PySem.Calls PyProof.Rows
theorem PySem.Challenge.cw_passwidth_k21_places_and_bars_holds : PySem.Challenge.rw_passwidth_k21_places_and_bars.Holds := by
  w_on; o_law
  refine HandSHeadRun.head_any (r := OpenLaw.row PySem.Challenge.rw_passwidth_k21_places_and_bars) (q := view (OpenLaw.row PySem.Challenge.rw_passwidth_k21_places_and_bars).prog [49]) (H := K21.hk) (ob := K21.ob) (M := 5000) (loose := K21.loose) (d := HandSHeadRun.topDef (OpenLaw.row PySem.Challenge.rw_passwidth_k21_places_and_bars).prog 49) (kwd := []) K21.ob_eq
    (by kernel_rfl) (fun s => by kernel_rfl) K21.run (by kernel_rfl) (by kernel_rfl) (by kernel_rfl) (by rfl) (by first | assumption | decide +kernel) (by decide +kernel) ⟨rfl, rfl, rfl, rfl, rfl, by decide +kernel⟩ ?hw ?hc
  case hw => w_witness2
  case hc =>
    refine M.walk_end (l := PySem.Challenge.rw_passwidth_k21_places_and_bars) (n := 63) (k := 12) (x := "_law_script") rfl (by decide) (by kernel_rfl) M.roomG_top ?F
    intro w mg fa h Y G hmg0
    obtain ⟨K, KX, c⟩ := Y
    have hmg : mg ("law" : PySem.Str) = some (.ref fa) := by
      have e : (HandSHeadRun.topDef (OpenLaw.row PySem.Challenge.rw_passwidth_k21_places_and_bars).prog 49).name = ("law" : PySem.Str) := by kernel_rfl
      rw [← e]
      exact hmg0
    have T := K21.txt KX G c
    obtain ⟨fd, F⟩ := T.d_law
    have hm := T.g_law
    have ef := hmg.symm.trans hm
    cases ef
    refine ⟨K, M.cmK K, fd, K21.g_law, KX, fun s v => L2.FunD.bindsA (ps := ["_law_script"]) F (fun _ _ _ _ _ _ us hl => match us, hl with | [_], _ => rfl) s [v] rfl, K21.holds, fun base _ _ => ?_⟩
    exact K21.law_fn T hm F
