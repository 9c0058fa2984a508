import PyProof.Rows.All
import Wide.All
import OpenK.AllK
import Wide.FinOn
import HandS.ForMost
import HandS.Exc
import HandS.ExcOwn
import HandS.WordsExc
import HandS.IsInst
import HandS.Deep
import HandS.Style
import HandS.Text
import HandS.TupAny
import HandS.RaiseMore
import HandS.WordsDict
import HandS.TupLen
import HandS.More
import HandS.SetFor
import HandS.Strs
import HandS.Zip
import HandS.Star
import HandS.Ends
import HandS.Comp
import HandS.Defaults
import HandS.HeadHook1
import HandS.HeadHook2
import HandS.Head0
import HandS.Head1
import HandS.Head2
import PyProof.FitsInt
import PyProof.StrLawsRepr
import HandS.Property
import HandS.ClsMeth
import HandS.HeadNt
import HandS.DictComp
import HandS.FStr
import KE.GoesMore
import KE.GoesEnum
import PyProof.DictUpdate
import PyProof.DictDisplay
import KE.KDictOf
import HandS.StrMore
import HandS.HeadHook3
import HandS.ExcInit
import HandS.ExcField
import HandS.ExcIs
import KE.KEqDict
import KE.KTryMore
import HandS.TryOnly
import HandS.TryMany
import KE.KIsAll
import PySem.Challenge.RW_passwidth_k10_rings_found
set_option Elab.async false
set_option linter.all false
set_option autoImplicit false
set_option maxRecDepth 100000
set_option maxHeartbeats 4000000
/-! MP1: values without addresses, what stands for them in the abstract heap, the relation between slots. -/
namespace M
open PySem L2

inductive Val where
  | non | bl (b : Bool) | int (i : Int) | str (s : Str)
  | tup (xs : List Val) | lst (xs : List Val) | dct (t : Bool) (kvs : List (Val × Val))
  | obj (c : Str) (fs : List (Str × Val))
  /-- an exception of an own class, its fields -/
  | exc (c : Str) (fs : List (Str × Val))
  | ty (n : String) | cls (c : Str)
  /-- the law's script -/
  | scr (ns : List Int)

/-- the world: the written part, the own classes -/
structure Wd where
  K : PySem.W.Frag
  CM : Str → Option Addr

/-- at a: an exception of the class at C, its dict -/
def exV (C : Addr) (d : Option Addr) (a : Addr) : HO := .ext fun h => ∃ (oe : Obj) (vs : Array Value), h.get? a = some oe ∧ oe.cls = .ref C ∧ oe.dict = d ∧ oe.data = .fields vs
def kv : Key → Val
  | .inl i => .int i
  | .inr s => .str s

def kb : Key → Prop
  | .inl _ => True
  | .inr s => s.length ≤ sizeLine

mutual
/-- a frozen value: x stands for v in the heap G, which never changes -/
def Rep (A : Wd) (G : Hp) : Val → V → Prop
  | .non, x => x = .non
  | .bl b, x => x = .bl b
  | .int i, x => x = .int i
  | .str s, x => x = .str s ∧ s.length ≤ sizeLine
  | .tup ds, x => ∃ a xs, x = .ref a ∧ SqT A.K G a xs ∧ Reps A G ds xs
  | .lst ds, x => ∃ a xs, x = .ref a ∧ G a = some (.lst xs) ∧ Reps A G ds xs
  | .dct t ds, x => ∃ a, x = .ref a ∧ ((t = false ∧ ∃ kvs o, G a = some (.frz o (.dK kvs)) ∧ RepK A G ds kvs) ∨ (t = true ∧ ∃ kvs o, G a = some (.frz o (.dT kvs)) ∧ RepT A G ds kvs))
  | .obj c fs, x => ∃ a C dx xs, x = .ref a ∧ G a = some (.ins C dx xs) ∧ A.CM c = some C ∧ RepF A G fs xs
  | .exc c fs, x => ∃ a C d, x = .ref a ∧ G a = some (exV C d a) ∧ A.CM c = some C ∧ ((d = none ∧ fs = []) ∨ ∃ dd xs, d = some dd ∧ G dd = some (.xd xs) ∧ RepF A G fs xs)
  | .ty n, x => x = .ty n
  | .cls c, x => ∃ C, A.CM c = some C ∧ x = .ref C
  | .scr ns, x => ∃ a, x = .ref a ∧ SqL A.K G a (ns.map V.int)
def Reps (A : Wd) (G : Hp) : List Val → List V → Prop
  | [], xs => xs = []
  | d :: ds, xs => ∃ y ys, xs = y :: ys ∧ Rep A G d y ∧ Reps A G ds ys
def RepK (A : Wd) (G : Hp) : List (Val × Val) → List (Key × V) → Prop
  | [], xs => xs = []
  | (k, d) :: ds, xs => ∃ q y ys, xs = (q, y) :: ys ∧ (k = kv q ∧ kb q) ∧ Rep A G d y ∧ RepK A G ds ys
def RepT (A : Wd) (G : Hp) : List (Val × Val) → List (List Key × V) → Prop
  | [], xs => xs = []
  | (k, d) :: ds, xs => ∃ q y ys, xs = (q, y) :: ys ∧ (k = .tup (q.map kv) ∧ ∀ x ∈ q, kb x) ∧ Rep A G d y ∧ RepT A G ds ys
def RepF (A : Wd) (G : Hp) : List (Str × Val) → List (Str × V) → Prop
  | [], xs => xs = []
  | (k, d) :: ds, xs => ∃ y ys, xs = (k, y) :: ys ∧ Rep A G d y ∧ RepF A G ds ys
end

/-- G' knows at least what G knows -/
def Le (G G' : Hp) : Prop := ∀ a o, G a = some o → G' a = some o
theorem Le.refl (G : Hp) : Le G G := fun _ _ h => h
theorem Le.trans {G G1 G2 : Hp} (a : Le G G1) (b : Le G1 G2) : Le G G2 := fun x o h => b x o (a x o h)
theorem Le.back {G G' : Hp} (h : Le G G') {a : Addr} (e : G' a = none) : G a = none := by
  cases q : G a with
  | none => rfl
  | some o => rw [h a o q] at e; cases e
theorem Le.new {G : Hp} {p : Addr} {o : HO} (h : G p = none) : Le G (upd G p o) := fun a u e => by
  rw [upd_ne (ne_of_none e h)]; exact e
theorem Le.upd2 {G H : Hp} {p : Addr} {o : HO} (h : Le G H) : Le (upd G p o) (upd H p o) := fun a u e => by
  by_cases q : a = p
  · subst q; rw [upd_same] at e ⊢; exact e
  · rw [upd_ne q] at e ⊢; exact h a u e
theorem Le.updR {G H : Hp} {p : Addr} {o : HO} (h : Le G H) (n : G p = none) : Le G (upd H p o) := fun a u e => by
  rw [upd_ne (ne_of_none e n)]; exact h a u e
theorem rd_mono {G G' : Hp} (h : Le G G') {a : Addr} {u : HO} (r : Rd G a u) : Rd G' a u := by
  rcases r with r | ⟨o, r⟩
  · exact .inl (h _ _ r)
  · exact .inr ⟨o, h _ _ r⟩
theorem sql_mono {K : PySem.W.Frag} {G G' : Hp} (h : Le G G') {a : Addr} {xs : List V} (r : SqL K G a xs) : SqL K G' a xs := r.elim (fun r => .inl (rd_mono h r)) .inr
theorem sqt_mono {K : PySem.W.Frag} {G G' : Hp} (h : Le G G') {a : Addr} {xs : List V} (r : SqT K G a xs) : SqT K G' a xs := r.elim (fun r => .inl (rd_mono h r)) .inr

section
variable {A : Wd} {G G' H H' : Hp}
mutual
theorem Rep.mono (h : Le G G') : ∀ {v : Val} {x : V}, Rep A G v x → Rep A G' v x
  | .non, _, r => by rw [Rep] at r ⊢; exact r
  | .bl _, _, r => by rw [Rep] at r ⊢; exact r
  | .int _, _, r => by rw [Rep] at r ⊢; exact r
  | .str _, _, r => by rw [Rep] at r ⊢; exact r
  | .tup ds, _, r => by
    rw [Rep] at r ⊢; obtain ⟨a, xs, e, q, r⟩ := r
    exact ⟨a, xs, e, sqt_mono h q, Reps.mono h r⟩
  | .lst ds, _, r => by
    rw [Rep] at r ⊢; obtain ⟨a, xs, e, q, r⟩ := r
    exact ⟨a, xs, e, h _ _ q, Reps.mono h r⟩
  | .dct t ds, _, r => by
    rw [Rep] at r ⊢; obtain ⟨a, e, ⟨ht, kvs, o, q, r⟩ | ⟨ht, kvs, o, q, r⟩⟩ := r
    · exact ⟨a, e, .inl ⟨ht, kvs, o, h _ _ q, RepK.mono h r⟩⟩
    · exact ⟨a, e, .inr ⟨ht, kvs, o, h _ _ q, RepT.mono h r⟩⟩
  | .obj c fs, _, r => by
    rw [Rep] at r ⊢; obtain ⟨a, C, dx, xs, e, q, m, r⟩ := r
    exact ⟨a, C, dx, xs, e, h _ _ q, m, RepF.mono h r⟩
  | .exc c fs, _, r => by
    rw [Rep] at r ⊢; obtain ⟨a, C, d, e, q, m, r⟩ := r
    refine ⟨a, C, d, e, h _ _ q, m, ?_⟩
    rcases r with r | ⟨dd, xs, e2, q2, r⟩
    · exact .inl r
    · exact .inr ⟨dd, xs, e2, h _ _ q2, RepF.mono h r⟩
  | .ty _, _, r => by rw [Rep] at r ⊢; exact r
  | .cls _, _, r => by rw [Rep] at r ⊢; exact r
  | .scr _, _, r => by
    rw [Rep] at r ⊢; obtain ⟨a, e, q⟩ := r
    exact ⟨a, e, sql_mono h q⟩
theorem Reps.mono (h : Le G G') : ∀ {ds : List Val} {xs : List V}, Reps A G ds xs → Reps A G' ds xs
  | [], _, r => by rw [Reps] at r ⊢; exact r
  | d :: ds, _, r => by
    rw [Reps] at r ⊢; obtain ⟨y, ys, e, r1, r2⟩ := r
    exact ⟨y, ys, e, Rep.mono h r1, Reps.mono h r2⟩
theorem RepK.mono (h : Le G G') : ∀ {ds : List (Val × Val)} {xs : List (Key × V)}, RepK A G ds xs → RepK A G' ds xs
  | [], _, r => by rw [RepK] at r ⊢; exact r
  | (k, d) :: ds, _, r => by
    rw [RepK] at r ⊢; obtain ⟨q, y, ys, e, e2, r1, r2⟩ := r
    exact ⟨q, y, ys, e, e2, Rep.mono h r1, RepK.mono h r2⟩
theorem RepT.mono (h : Le G G') : ∀ {ds : List (Val × Val)} {xs : List (List Key × V)}, RepT A G ds xs → RepT A G' ds xs
  | [], _, r => by rw [RepT] at r ⊢; exact r
  | (k, d) :: ds, _, r => by
    rw [RepT] at r ⊢; obtain ⟨q, y, ys, e, e2, r1, r2⟩ := r
    exact ⟨q, y, ys, e, e2, Rep.mono h r1, RepT.mono h r2⟩
theorem RepF.mono (h : Le G G') : ∀ {ds : List (Str × Val)} {xs : List (Str × V)}, RepF A G ds xs → RepF A G' ds xs
  | [], _, r => by rw [RepF] at r ⊢; exact r
  | (k, d) :: ds, _, r => by
    rw [RepF] at r ⊢; obtain ⟨y, ys, e, r1, r2⟩ := r
    exact ⟨y, ys, e, Rep.mono h r1, RepF.mono h r2⟩
end

theorem reps_nil {xs : List V} : Reps A G [] xs ↔ xs = [] := by rw [Reps]
theorem reps_cons {d : Val} {ds : List Val} {xs : List V} : Reps A G (d :: ds) xs ↔ ∃ y ys, xs = y :: ys ∧ Rep A G d y ∧ Reps A G ds ys := by rw [Reps]
theorem reps_one {d : Val} {x : V} (r : Rep A G d x) : Reps A G [d] [x] := reps_cons.mpr ⟨_, _, rfl, r, reps_nil.mpr rfl⟩
theorem reps_length : ∀ {ds : List Val} {xs : List V}, Reps A G ds xs → ds.length = xs.length
  | [], _, r => by rw [reps_nil] at r; subst r; rfl
  | d :: ds, _, r => by
    rw [reps_cons] at r; obtain ⟨y, ys, e, r1, r2⟩ := r
    subst e; simp [reps_length r2]
theorem reps_get : ∀ {ds : List Val} {xs : List V} {i : Nat} {d : Val}, Reps A G ds xs → ds[i]? = some d → ∃ x, xs[i]? = some x ∧ Rep A G d x
  | [], _, _, _, r, e => by simp at e
  | d :: ds, _, 0, _, r, e => by
    rw [reps_cons] at r; obtain ⟨y, ys, e1, r1, r2⟩ := r
    subst e1; simp at e; subst e; exact ⟨y, rfl, r1⟩
  | d :: ds, _, i + 1, _, r, e => by
    rw [reps_cons] at r; obtain ⟨y, ys, e1, r1, r2⟩ := r
    subst e1; simp at e; obtain ⟨x, h1, h2⟩ := reps_get r2 e
    exact ⟨x, by simpa using h1, h2⟩
theorem reps_get' : ∀ {ds : List Val} {xs : List V} {i : Nat} {x : V}, Reps A G ds xs → xs[i]? = some x → ∃ d, ds[i]? = some d ∧ Rep A G d x
  | [], _, _, _, r, e => by rw [reps_nil] at r; subst r; simp at e
  | d :: ds, _, 0, _, r, e => by
    rw [reps_cons] at r; obtain ⟨y, ys, e1, r1, r2⟩ := r
    subst e1; simp at e; subst e; exact ⟨d, rfl, r1⟩
  | d :: ds, _, i + 1, _, r, e => by
    rw [reps_cons] at r; obtain ⟨y, ys, e1, r1, r2⟩ := r
    subst e1; simp at e; obtain ⟨x, h1, h2⟩ := reps_get' r2 e
    exact ⟨x, by simpa using h1, h2⟩
theorem reps_append : ∀ {ds es : List Val} {xs ys : List V}, Reps A G ds xs → Reps A G es ys → Reps A G (ds ++ es) (xs ++ ys)
  | [], _, _, _, r, q => by rw [reps_nil] at r; subst r; simpa using q
  | d :: ds, es, _, ys, r, q => by
    rw [reps_cons] at r; obtain ⟨y, zs, e1, r1, r2⟩ := r
    subst e1; exact reps_cons.mpr ⟨_, _, rfl, r1, reps_append r2 q⟩
theorem reps_take : ∀ {ds : List Val} {xs : List V} (n : Nat), Reps A G ds xs → Reps A G (ds.take n) (xs.take n)
  | _, _, 0, _ => by simpa using reps_nil.mpr rfl
  | [], _, n + 1, r => by rw [reps_nil] at r; subst r; simpa using reps_nil.mpr rfl
  | d :: ds, _, n + 1, r => by
    rw [reps_cons] at r; obtain ⟨y, ys, e1, r1, r2⟩ := r
    subst e1; exact reps_cons.mpr ⟨_, _, rfl, r1, reps_take n r2⟩
theorem reps_drop : ∀ {ds : List Val} {xs : List V} (n : Nat), Reps A G ds xs → Reps A G (ds.drop n) (xs.drop n)
  | _, _, 0, r => by simpa using r
  | [], _, n + 1, r => by rw [reps_nil] at r; subst r; simpa using reps_nil.mpr rfl
  | d :: ds, _, n + 1, r => by
    rw [reps_cons] at r; obtain ⟨y, ys, e1, r1, r2⟩ := r
    subst e1; exact reps_drop n r2
theorem reps_set {d : Val} {x : V} (q : Rep A G d x) : ∀ {ds : List Val} {xs : List V} (i : Nat), Reps A G ds xs → Reps A G (ds.set i d) (xs.set i x)
  | [], _, _, r => by rw [reps_nil] at r; subst r; simpa using reps_nil.mpr rfl
  | e :: ds, _, 0, r => by
    rw [reps_cons] at r; obtain ⟨y, ys, e1, r1, r2⟩ := r
    subst e1; exact reps_cons.mpr ⟨_, _, rfl, q, r2⟩
  | e :: ds, _, i + 1, r => by
    rw [reps_cons] at r; obtain ⟨y, ys, e1, r1, r2⟩ := r
    subst e1; exact reps_cons.mpr ⟨_, _, rfl, r1, reps_set q i r2⟩
theorem reps_erase : ∀ {ds : List Val} {xs : List V} (i : Nat), Reps A G ds xs → Reps A G (ds.eraseIdx i) (xs.eraseIdx i)
  | [], _, _, r => by rw [reps_nil] at r; subst r; simpa using reps_nil.mpr rfl
  | e :: ds, _, 0, r => by
    rw [reps_cons] at r; obtain ⟨y, ys, e1, r1, r2⟩ := r
    subst e1; simpa using r2
  | e :: ds, _, i + 1, r => by
    rw [reps_cons] at r; obtain ⟨y, ys, e1, r1, r2⟩ := r
    subst e1; exact reps_cons.mpr ⟨_, _, rfl, r1, reps_erase i r2⟩
theorem reps_reverse : ∀ {ds : List Val} {xs : List V}, Reps A G ds xs → Reps A G ds.reverse xs.reverse
  | [], _, r => by rw [reps_nil] at r; subst r; simpa using reps_nil.mpr rfl
  | e :: ds, _, r => by
    rw [reps_cons] at r; obtain ⟨y, ys, e1, r1, r2⟩ := r
    subst e1; rw [List.reverse_cons, List.reverse_cons]; exact reps_append (reps_reverse r2) (reps_one r1)
theorem reps_strs : ∀ {ss : List Str} {xs : List V}, Reps A G (ss.map Val.str) xs → xs = ss.map V.str
  | [], _, r => by rw [List.map_nil, reps_nil] at r; subst r; rfl
  | s :: ss, _, r => by
    rw [List.map_cons, reps_cons] at r; obtain ⟨y, ys, e, r1, r2⟩ := r
    rw [Rep] at r1; subst e; rw [r1.1, reps_strs r2]; rfl
theorem reps_ints : ∀ {ns : List Int} {xs : List V}, Reps A G (ns.map Val.int) xs → xs = ns.map V.int
  | [], _, r => by rw [List.map_nil, reps_nil] at r; subst r; rfl
  | s :: ss, _, r => by
    rw [List.map_cons, reps_cons] at r; obtain ⟨y, ys, e, r1, r2⟩ := r
    rw [Rep] at r1; subst e; rw [r1, reps_ints r2]; rfl
theorem reps_of_ints : ∀ {ns : List Int}, Reps A G (ns.map Val.int) (ns.map V.int)
  | [] => reps_nil.mpr rfl
  | n :: ns => reps_cons.mpr ⟨_, _, rfl, by rw [Rep], reps_of_ints⟩
theorem reps_bls : ∀ {ns : List Bool} {xs : List V}, Reps A G (ns.map Val.bl) xs → xs = ns.map V.bl
  | [], _, r => by rw [List.map_nil, reps_nil] at r; subst r; rfl
  | s :: ss, _, r => by
    rw [List.map_cons, reps_cons] at r; obtain ⟨y, ys, e, r1, r2⟩ := r
    rw [Rep] at r1; subst e; rw [r1, reps_bls r2]; rfl
theorem rep_non {x : V} : Rep A G .non x ↔ x = .non := by rw [Rep]
theorem rep_bl {b : Bool} {x : V} : Rep A G (.bl b) x ↔ x = .bl b := by rw [Rep]
theorem rep_int {i : Int} {x : V} : Rep A G (.int i) x ↔ x = .int i := by rw [Rep]
theorem rep_str {s : Str} {x : V} : Rep A G (.str s) x ↔ x = .str s ∧ s.length ≤ sizeLine := by rw [Rep]
theorem rep_ty {s : String} {x : V} : Rep A G (.ty s) x ↔ x = .ty s := by rw [Rep]
theorem rep_tup {ds : List Val} {x : V} : Rep A G (.tup ds) x ↔ ∃ a xs, x = .ref a ∧ SqT A.K G a xs ∧ Reps A G ds xs := by rw [Rep]
theorem rep_lst {ds : List Val} {x : V} : Rep A G (.lst ds) x ↔ ∃ a xs, x = .ref a ∧ G a = some (.lst xs) ∧ Reps A G ds xs := by rw [Rep]
end

/-- a container that may be changed in place: it stands at a in H, what is in it is frozen -/
def Root (A : Wd) (G H : Hp) (v : Val) (a : Addr) : Prop := match v with
  | .lst ds => ∃ xs, H a = some (.lst xs) ∧ Reps A G ds xs
  | .dct t ds => (t = false ∧ ∃ kvs, H a = some (.dK kvs) ∧ RepK A G ds kvs) ∨ (t = true ∧ ∃ kvs, H a = some (.dT kvs) ∧ RepT A G ds kvs)
  | .obj c fs => ∃ C dx xs, H a = some (.ins C dx xs) ∧ A.CM c = some C ∧ RepF A G fs xs
  | _ => False
theorem Root.has {A : Wd} {G H : Hp} {v : Val} {a : Addr} (r : Root A G H v a) : ∃ o, H a = some o ∧ Mut (some o) := by
  cases v with
  | lst ds => obtain ⟨xs, e, _⟩ := r; exact ⟨_, e, True.intro⟩
  | dct t ds => obtain ⟨_, xs, e, _⟩ | ⟨_, xs, e, _⟩ := r <;> exact ⟨_, e, True.intro⟩
  | obj c fs => obtain ⟨C, dx, xs, e, _⟩ := r; exact ⟨_, e, True.intro⟩
  | _ => exact r.elim
theorem Root.mono {A : Wd} {G H G' H' : Hp} {v : Val} {a : Addr} (r : Root A G H v a) (h : Le G G') (e : ∀ o, H a = some o → H' a = some o) : Root A G' H' v a := by
  cases v with
  | lst ds => obtain ⟨xs, q, r⟩ := r; exact ⟨xs, e _ q, r.mono h⟩
  | dct t ds =>
    obtain ⟨ht, xs, q, r⟩ | ⟨ht, xs, q, r⟩ := r
    · exact .inl ⟨ht, xs, e _ q, r.mono h⟩
    · exact .inr ⟨ht, xs, e _ q, r.mono h⟩
  | obj c fs => obtain ⟨C, dx, xs, q, m, r⟩ := r; exact ⟨C, dx, xs, e _ q, m, r.mono h⟩
  | _ => exact r.elim

/-- slots: none unknown; some (own, v) -/
abbrev Slot := Option (Bool × Val)
abbrev Env := List Slot

/-- what is fixed through a def's run: the entry's frozen heap, the entry's heap, the containers that were lent to it, the parameters that stay -/
structure Act where
  w : Wd
  G0 : Hp
  H0 : Hp
  L : Addr → Prop
  io : List Nat
  x0 : Nat → Option V

/-- the roots that slots own -/
def Rt (r : Env) (σ : L2.St) (a : Addr) : Prop := ∃ (i : Nat) (v : Val), r[i]? = some (some (true, v)) ∧ σ[i]? = some (some (.ref a))

structure Ok (A : Act) (G H : Hp) (σ : L2.St) (r : Env) : Prop where
  ex0 : Le A.G0 G
  gr0 : ∀ a, G a ≠ none → A.G0 a ≠ none ∨ A.H0 a = none ∨ A.L a
  fr0 : ∀ a o, A.H0 a = some o → ¬ A.L a → H a = some o
  sub : Le G H
  len : σ.length = r.length
  fz : ∀ (i : Nat) (v : Val), r[i]? = some (some (false, v)) → ∃ x, σ[i]? = some (some x) ∧ Rep A.w G v x
  ow : ∀ (i : Nat) (v : Val), r[i]? = some (some (true, v)) → ∃ a, σ[i]? = some (some (.ref a)) ∧ Root A.w G H v a ∧ G a = none ∧ (A.L a ∨ A.H0 a = none)
  sep : ∀ (i j : Nat) (v w : Val) (a : Addr), r[i]? = some (some (true, v)) → r[j]? = some (some (true, w)) → σ[i]? = some (some (.ref a)) → σ[j]? = some (some (.ref a)) → i = j
  fx : ∀ i ∈ A.io, σ[i]? = some (A.x0 i)

/-- what an expression does to the state -/
structure Step (σ : L2.St) (r : Env) (G H : Hp) (r' : Env) (G' H' : Hp) : Prop where
  ex : Le G G'
  keep : ∀ a o, H a = some o → ¬ Rt r σ a → H' a = some o
  grow : ∀ a, G a = none → G' a ≠ none → H a = none ∨ Rt r σ a
  rts : ∀ a, Rt r' σ a → Rt r σ a
theorem Step.refl {σ : L2.St} {r : Env} {G H : Hp} : Step σ r G H r G H := ⟨Le.refl _, fun _ _ h _ => h, fun _ h h' => absurd h h', fun _ h => h⟩
theorem Step.trans {σ : L2.St} {r r1 r2 : Env} {G H G1 H1 G2 H2 : Hp} (a : Step σ r G H r1 G1 H1) (b : Step σ r1 G1 H1 r2 G2 H2) : Step σ r G H r2 G2 H2 where
  ex := a.ex.trans b.ex
  keep := fun x o h n => b.keep x o (a.keep x o h n) fun z => n (a.rts x z)
  grow := fun x h h' => by
    by_cases q : G1 x = none
    · rcases b.grow x q h' with z | z
      · by_cases n : Rt r σ x
        · exact .inr n
        · refine .inl ?_
          cases e : H x with
          | none => rfl
          | some o => rw [a.keep x o e n] at z; cases z
      · exact .inr (a.rts x z)
    · exact a.grow x h q
  rts := fun x h => a.rts x (b.rts x h)

section
variable {A : Act} {G H G' H' : Hp} {σ : L2.St} {r r' : Env}
theorem Ok.rt {a : Addr} (k : Ok A G H σ r) (h : Rt r σ a) : (∃ o, H a = some o) ∧ G a = none ∧ (A.L a ∨ A.H0 a = none) := by
  obtain ⟨i, v, h1, h2⟩ := h
  obtain ⟨b, e, ro, n, l⟩ := k.ow i v h1
  rw [h2] at e; cases e
  obtain ⟨o, e, _⟩ := ro.has
  exact ⟨⟨o, e⟩, n, l⟩
theorem Ok.notRt {a : Addr} (k : Ok A G H σ r) (h : H a = none) : ¬ Rt r σ a := fun z => by
  obtain ⟨⟨o, e⟩, _⟩ := k.rt z
  rw [e] at h; cases h
theorem Ok.fresh {a : Addr} (k : Ok A G H σ r) (h : H a = none) : A.L a ∨ A.H0 a = none := by
  by_cases l : A.L a
  · exact .inl l
  · refine .inr ?_
    cases e : A.H0 a with
    | none => rfl
    | some o => rw [k.fr0 a o e l] at h; cases h
/-- an expression's state may grow: new objects alone -/
structure Grow (G H G' H' : Hp) : Prop where
  g : Le G G'
  h : Le H H'
  s : Le G' H'
  n : ∀ a, G a = none → G' a ≠ none → H a = none
theorem Grow.refl (s : Le G H) : Grow G H G H := ⟨Le.refl _, Le.refl _, s, fun _ h h' => absurd h h'⟩
theorem Grow.trans {G1 H1 G2 H2 : Hp} (a : Grow G H G1 H1) (b : Grow G1 H1 G2 H2) : Grow G H G2 H2 :=
  ⟨a.g.trans b.g, a.h.trans b.h, b.s, fun x h h' => by
    by_cases q : G1 x = none
    · exact a.h.back (b.n x q h')
    · exact a.n x h q⟩
theorem Grow.step (g : Grow G H G' H') : Step σ r G H r G' H' := ⟨g.g, fun a o h _ => g.h a o h, fun a h h' => .inl (g.n a h h'), fun _ h => h⟩
theorem Ok.grow (k : Ok A G H σ r) (g : Grow G H G' H') : Ok A G' H' σ r where
  ex0 := k.ex0.trans g.g
  gr0 := fun a h => by
    by_cases q : G a = none
    · rcases k.fresh (g.n a q h) with z | z
      · exact .inr (.inr z)
      · exact .inr (.inl z)
    · exact k.gr0 a q
  fr0 := fun a o h n => g.h _ _ (k.fr0 a o h n)
  sub := g.s
  len := k.len
  fz := fun i v h => let ⟨x, e, q⟩ := k.fz i v h; ⟨x, e, q.mono g.g⟩
  ow := fun i v h => by
    obtain ⟨a, e, q, n, l⟩ := k.ow i v h
    refine ⟨a, e, q.mono g.g (g.h a), ?_, l⟩
    cases z : G' a with
    | none => rfl
    | some o =>
      obtain ⟨o', e', _⟩ := q.has
      have := g.n a n (by rw [z]; simp)
      rw [e'] at this; cases this
  sep := k.sep
  fx := k.fx
/-- a new object, frozen at once -/
theorem Grow.laidG {p : Addr} {o : HO} (s : Le G H) (n : H p = none) : Grow G H (upd G p o) (upd H p o) :=
  ⟨Le.new (s.back n), Le.new n, s.upd2, fun a h h' => by
    by_cases q : a = p
    · subst q; exact n
    · rw [upd_ne q] at h'; exact absurd h h'⟩
/-- a new object, owned -/
theorem Grow.laidH {p : Addr} {o : HO} (s : Le G H) (n : H p = none) : Grow G H G (upd H p o) :=
  ⟨Le.refl _, Le.new n, s.updR (s.back n), fun a h h' => absurd h h'⟩
end

/-- the value of an expression: own, it is a container that nobody else holds -/
def TRep (A : Act) (G H : Hp) (σ : L2.St) (r : Env) (o : Bool) (v : Val) (x : V) : Prop := match o with
  | true => ∃ a, x = .ref a ∧ Root A.w G H v a ∧ G a = none ∧ ¬ Rt r σ a ∧ (A.L a ∨ A.H0 a = none)
  | false => Rep A.w G v x
/-- a value that can be read -/
def RRep (A : Wd) (G H : Hp) (v : Val) (x : V) : Prop := Rep A G v x ∨ ∃ a, x = .ref a ∧ Root A G H v a
/-- a new value -/
def NRep (A : Wd) (G H G' H' : Hp) (o : Bool) (v : Val) (x : V) : Prop := match o with
  | true => ∃ a, x = .ref a ∧ Root A G' H' v a ∧ G' a = none ∧ H a = none
  | false => Rep A G' v x

section
variable {A : Act} {G H G' H' : Hp} {σ : L2.St} {r r' : Env} {o : Bool} {v : Val} {x : V}
theorem TRep.step (t : TRep A G H σ r o v x) (st : Step σ r G H r' G' H') : TRep A G' H' σ r' o v x := by
  cases o with
  | true =>
    obtain ⟨a, e, ro, n, nr, l⟩ := t
    obtain ⟨u, hu, _⟩ := ro.has
    refine ⟨a, e, ro.mono st.ex fun o h => st.keep a o h nr, ?_, fun z => nr (st.rts a z), l⟩
    cases q : G' a with
    | none => rfl
    | some w =>
      rcases st.grow a n (by rw [q]; simp) with z | z
      · rw [hu] at z; cases z
      · exact absurd z nr
  | false => exact Rep.mono st.ex t
theorem TRep.rrep (t : TRep A G H σ r o v x) : RRep A.w G H v x := by
  cases o with
  | true => obtain ⟨a, e, ro, _⟩ := t; exact .inr ⟨a, e, ro⟩
  | false => exact .inl t
theorem NRep.trep (k : Ok A G H σ r) (t : NRep A.w G H G' H' o v x) : TRep A G' H' σ r o v x := by
  cases o with
  | true =>
    obtain ⟨a, e, ro, n, n2⟩ := t
    exact ⟨a, e, ro, n, k.notRt n2, k.fresh n2⟩
  | false => exact t
end
end M
/-! MP2: results, operands, primitive operations, calls, tests; the rules over HandS's judgements. -/
namespace M
open PySem L2

/-! ### what is wished of an exception -/
inductive ER where
  | ok (o : Bool) (v : Val) (r : Env) | ex (e : Val) (r : Env) | bad
inductive Hd where
  | tmp (o : Bool) (w : Val) | sl (i : Nat)
inductive OR where
  | ok (h : Hd) (r : Env) | ex (e : Val) (r : Env) | bad
inductive OsR where
  | ok (hs : List Hd) (r : Env) | ex (e : Val) (r : Env) | bad
inductive BR where
  | ok (b : Bool) (r : Env) | ex (e : Val) (r : Env) | bad
inductive SR where
  | nx (r : Env) | rt (o : Bool) (v : Val) (r : Env) | bk (r : Env) | ct (r : Env) | ex (e : Val) (r : Env) | bad
abbrev EF := Env → ER
abbrev OF := Env → OR
abbrev OsF := Env → OsR
abbrev BF := Env → BR
abbrev SF := Env → SR

def Hd.get (r : Env) : Hd → Option Val
  | .tmp _ w => some w
  | .sl i => match r[i]? with
    | some (some (_, v)) => some v
    | _ => none
def getAll (r : Env) : List Hd → Option (List Val)
  | [] => some []
  | h :: hs => match h.get r with
    | some v => match getAll r hs with
      | some vs => some (v :: vs)
      | none => none
    | none => none

/-- the dict of an exception -/
def XdOk (w : Wd) (G H : Hp) (d : Option Addr) (fs : List (Str × Val)) : Prop := (d = none ∧ fs = []) ∨ ∃ dd xs, d = some dd ∧ G dd = some (.xd xs) ∧ RepF w G fs xs
/-- an exception on its way: W takes it -/
def ExP (A : Act) (W : WX) (G0 : Hp) (σ : L2.St) (e : Val) (r : Env) : Prop := match e with
  | .exc c fs => ∀ G H C d, Ok A G H σ r → Le G0 G → A.w.CM c = some C → XdOk A.w G H d fs → W (.ref C) d σ H
  | _ => False

theorem ExP.mono {A : Act} {W : WX} {G0 G1 : Hp} {σ : L2.St} {e : Val} {r : Env} (le : Le G0 G1) (h : ExP A W G0 σ e r) : ExP A W G1 σ e r := by
  cases e with
  | exc c fs => exact fun G H C d k l => h G H C d k (le.trans l)
  | _ => exact h
def HRep (A : Act) (G H : Hp) (σ : L2.St) (r : Env) (h : Hd) (x : V) : Prop := match h with
  | .tmp o v => TRep A G H σ r o v x
  | .sl i => σ[i]? = some (some x)
def HReps (A : Act) (G H : Hp) (σ : L2.St) (r : Env) : List Hd → List V → Prop
  | [], xs => xs = []
  | h :: hs, xs => ∃ y ys, xs = y :: ys ∧ HRep A G H σ r h y ∧ HReps A G H σ r hs ys
def RReps (A : Wd) (G H : Hp) : List Val → List V → Prop
  | [], xs => xs = []
  | v :: vs, xs => ∃ y ys, xs = y :: ys ∧ RRep A G H v y ∧ RReps A G H vs ys

section
variable {A : Act} {G H G' H' : Hp} {σ : L2.St} {r r' : Env}
theorem HRep.step {h : Hd} {x : V} (t : HRep A G H σ r h x) (st : Step σ r G H r' G' H') : HRep A G' H' σ r' h x := by
  cases h with
  | tmp o v => exact TRep.step t st
  | sl i => exact t
theorem HReps.step : ∀ {hs : List Hd} {xs : List V}, HReps A G H σ r hs xs → Step σ r G H r' G' H' → HReps A G' H' σ r' hs xs
  | [], _, h, _ => h
  | _ :: _, _, ⟨y, ys, e, a, b⟩, st => ⟨y, ys, e, a.step st, b.step st⟩
theorem Ok.slot {i : Nat} {o : Bool} {v : Val} (k : Ok A G H σ r) (h : r[i]? = some (some (o, v))) : ∃ x, σ[i]? = some (some x) ∧ RRep A.w G H v x := by
  cases o with
  | true => obtain ⟨a, e, ro, _⟩ := k.ow i v h; exact ⟨_, e, .inr ⟨a, rfl, ro⟩⟩
  | false => obtain ⟨x, e, q⟩ := k.fz i v h; exact ⟨x, e, .inl q⟩
theorem HRep.get {h : Hd} {x : V} {v : Val} (k : Ok A G H σ r) (t : HRep A G H σ r h x) (e : h.get r = some v) : RRep A.w G H v x := by
  cases h with
  | tmp o w => simp only [Hd.get, Option.some.injEq] at e; subst e; exact TRep.rrep t
  | sl i =>
    simp only [Hd.get] at e
    split at e
    · rename_i o w q
      cases e
      obtain ⟨y, e1, e2⟩ := k.slot q
      have t' : σ[i]? = some (some x) := t
      rw [t'] at e1; cases e1; exact e2
    · cases e
theorem HReps.get (k : Ok A G H σ r) : ∀ {hs : List Hd} {xs : List V} {vs : List Val}, HReps A G H σ r hs xs → getAll r hs = some vs → RReps A.w G H vs xs
  | [], _, vs, h, e => by
    simp only [getAll, Option.some.injEq] at e; subst e; exact h
  | h :: hs, _, vs, ⟨y, ys, e1, a, b⟩, e => by
    simp only [getAll] at e
    split at e
    · rename_i v q
      split at e
      · rename_i ws q2
        cases e
        exact ⟨y, ys, e1, a.get k q, HReps.get k b q2⟩
      · cases e
    · cases e
end

/-! ### what HandS's judgements are told -/
/-- behind an expression: its value; what it owns is new (or was a slot's) -/
structure Res (A : Act) (σ : L2.St) (r : Env) (G H : Hp) (r' : Env) (G' H' : Hp) (o : Bool) (v : Val) (x : V) : Prop where
  ok : Ok A G' H' σ r'
  st : Step σ r G H r' G' H'
  tr : TRep A G' H' σ r' o v x
  fr : o = true → ∀ a, x = .ref a → H a = none ∨ Rt r σ a
theorem Step.fresh {σ : L2.St} {r r' : Env} {G H G' H' : Hp} (st : Step σ r G H r' G' H') {a : Addr} (h : H' a = none) : H a = none ∨ Rt r σ a := by
  by_cases n : Rt r σ a
  · exact .inr n
  · refine .inl ?_
    cases e : H a with
    | none => rfl
    | some o => rw [st.keep a o e n] at h; cases h
def tE (A : Act) (W : WX) (f : EF) : TE := fun σ H Q => ∃ r G, Ok A G H σ r ∧ match f r with
  | .ok o v r' => ∀ x G' H', Res A σ r G H r' G' H' o v x → Q x H'
  | .ex e r' => ExP A W G σ e r'
  | .bad => False
def tO (A : Act) (W : WX) (f : OF) : TE := fun σ H Q => ∃ r G, Ok A G H σ r ∧ match f r with
  | .ok h r' => ∀ x G' H', Ok A G' H' σ r' → Step σ r G H r' G' H' → HRep A G' H' σ r' h x → Q x H'
  | .ex e r' => ExP A W G σ e r'
  | .bad => False
def tOs (A : Act) (W : WX) (f : OsF) : TA := fun σ H Q => ∃ r G, Ok A G H σ r ∧ match f r with
  | .ok hs r' => ∀ xs G' H', Ok A G' H' σ r' → Step σ r G H r' G' H' → HReps A G' H' σ r' hs xs → Q xs H'
  | .ex e r' => ExP A W G σ e r'
  | .bad => False
def tBo (A : Act) (W : WX) (f : BF) : TT := fun σ H Q => ∃ r G, Ok A G H σ r ∧ match f r with
  | .ok b r' => ∀ G' H', Ok A G' H' σ r' → Step σ r G H r' G' H' → Q b H'
  | .ex e r' => ExP A W G σ e r'
  | .bad => False
/-- behind a statement: the slots may be others -/
def Fin (A : Act) (W : WX) (G : Hp) (D : Ends) : SR → Prop
  | .nx r' => ∀ σ' G' H', Ok A G' H' σ' r' → Le G G' → D.nx σ' H'
  | .rt o v r' => ∀ x σ' G' H', Ok A G' H' σ' r' → Le G G' → TRep A G' H' σ' r' o v x → D.rt x H'
  | .bk r' => ∀ σ' G' H', Ok A G' H' σ' r' → Le G G' → D.bk σ' H'
  | .ct r' => ∀ σ' G' H', Ok A G' H' σ' r' → Le G G' → D.ct σ' H'
  | .ex e r' => ∀ σ', ExP A W G σ' e r'
  | .bad => False
def tSt (A : Act) (W : WX) (f : SF) : TS := fun D σ H => ∃ r G, Ok A G H σ r ∧ Fin A W G D (f r)
theorem Fin.mono {A : Act} {W : WX} {G G1 : Hp} {D : Ends} {s : SR} (le : Le G G1) (h : Fin A W G D s) : Fin A W G1 D s := by
  cases s with
  | nx r => exact fun σ' G' H' k l => h σ' G' H' k (le.trans l)
  | rt o v r => exact fun x σ' G' H' k l => h x σ' G' H' k (le.trans l)
  | bk r => exact fun σ' G' H' k l => h σ' G' H' k (le.trans l)
  | ct r => exact fun σ' G' H' k l => h σ' G' H' k (le.trans l)
  | ex e r => exact fun σ' => (h σ').mono le
  | bad => exact h

theorem PE.imp {X : Cx} {e : Expr} {t t' : TE} (h : PE X e t) (hi : ∀ σ H Q, t' σ H Q → t σ H Q) : PE X e t' := ⟨fun pins s σ H Q I q => h.run pins s σ H Q I (hi _ _ _ q)⟩
theorem PA.imp {X : Cx} {e : List Expr} {t t' : TA} (h : PA X e t) (hi : ∀ σ H Q, t' σ H Q → t σ H Q) : PA X e t' := ⟨fun pos pins s σ H Q I q => h.run pos pins s σ H Q I (hi _ _ _ q)⟩
theorem PT.imp {X : Cx} {e : Expr} {t t' : TT} (h : PT X e t) (hi : ∀ σ H Q, t' σ H Q → t σ H Q) : PT X e t' := ⟨fun pins s σ H Q I q => h.run pins s σ H Q I (hi _ _ _ q)⟩
theorem PS.imp {X : Cx} {e : Stmt} {t t' : TS} (h : PS X e t) (hi : ∀ D σ H, t' D σ H → t D σ H) : PS X e t' := ⟨fun pins s σ H D I q => h.run pins s σ H D I (hi _ _ _ q)⟩
theorem PSs.imp {X : Cx} {e : List Stmt} {t t' : TS} (h : PSs X e t) (hi : ∀ D σ H, t' D σ H → t D σ H) : PSs X e t' := ⟨fun pins s σ H D I q => h.run pins s σ H D I (hi _ _ _ q)⟩

/-- a container that stands in H may be locked for good -/
def GQ (Q : VK) : VK := fun x H => Q x H ∨ ∃ a u, H a = some u ∧ Mut (some u) ∧ ∀ od, Q x (upd H a (.frz od u))
theorem PE.ghost {X : Cx} {e : Expr} {t : TE} (h : PE X e t) : PE X e (fun σ H Q => t σ H (GQ Q)) := by
  refine ⟨fun pins s σ H Q I q => ?_⟩
  refine thn (h.run pins s σ H _ I q) fun u s1 ⟨x, H1, I1, r1, q1⟩ => ?_
  rcases q1 with q1 | ⟨a, u, e, m, q1⟩
  · exact ⟨x, H1, I1, r1, q1⟩
  · obtain ⟨od, I2⟩ := I1.lock e m
    exact ⟨x, _, I2, r1, q1 od⟩

theorem upd_self {H : Hp} {a : Addr} {o : HO} (h : H a = some o) : upd H a o = H := by
  funext b
  by_cases e : b = a
  · subst e; rw [upd_same, h]
  · rw [upd_ne e]

section
variable {A : Act} {G H : Hp} {σ : L2.St} {r : Env} {v : Val} {a : Addr} {x : V}
/-- a container is frozen: as it stands, or locked -/
theorem freeze_root {w : Wd} (ro : Root w G H v a) (n : G a = none) : (∃ o, H a = some o ∧ Rep w (upd G a o) v (.ref a)) ∨ (∃ u, H a = some u ∧ Mut (some u) ∧ ∀ od, Rep w (upd G a (.frz od u)) v (.ref a)) := by
  cases v with
  | lst ds =>
    obtain ⟨xs, e, q⟩ := ro
    exact .inl ⟨_, e, rep_lst.mpr ⟨a, xs, rfl, upd_same, q.mono (Le.new n)⟩⟩
  | dct t ds =>
    obtain ⟨ht, kvs, e, q⟩ | ⟨ht, kvs, e, q⟩ := ro
    · exact .inr ⟨_, e, True.intro, fun od => by rw [Rep]; exact ⟨a, rfl, .inl ⟨ht, kvs, od, upd_same, q.mono (Le.new n)⟩⟩⟩
    · exact .inr ⟨_, e, True.intro, fun od => by rw [Rep]; exact ⟨a, rfl, .inr ⟨ht, kvs, od, upd_same, q.mono (Le.new n)⟩⟩⟩
  | obj c fs =>
    obtain ⟨C, dx, xs, e, m, q⟩ := ro
    exact .inl ⟨_, e, by rw [Rep]; exact ⟨a, C, dx, xs, rfl, upd_same, m, q.mono (Le.new n)⟩⟩
  | _ => exact ro.elim
/-- the state behind it: a is no slot's -/
theorem Ok.freezeT {o : HO} (k : Ok A G H σ r) (n : G a = none) (nr : ¬ Rt r σ a) (l : A.L a ∨ A.H0 a = none) : Ok A (upd G a o) (upd H a o) σ r where
  ex0 := k.ex0.trans (Le.new n)
  gr0 := fun b h => by
    by_cases e : b = a
    · subst e; rcases l with l | l
      · exact .inr (.inr l)
      · exact .inr (.inl l)
    · rw [upd_ne e] at h; exact k.gr0 b h
  fr0 := fun b u h nl => by
    by_cases e : b = a
    · subst e
      rcases l with l | l
      · exact absurd l nl
      · rw [l] at h; cases h
    · rw [upd_ne e]; exact k.fr0 b u h nl
  sub := k.sub.upd2
  len := k.len
  fz := fun i v h => let ⟨x, e, q⟩ := k.fz i v h; ⟨x, e, q.mono (Le.new n)⟩
  ow := fun i v h => by
    obtain ⟨b, e, q, nb, lb⟩ := k.ow i v h
    have ne : b ≠ a := fun z => nr ⟨i, v, h, by rw [e, z]⟩
    exact ⟨b, e, q.mono (Le.new n) (fun o h => by rw [upd_ne ne]; exact h), by rw [upd_ne ne]; exact nb, lb⟩
  sep := k.sep
  fx := k.fx
end

/-- e, its value frozen -/
def frz (f : EF) : EF := fun r => match f r with
  | .ok _ v r' => .ok false v r'
  | .ex e r' => .ex e r'
  | .bad => .bad
theorem pe_frz {X : Cx} {A : Act} {W : WX} {e : Expr} {f : EF} (h : PE X e (tE A W f)) : PE X e (tE A W (frz f)) := by
  refine PE.imp (PE.ghost h) fun σ H Q ⟨r, G, k, m⟩ => ⟨r, G, k, ?_⟩
  unfold frz at m
  cases hf : f r with
  | bad => rw [hf] at m; exact m.elim
  | ex e r' => rw [hf] at m; exact m
  | ok o v r' =>
    rw [hf] at m
    intro x G1 H1 R
    cases o with
    | false => exact .inl (m x G1 H1 R)
    | true =>
      obtain ⟨a, e, ro, n, nr, l⟩ := R.tr
      subst e
      have fr := R.fr rfl a rfl
      have fin : ∀ o, Rep A.w (upd G1 a o) v (.ref a) → Q (.ref a) (upd H1 a o) := fun o rp => by
        refine m _ (upd G1 a o) (upd H1 a o) ⟨R.ok.freezeT n nr l, ⟨R.st.ex.trans (Le.new n), fun b u h nb => ?_, fun b h h' => ?_, R.st.rts⟩, rp, fun z => nomatch z⟩
        · have ne : b ≠ a := fun z => by
            subst z; rcases fr with z | z
            · rw [z] at h; cases h
            · exact nb z
          rw [upd_ne ne]; exact R.st.keep b u h nb
        · by_cases z : b = a
          · subst z; exact fr
          · rw [upd_ne z] at h'; exact R.st.grow b h h'
      rcases freeze_root ro n with ⟨u, hu, rp⟩ | ⟨u, hu, mu, rp⟩
      · left
        have q := fin u rp
        rw [upd_self hu] at q
        exact q
      · exact .inr ⟨a, u, hu, mu, fun od => fin _ (rp od)⟩

/-! ### constants, names -/
def cst (v : Val) : EF := fun r => .ok false v r
/-- a name as a value: what it owns is frozen -/
def var (i : Nat) : EF := fun r => match r[i]? with
  | some (some (false, v)) => .ok false v r
  | some (some (true, v)) => .ok false v (r.set i (some (false, v)))
  | _ => .bad
/-- a name that isn't needed any more: its value goes -/
def mv (i : Nat) : EF := fun r => match r[i]? with
  | some (some (o, v)) => .ok o v (r.set i none)
  | _ => .bad
theorem set_some {r : Env} {i j : Nat} {s s' : Slot} {t : Bool × Val} (h : (r.set i s)[j]? = some s') (e : s' = some t) : (j = i ∧ s = s') ∨ (j ≠ i ∧ r[j]? = some s') := by
  by_cases q : i = j
  · subst q
    left
    by_cases l : i < r.length
    · rw [List.getElem?_set_self l] at h; cases h; exact ⟨rfl, rfl⟩
    · rw [List.getElem?_eq_none (by simpa using l)] at h; cases h
  · rw [List.getElem?_set_ne q] at h
    exact .inr ⟨fun z => q z.symm, h⟩
section
variable {A : Act} {W : WX} {G H : Hp} {σ : L2.St} {r : Env} {i : Nat} {v : Val} {a : Addr}
/-- slot i is no longer held: frozen with G' (o its object), or gone -/
theorem Ok.drop (k : Ok A G H σ r) (h : r[i]? = some (some (true, v))) (hσ : σ[i]? = some (some (.ref a))) {o : HO} (s : Slot) (hs : ∀ w, s = some (false, w) → Rep A.w (upd G a o) w (.ref a)) (hn : ∀ w, s ≠ some (true, w)) : Ok A (upd G a o) (upd H a o) σ (r.set i s) := by
  obtain ⟨a', e, ro, n, l⟩ := k.ow i v h
  rw [hσ] at e; cases e
  have nr : ¬ Rt (r.set i s) σ a := fun ⟨j, w, h1, h2⟩ => by
    rcases set_some h1 rfl with ⟨e1, e2⟩ | ⟨e1, e2⟩
    · exact hn _ e2
    · exact e1 (k.sep j i w v a e2 h h2 hσ)
  refine ⟨k.ex0.trans (Le.new n), fun b h => ?_, fun b u h nl => ?_, k.sub.upd2, by rw [List.length_set]; exact k.len, fun j w h1 => ?_, fun j w h1 => ?_, fun p q v' w' b h1 h2 h3 h4 => ?_, k.fx⟩
  · by_cases e : b = a
    · subst e; rcases l with l | l
      · exact .inr (.inr l)
      · exact .inr (.inl l)
    · rw [upd_ne e] at h; exact k.gr0 b h
  · by_cases e : b = a
    · subst e
      rcases l with l | l
      · exact absurd l nl
      · rw [l] at h; cases h
    · rw [upd_ne e]; exact k.fr0 b u h nl
  · rcases set_some h1 rfl with ⟨e1, e2⟩ | ⟨e1, e2⟩
    · subst e1; exact ⟨_, hσ, hs _ e2⟩
    · obtain ⟨x, e, q⟩ := k.fz j w e2; exact ⟨x, e, q.mono (Le.new n)⟩
  · rcases set_some h1 rfl with ⟨e1, e2⟩ | ⟨e1, e2⟩
    · exact absurd e2 (hn _)
    · obtain ⟨b, e, q, nb, lb⟩ := k.ow j w e2
      have ne : b ≠ a := fun z => e1 (k.sep j i w v a e2 h (by rw [e, z]) hσ)
      exact ⟨b, e, q.mono (Le.new n) (fun o h => by rw [upd_ne ne]; exact h), by rw [upd_ne ne]; exact nb, lb⟩
  · rcases set_some h1 rfl with ⟨e1, e2⟩ | ⟨e1, e2⟩
    · exact absurd e2 (hn _)
    · rcases set_some h2 rfl with ⟨e3, e4⟩ | ⟨e3, e4⟩
      · exact absurd e4 (hn _)
      · exact k.sep p q v' w' b e2 e4 h3 h4
theorem step_drop (n : G a = none) (h : r[i]? = some (some (true, v))) (hσ : σ[i]? = some (some (.ref a))) {o : HO} (s : Slot) (hn : ∀ w, s ≠ some (true, w)) : Step σ r G H (r.set i s) (upd G a o) (upd H a o) :=
  ⟨Le.new n, fun b u hb nb => by
    have ne : b ≠ a := fun z => nb (by subst z; exact ⟨i, v, h, hσ⟩)
    rw [upd_ne ne]; exact hb, fun b hb hb' => by
    by_cases e : b = a
    · subst e; exact .inr ⟨i, v, h, hσ⟩
    · rw [upd_ne e] at hb'; exact absurd hb hb', fun b ⟨j, w, h1, h2⟩ => by
    rcases set_some h1 rfl with ⟨e1, e2⟩ | ⟨e1, e2⟩
    · exact absurd e2 (hn _)
    · exact ⟨j, w, e2, h2⟩⟩
end
theorem pe_cst {X : Cx} {A : Act} {W : WX} {e : Expr} {x : V} {v : Val} (h : PE X e (tC x)) (hv : ∀ G, Rep A.w G v x) : PE X e (tE A W (cst v)) :=
  PE.imp h fun σ H Q ⟨r, G, k, m⟩ => m x G H ⟨k, Step.refl, hv G, fun z => nomatch z⟩
theorem pe_var' {X : Cx} {A : Act} {W : WX} {e : Expr} {i : Nat} (h : PE X e (tVar i)) : PE X e (tE A W (var i)) := by
  refine PE.imp (PE.ghost h) fun σ H Q ⟨r, G, k, m⟩ => ?_
  rcases q : r[i]? with _ | _ | ⟨_ | _, v⟩
  · simp only [var, q] at m
  · simp only [var, q] at m
  · simp only [var, q] at m
    obtain ⟨x, e1, e2⟩ := k.fz i v q
    exact ⟨x, e1, .inl (m x G H ⟨k, Step.refl, e2, fun z => nomatch z⟩)⟩
  · simp only [var, q] at m
    obtain ⟨a, e1, ro, n, l⟩ := k.ow i v q
    refine ⟨.ref a, e1, ?_⟩
    have fin : ∀ o, Rep A.w (upd G a o) v (.ref a) → Q (.ref a) (upd H a o) := fun o rp =>
      m _ _ _ ⟨k.drop q e1 _ (fun w e => by cases e; exact rp) (fun w e => by cases e), step_drop n q e1 _ (fun w e => by cases e), rp, fun z => nomatch z⟩
    rcases freeze_root ro n with ⟨u, hu, rp⟩ | ⟨u, hu, mu, rp⟩
    · left
      have q := fin u rp
      rw [upd_self hu] at q
      exact q
    · exact .inr ⟨a, u, hu, mu, fun od => fin _ (rp od)⟩
theorem Ok.forget {A : Act} {G H : Hp} {σ : L2.St} {r : Env} (k : Ok A G H σ r) (i : Nat) : Ok A G H σ (r.set i none) := by
  have back : ∀ {j : Nat} {t : Bool × Val}, (r.set i none)[j]? = some (some t) → r[j]? = some (some t) ∧ j ≠ i := fun {j t} h => by
    rcases set_some h rfl with ⟨e1, e2⟩ | ⟨e1, e2⟩
    · cases e2
    · exact ⟨e2, e1⟩
  exact ⟨k.ex0, k.gr0, k.fr0, k.sub, by rw [List.length_set]; exact k.len, fun j v h => k.fz j v (back h).1, fun j v h => k.ow j v (back h).1, fun p q v w a h1 h2 => k.sep p q v w a (back h1).1 (back h2).1, k.fx⟩
theorem pe_mv {X : Cx} {A : Act} {W : WX} {e : Expr} {i : Nat} (h : PE X e (tVar i)) : PE X e (tE A W (mv i)) := by
  refine PE.imp h fun σ H Q ⟨r, G, k, m⟩ => ?_
  have rt : ∀ b, Rt (r.set i none) σ b → Rt r σ b := fun b ⟨j, w, h1, h2⟩ => by
    rcases set_some h1 rfl with ⟨e1, e2⟩ | ⟨e1, e2⟩
    · cases e2
    · exact ⟨j, w, e2, h2⟩
  have st : Step σ r G H (r.set i none) G H := ⟨Le.refl _, fun _ _ h _ => h, fun _ h h' => absurd h h', rt⟩
  rcases q : r[i]? with _ | _ | ⟨_ | _, v⟩
  · simp only [mv, q] at m
  · simp only [mv, q] at m
  · simp only [mv, q] at m
    obtain ⟨x, e1, e2⟩ := k.fz i v q
    exact ⟨x, e1, m x G H ⟨k.forget i, st, e2, fun z => nomatch z⟩⟩
  · simp only [mv, q] at m
    obtain ⟨a, e1, ro, n, l⟩ := k.ow i v q
    refine ⟨.ref a, e1, m _ G H ⟨k.forget i, st, ⟨a, rfl, ro, n, ?_, l⟩, fun _ b e => by cases e; exact .inr ⟨i, v, q, e1⟩⟩⟩
    rintro ⟨j, w, h1, h2⟩
    rcases set_some h1 rfl with ⟨e1', e2⟩ | ⟨e1', e2⟩
    · cases e2
    · exact e1' (k.sep j i w v a e2 q h2 e1)

/-! ### operands -/
def oV (f : EF) : OF := fun r => match f r with
  | .ok o v r' => .ok (.tmp o v) r'
  | .ex e r' => .ex e r'
  | .bad => .bad
def oS (i : Nat) : OF := fun r => match r[i]? with
  | some (some _) => .ok (.sl i) r
  | _ => .bad
def osNil : OsF := fun r => .ok [] r
def osCons (f : OF) (g : OsF) : OsF := fun r => match f r with
  | .ok h r1 => match g r1 with
    | .ok hs r2 => .ok (h :: hs) r2
    | .ex e r2 => .ex e r2
    | .bad => .bad
  | .ex e r1 => .ex e r1
  | .bad => .bad
section
variable {X : Cx} {A : Act} {W : WX} {e : Expr} {es : List Expr} {f : EF} {fo : OF} {g : OsF} {i : Nat}
theorem po_V (h : PE X e (tE A W f)) : PE X e (tO A W (oV f)) := PE.imp h fun σ H Q ⟨r, G, k, m⟩ => ⟨r, G, k, by
  unfold oV at m
  cases hf : f r with
  | bad => rw [hf] at m; exact m.elim
  | ex e r' => rw [hf] at m; exact m
  | ok o v r' => rw [hf] at m; exact fun x G1 H1 R => m x G1 H1 R.ok R.st R.tr⟩
theorem po_S (h : PE X e (tVar i)) : PE X e (tO A W (oS i)) := PE.imp h fun σ H Q ⟨r, G, k, m⟩ => by
  rcases q : r[i]? with _ | _ | ⟨o, v⟩
  · simp only [oS, q] at m
  · simp only [oS, q] at m
  · simp only [oS, q] at m
    obtain ⟨x, e1, e2⟩ := k.slot q
    exact ⟨x, e1, m x G H k Step.refl e1⟩
theorem pa_osNil : PA X [] (tOs A W osNil) := PA.imp pa_nil fun σ H Q ⟨r, G, k, m⟩ => m [] G H k Step.refl rfl
/-- the first operand, then the others -/
theorem os_cons {σ : L2.St} {H : Hp} {Q : List V → Hp → Prop} (h : tOs A W (osCons fo g) σ H Q) : tO A W fo σ H fun x H1 => tOs A W g σ H1 fun xs H2 => Q (x :: xs) H2 := by
  obtain ⟨r, G, k, m⟩ := h
  refine ⟨r, G, k, ?_⟩
  unfold osCons at m
  cases hf : fo r with
  | bad => rw [hf] at m; exact m.elim
  | ex e r' => rw [hf] at m; exact m
  | ok h r1 =>
    simp only [hf] at m
    intro x G1 H1 k1 st1 t1
    refine ⟨r1, G1, k1, ?_⟩
    cases hg : g r1 with
    | bad => simp only [hg] at m
    | ex e r2 => simp only [hg] at m ⊢; exact m.mono st1.ex
    | ok hs r2 =>
      simp only [hg] at m ⊢
      intro xs G2 H2 k2 st2 t2
      exact m (x :: xs) G2 H2 k2 (st1.trans st2) ⟨x, xs, rfl, t1.step st2, t2⟩
theorem pa_osCons (he : PE X e (tO A W fo)) (hr : PA X es (tOs A W g)) (hs : starEach (e :: es) X.env = (false, eval e X.env) :: starEach es X.env := by rfl) : PA X (e :: es) (tOs A W (osCons fo g)) :=
  PA.imp (pa_cons he hr hs) fun _ _ _ h => os_cons h
end

/-! ### primitive operations -/
def prim (P : List Val → Option (Bool × Val)) (f : OsF) : EF := fun r => match f r with
  | .ok hs r1 => match getAll r1 hs with
    | some vs => match P vs with
      | some (o, z) => .ok o z r1
      | none => .bad
    | none => .bad
  | .ex e r1 => .ex e r1
  | .bad => .bad
/-- what HandS asks of values, held by P -/
def ROk (w : Wd) (R : List V → Hp → VK → Prop) (P : List Val → Option (Bool × Val)) : Prop :=
  ∀ G H vs xs o z, Le G H → RReps w G H vs xs → P vs = some (o, z) → ∀ Q : VK, (∀ u G' H', Grow G H G' H' → NRep w G H G' H' o z u → Q u H') → R xs H Q
/-- HandS's reading that P says -/
def rOf (w : Wd) (P : List Val → Option (Bool × Val)) : List V → Hp → VK → Prop := fun xs H Q => ∃ G vs o z, Le G H ∧ RReps w G H vs xs ∧ P vs = some (o, z) ∧ ∀ u G' H', Grow G H G' H' → NRep w G H G' H' o z u → Q u H'
theorem rok_rOf (w : Wd) (P : List Val → Option (Bool × Val)) : ROk w (rOf w P) P := fun G H vs xs o z le rr hp Q q => ⟨G, vs, o, z, le, rr, hp, q⟩
def r2Of (w : Wd) (P : List Val → Option (Bool × Val)) : R2 := fun x y H Q => rOf w P [x, y] H Q
section
variable {X : Cx} {A : Act} {W : WX} {e : Expr} {es : List Expr} {g : OsF} {P : List Val → Option (Bool × Val)} {R : List V → Hp → VK → Prop}
theorem prim_os {σ : L2.St} {H : Hp} {Q : VK} (hR : ROk A.w R P) (h : tE A W (prim P g) σ H Q) : tOs A W g σ H fun xs H1 => R xs H1 Q := by
  obtain ⟨r, G, k, m⟩ := h
  refine ⟨r, G, k, ?_⟩
  unfold prim at m
  cases hf : g r with
  | bad => rw [hf] at m; exact m.elim
  | ex e r' => rw [hf] at m; exact m
  | ok hs r1 =>
    simp only [hf] at m
    intro xs G1 H1 k1 st1 t1
    cases hg : getAll r1 hs with
    | none => simp only [hg] at m
    | some vs =>
      simp only [hg] at m
      cases hp : P vs with
      | none => simp only [hp] at m
      | some oz =>
        obtain ⟨o, z⟩ := oz
        simp only [hp] at m
        refine hR G1 H1 vs xs o z k1.sub (t1.get k1 hg) hp Q fun u G2 H2 gr nr => ?_
        refine m u G2 H2 ⟨k1.grow gr, st1.trans gr.step, nr.trep k1, fun eo a ea => ?_⟩
        subst eo
        obtain ⟨b, e1, _, _, n⟩ := nr
        rw [ea] at e1; cases e1
        exact st1.fresh n
/-- two operands -/
theorem prim_os2 {fa fb : OF} {σ : L2.St} {H : Hp} {Q : VK} (h : tE A W (prim P (osCons fa (osCons fb osNil))) σ H Q) : tOp (r2Of A.w P) (tO A W fa) (tO A W fb) σ H Q := by
  have h2 := os_cons (prim_os (rok_rOf A.w P) h)
  obtain ⟨r, G, k, m⟩ := h2
  refine ⟨r, G, k, ?_⟩
  cases hf : fa r with
  | bad => rw [hf] at m; exact m.elim
  | ex e r' => rw [hf] at m; exact m
  | ok h r1 =>
    simp only [hf] at m ⊢
    intro x G1 H1 k1 st1 t1
    have h3 := os_cons (m x G1 H1 k1 st1 t1)
    obtain ⟨r', G', k', m'⟩ := h3
    refine ⟨r', G', k', ?_⟩
    cases hb : fb r' with
    | bad => rw [hb] at m'; exact m'.elim
    | ex e r' => rw [hb] at m'; exact m'
    | ok h r1 =>
      simp only [hb] at m' ⊢
      intro y G2 H2 k2 st2 t2
      obtain ⟨r4, G4, k4, m4⟩ := m' y G2 H2 k2 st2 t2
      exact m4 [] G4 H2 k4 Step.refl rfl
theorem prim_os1 {fa : OF} {σ : L2.St} {H : Hp} {Q : VK} (h : tE A W (prim P (osCons fa osNil)) σ H Q) : tO A W fa σ H fun x H1 => rOf A.w P [x] H1 Q := by
  have h2 := os_cons (prim_os (rok_rOf A.w P) h)
  obtain ⟨r, G, k, m⟩ := h2
  refine ⟨r, G, k, ?_⟩
  cases hf : fa r with
  | bad => rw [hf] at m; exact m.elim
  | ex e r' => rw [hf] at m; exact m
  | ok h r1 =>
    simp only [hf] at m ⊢
    intro x G1 H1 k1 st1 t1
    obtain ⟨r4, G4, k4, m4⟩ := m x G1 H1 k1 st1 t1
    exact m4 [] G4 H1 k4 Step.refl rfl
end
end M
/-! MP3: tests, truth, displays, calls, what a def promises. -/
namespace M
open PySem L2

/-! ### tests -/
def tst (f : EF) : BF := fun r => match f r with
  | .ok _ v r' => match v with
    | .bl b => .ok b r'
    | _ => .bad
  | .ex e r' => .ex e r'
  | .bad => .bad
def andB (f g : BF) : BF := fun r => match f r with
  | .ok true r' => g r'
  | x => x
def orB (f g : BF) : BF := fun r => match f r with
  | .ok false r' => g r'
  | x => x
def notB (f : BF) : BF := fun r => match f r with
  | .ok b r' => .ok (!b) r'
  | x => x
theorem trep_f {A : Act} {G H : Hp} {σ : L2.St} {r : Env} {v : Val} {x : V} (h : Rep A.w G v x) : TRep A G H σ r false v x := h
theorem trep_t {A : Act} {G H : Hp} {σ : L2.St} {r : Env} {v : Val} {a : Addr} (h : Root A.w G H v a) (n : G a = none) (nr : ¬ Rt r σ a) (l : A.L a ∨ A.H0 a = none) : TRep A G H σ r true v (.ref a) := ⟨a, rfl, h, n, nr, l⟩
theorem root_lst {w : Wd} {G H : Hp} {a : Addr} {ds : List Val} {xs : List V} (h : H a = some (.lst xs)) (q : Reps w G ds xs) : Root w G H (.lst ds) a := ⟨xs, h, q⟩
theorem nrep_f {w : Wd} {G H G' H' : Hp} {v : Val} {x : V} (h : Rep w G' v x) : NRep w G H G' H' false v x := h
theorem no_own {x : V} {H : Hp} {σ : L2.St} {r : Env} : false = true → ∀ a, x = .ref a → H a = none ∨ Rt r σ a := fun z => nomatch z
theorem bl_of {A : Act} {σ : L2.St} {H : Hp} {G : Hp} {r : Env} {o : Bool} {b : Bool} {u : V} (t : TRep A G H σ r o (.bl b) u) : u = .bl b := by
  cases o with
  | true => obtain ⟨a, _, ro, _⟩ := t; exact ro.elim
  | false => exact rep_bl.mp (show Rep A.w G (.bl b) u from t)
section
variable {X : Cx} {A : Act} {W : WX} {e : Expr} {f : EF} {fa fb : OF} {P : List Val → Option (Bool × Val)} {r2 : R2} {b c : BF} {σ : L2.St} {H : Hp} {Q : Bool → Hp → Prop}
theorem tst_of (h : tBo A W (tst f) σ H Q) : tE A W f σ H fun x H1 => ∃ k, x = .bl k ∧ Q k H1 := by
  obtain ⟨r, G, k, m⟩ := h
  refine ⟨r, G, k, ?_⟩
  unfold tst at m
  cases hf : f r with
  | bad => rw [hf] at m; exact m.elim
  | ex e r' => rw [hf] at m; exact m
  | ok o v r' =>
    simp only [hf] at m
    intro x G1 H1 R
    cases v with
    | bl b =>
      exact ⟨b, bl_of R.tr, m G1 H1 R.ok R.st⟩
    | _ => exact False.elim m
theorem pt_tst (h : PE X e (tE A W f)) (he : ∀ whole, isTrue e X.env whole = (do let v ← whole; standAt e.pos; holding [v] (truthy v)) := by intro _; rfl) : PT X e (tBo A W (tst f)) :=
  PT.imp (pt_val h he) fun _ _ _ q => tst_of q
theorem pt_cmp' {x y : Expr} {op : CmpOp} {pos : Pos} (ho : OpR X (compareOp op) (r2Of A.w P)) (ha : PE X x (tO A W fa)) (hb : PE X y (tO A W fb)) (hm : behindInMarks op y = false) :
    PT X (.Compare x [op] [y] pos) (tBo A W (tst (prim P (osCons fa (osCons fb osNil))))) :=
  PT.imp (pt_cmpR ho ha hb hm) fun _ _ _ q => prim_os2 (tst_of q)
theorem and_of {Q} (h : tBo A W (andB b c) σ H Q) : tAnd (tBo A W b) (tBo A W c) σ H Q := by
  obtain ⟨r, G, k, m⟩ := h
  refine ⟨r, G, k, ?_⟩
  unfold andB at m
  rcases hf : b r with ⟨_ | _, r1⟩ | _ | _
  · simp only [hf] at m ⊢
    intro G1 H1 k1 st1
    simp only [Bool.false_eq_true, if_false]
    exact m G1 H1 k1 st1
  · simp only [hf] at m ⊢
    intro G1 H1 k1 st1
    simp only [if_true]
    refine ⟨r1, G1, k1, ?_⟩
    cases hg : c r1 with
    | bad => simp only [hg] at m
    | ex e r' => simp only [hg] at m ⊢; exact m.mono st1.ex
    | ok d r' => simp only [hg] at m ⊢; exact fun G2 H2 k2 st2 => m G2 H2 k2 (st1.trans st2)
  · simp only [hf] at m ⊢; exact m
  · simp only [hf] at m
theorem or_of {Q} (h : tBo A W (orB b c) σ H Q) : tOr (tBo A W b) (tBo A W c) σ H Q := by
  obtain ⟨r, G, k, m⟩ := h
  refine ⟨r, G, k, ?_⟩
  unfold orB at m
  rcases hf : b r with ⟨_ | _, r1⟩ | _ | _
  · simp only [hf] at m ⊢
    intro G1 H1 k1 st1
    simp only [Bool.false_eq_true, if_false]
    refine ⟨r1, G1, k1, ?_⟩
    cases hg : c r1 with
    | bad => simp only [hg] at m
    | ex e r' => simp only [hg] at m ⊢; exact m.mono st1.ex
    | ok d r' => simp only [hg] at m ⊢; exact fun G2 H2 k2 st2 => m G2 H2 k2 (st1.trans st2)
  · simp only [hf] at m ⊢
    intro G1 H1 k1 st1
    simp only [if_true]
    exact m G1 H1 k1 st1
  · simp only [hf] at m ⊢; exact m
  · simp only [hf] at m
theorem not_of' {Q} (h : tBo A W (notB b) σ H Q) : tNot (tBo A W b) σ H Q := by
  obtain ⟨r, G, k, m⟩ := h
  refine ⟨r, G, k, ?_⟩
  unfold notB at m
  cases hf : b r with
  | ok d r1 => simp only [hf] at m ⊢; exact m
  | ex e r1 => simp only [hf] at m ⊢; exact m
  | bad => simp only [hf] at m
theorem pw_and' {x y : Expr} {rest : List Expr} {pos : Pos} (ha : PT X x (tBo A W b)) (hb : PW X (.BoolOp .And (y :: rest) pos) (tBo A W c)) : PW X (.BoolOp .And (x :: y :: rest) pos) (tBo A W (andB b c)) :=
  ⟨fun wh pins s σ H Q I h => (pw_and ha hb).run wh pins s σ H Q I (and_of h)⟩
theorem pw_or' {x y : Expr} {rest : List Expr} {pos : Pos} (ha : PT X x (tBo A W b)) (hb : PW X (.BoolOp .Or (y :: rest) pos) (tBo A W c)) : PW X (.BoolOp .Or (x :: y :: rest) pos) (tBo A W (orB b c)) :=
  ⟨fun wh pins s σ H Q I h => (pw_or ha hb).run wh pins s σ H Q I (or_of h)⟩
theorem pt_not' {x : Expr} {pos : Pos} (ha : PT X x (tBo A W b)) : PT X (.UnaryOp .Not x pos) (tBo A W (notB b)) := PT.imp (pt_not ha) fun _ _ _ q => not_of' q
end

/-! ### and, or, not, if as values -/
def andV (f g : EF) : EF := fun r => match f r with
  | .ok _ v r' => match v with
    | .bl true => g r'
    | .bl false => .ok false (.bl false) r'
    | _ => .bad
  | x => x
def orV (f g : EF) : EF := fun r => match f r with
  | .ok _ v r' => match v with
    | .bl true => .ok false (.bl true) r'
    | .bl false => g r'
    | _ => .bad
  | x => x
def notV (f : EF) : EF := fun r => match f r with
  | .ok _ v r' => match v with
    | .bl b => .ok false (.bl (!b)) r'
    | _ => .bad
  | x => x
def ite (c : BF) (f g : EF) : EF := fun r => match c r with
  | .ok true r' => f r'
  | .ok false r' => g r'
  | .ex e r' => .ex e r'
  | .bad => .bad
section
variable {X : Cx} {A : Act} {W : WX} {e : Expr} {f g : EF} {c : BF} {σ : L2.St} {H : Hp} {Q : VK} {x y : Expr} {rest : List Expr} {pos : Pos}
/-- an expression in a row behind a state that has gone on -/
theorem tE_step {r r1 : Env} {G G1 H1 : Hp} (k1 : Ok A G1 H1 σ r1) (st1 : Step σ r G H r1 G1 H1)
    (m : match g r1 with
      | .ok o v r' => ∀ x G' H', Res A σ r G H r' G' H' o v x → Q x H'
      | .ex e r' => ExP A W G σ e r'
      | .bad => False) : tE A W g σ H1 Q := by
  refine ⟨r1, G1, k1, ?_⟩
  cases hg : g r1 with
  | bad => simp only [hg] at m
  | ex e r' => simp only [hg] at m ⊢; exact m.mono st1.ex
  | ok o v r' =>
    simp only [hg] at m ⊢
    intro x G2 H2 R
    refine m x G2 H2 ⟨R.ok, st1.trans R.st, R.tr, fun eo a ea => ?_⟩
    rcases R.fr eo a ea with z | z
    · exact st1.fresh z
    · exact .inr (st1.rts a z)
theorem pe_andV (ha : PE X x (tE A W f)) (hb : PE X (.BoolOp .And (y :: rest) pos) (tE A W g)) : PE X (.BoolOp .And (x :: y :: rest) pos) (tE A W (andV f g)) := by
  refine PE.imp (pe_and ha hb) fun σ H Q ⟨r, G, k, m⟩ => ⟨r, G, k, ?_⟩
  unfold andV at m
  cases hf : f r with
  | bad => simp only [hf] at m
  | ex e r' => simp only [hf] at m ⊢; exact m
  | ok o v r' =>
    simp only [hf] at m ⊢
    intro u G1 H1 R
    cases v with
    | bl b =>
      refine ⟨b, bl_of R.tr, ?_⟩
      cases b with
      | true => simp only [if_true]; exact tE_step R.ok R.st m
      | false => simp only [Bool.false_eq_true, if_false]; exact m _ _ _ ⟨R.ok, R.st, trep_f (rep_bl.mpr rfl), no_own⟩
    | _ => exact False.elim m
theorem pe_orV (ha : PE X x (tE A W f)) (hb : PE X (.BoolOp .Or (y :: rest) pos) (tE A W g)) : PE X (.BoolOp .Or (x :: y :: rest) pos) (tE A W (orV f g)) := by
  refine PE.imp (pe_or ha hb) fun σ H Q ⟨r, G, k, m⟩ => ⟨r, G, k, ?_⟩
  unfold orV at m
  cases hf : f r with
  | bad => simp only [hf] at m
  | ex e r' => simp only [hf] at m ⊢; exact m
  | ok o v r' =>
    simp only [hf] at m ⊢
    intro u G1 H1 R
    cases v with
    | bl b =>
      refine ⟨b, bl_of R.tr, ?_⟩
      cases b with
      | true => simp only [if_true]; exact m _ _ _ ⟨R.ok, R.st, trep_f (rep_bl.mpr rfl), no_own⟩
      | false => simp only [Bool.false_eq_true, if_false]; exact tE_step R.ok R.st m
    | _ => exact False.elim m
theorem pe_notV (ha : PE X x (tE A W f)) : PE X (.UnaryOp .Not x pos) (tE A W (notV f)) := by
  refine PE.imp (pe_not ha) fun σ H Q ⟨r, G, k, m⟩ => ⟨r, G, k, ?_⟩
  unfold notV at m
  cases hf : f r with
  | bad => simp only [hf] at m
  | ex e r' => simp only [hf] at m ⊢; exact m
  | ok o v r' =>
    simp only [hf] at m ⊢
    intro u G1 H1 R
    cases v with
    | bl b => exact ⟨b, bl_of R.tr, m _ _ _ ⟨R.ok, R.st, trep_f (rep_bl.mpr rfl), no_own⟩⟩
    | _ => exact False.elim m
theorem pe_ite {t : Expr} (hc : PT X t (tBo A W c)) (ha : PE X x (tE A W f)) (hb : PE X y (tE A W g)) : PE X (.IfExp t x y pos) (tE A W (ite c f g)) := by
  refine PE.imp (pe_ifExp hc ha hb) fun σ H Q ⟨r, G, k, m⟩ => ⟨r, G, k, ?_⟩
  unfold ite at m
  rcases hf : c r with ⟨_ | _, r1⟩ | _ | _
  · simp only [hf] at m ⊢
    intro G1 H1 k1 st1
    simp only [Bool.false_eq_true, if_false]
    exact tE_step k1 st1 m
  · simp only [hf] at m ⊢
    intro G1 H1 k1 st1
    simp only [if_true]
    exact tE_step k1 st1 m
  · simp only [hf] at m ⊢; exact m
  · simp only [hf] at m
end

/-! ### values in a row, frozen -/
inductive AR where
  | ok (vs : List Val) (r : Env) | ex (e : Val) (r : Env) | bad
abbrev AF := Env → AR
def asNil : AF := fun r => .ok [] r
def asCons (f : EF) (g : AF) : AF := fun r => match frz f r with
  | .ok _ v r1 => match g r1 with
    | .ok vs r2 => .ok (v :: vs) r2
    | .ex e r2 => .ex e r2
    | .bad => .bad
  | .ex e r1 => .ex e r1
  | .bad => .bad
def tAs (A : Act) (W : WX) (f : AF) : TA := fun σ H Q => ∃ r G, Ok A G H σ r ∧ match f r with
  | .ok vs r' => ∀ xs G' H', Ok A G' H' σ r' → Step σ r G H r' G' H' → Reps A.w G' vs xs → Q xs H'
  | .ex e r' => ExP A W G σ e r'
  | .bad => False
def tup (g : AF) : EF := fun r => match g r with
  | .ok vs r1 => if vs.length ≤ 100000 then .ok false (.tup vs) r1 else .bad
  | .ex e r1 => .ex e r1
  | .bad => .bad
def lst (g : AF) : EF := fun r => match g r with
  | .ok vs r1 => if vs.length ≤ 100000 then .ok true (.lst vs) r1 else .bad
  | .ex e r1 => .ex e r1
  | .bad => .bad
theorem line_of {n : Nat} (h : n ≤ 100000) : n ≤ sizeLine := Nat.le_trans h (by decide)
theorem frz_false {f : EF} {r r' : Env} {o : Bool} {v : Val} (h : frz f r = .ok o v r') : o = false := by
  unfold frz at h
  split at h <;> first | (cases h; rfl) | cases h
section
variable {X : Cx} {A : Act} {W : WX} {e : Expr} {es : List Expr} {f : EF} {g : AF} {pos : Pos}
theorem pa_asNil : PA X [] (tAs A W asNil) := PA.imp pa_nil fun σ H Q ⟨r, G, k, m⟩ => m [] G H k Step.refl (reps_nil.mpr rfl)
theorem pa_asCons (he : PE X e (tE A W f)) (hr : PA X es (tAs A W g)) (hs : starEach (e :: es) X.env = (false, eval e X.env) :: starEach es X.env := by rfl) : PA X (e :: es) (tAs A W (asCons f g)) := by
  refine PA.imp (pa_cons (pe_frz he) hr hs) fun σ H Q ⟨r, G, k, m⟩ => ⟨r, G, k, ?_⟩
  unfold asCons at m
  cases hf : frz f r with
  | bad => simp only [hf] at m
  | ex e r' => simp only [hf] at m ⊢; exact m
  | ok o v r1 =>
    have eo := frz_false hf
    subst eo
    simp only [hf] at m ⊢
    intro x G1 H1 R1
    refine ⟨r1, G1, R1.ok, ?_⟩
    cases hg : g r1 with
    | bad => simp only [hg] at m
    | ex e r2 => simp only [hg] at m ⊢; exact m.mono R1.st.ex
    | ok vs r2 =>
      simp only [hg] at m ⊢
      intro xs G2 H2 k2 st2 rs
      exact m (x :: xs) G2 H2 k2 (R1.st.trans st2) (reps_cons.mpr ⟨x, xs, rfl, Rep.mono st2.ex R1.tr, rs⟩)
theorem pe_tup' {k1} (h : PA X es (tAs A W g)) : PE X (.Tuple es k1 pos) (tE A W (tup g)) := by
  refine PE.imp (pe_tup h) fun σ H Q ⟨r, G, k, m⟩ => ⟨r, G, k, ?_⟩
  unfold tup at m
  cases hf : g r with
  | bad => simp only [hf] at m
  | ex e r' => simp only [hf] at m ⊢; exact m
  | ok vs r1 =>
    simp only [hf] at m ⊢
    intro xs G1 H1 k1 st1 rs
    by_cases hl : vs.length ≤ 100000
    · simp only [if_pos hl] at m
      refine ⟨by rw [← reps_length rs]; exact line_of hl, fun p hp => ?_⟩
      have gr := Grow.laidG (o := .tup xs) k1.sub hp
      exact m _ _ _ ⟨k1.grow gr, st1.trans gr.step, trep_f (rep_tup.mpr ⟨p, xs, rfl, SqT.of upd_same, rs.mono gr.g⟩), no_own⟩
    · simp only [if_neg hl] at m
theorem pe_lst' (h : PA X es (tAs A W g)) : PE X (.List es pos) (tE A W (lst g)) := by
  refine PE.imp (pe_lst h) fun σ H Q ⟨r, G, k, m⟩ => ⟨r, G, k, ?_⟩
  unfold lst at m
  cases hf : g r with
  | bad => simp only [hf] at m
  | ex e r' => simp only [hf] at m ⊢; exact m
  | ok vs r1 =>
    simp only [hf] at m ⊢
    intro xs G1 H1 k1 st1 rs
    by_cases hl : vs.length ≤ 100000
    · simp only [if_pos hl] at m
      refine ⟨by rw [← reps_length rs]; exact line_of hl, fun p hp => ?_⟩
      have gr := Grow.laidH (o := .lst xs) k1.sub hp
      refine m _ _ _ ⟨k1.grow gr, st1.trans gr.step, trep_t (root_lst upd_same rs) (k1.sub.back hp) (k1.notRt hp) (k1.fresh hp), fun _ a e => ?_⟩
      cases e
      exact st1.fresh hp
    · simp only [if_neg hl] at m
end

/-! ### calls -/
inductive GR where
  | ok (o : Bool) (v : Val) (out : Option (Bool × Val)) | ex (e : Val) (out : Option (Bool × Val)) | bad
abbrev GF := List (Bool × Val) → GR
/-- the arguments at a call: frozen values, one slot's container at most -/
def ARel (w : Wd) (G H : Hp) : List (Bool × Val) → List V → Prop
  | [], xs => xs = []
  | (false, v) :: as, xs => ∃ y ys, xs = y :: ys ∧ Rep w G v y ∧ ARel w G H as ys
  | (true, v) :: as, xs => ∃ a ys, xs = .ref a :: ys ∧ Root w G H v a ∧ G a = none ∧ ARel w G H as ys
def Lent (as : List (Bool × Val)) (xs : List V) (a : Addr) : Prop := ∃ (i : Nat) (v : Val), as[i]? = some (true, v) ∧ xs[i]? = some (.ref a)
def lents (as : List (Bool × Val)) : Nat := (as.filter (·.1)).length
def OutRel (w : Wd) (G H : Hp) (a : Addr) : Option (Bool × Val) → Prop
  | some (true, v) => Root w G H v a ∧ G a = none
  | some (false, v) => Rep w G v (.ref a)
  | none => False
/-- behind a call -/
structure Post (w : Wd) (G H : Hp) (as : List (Bool × Val)) (xs : List V) (out : Option (Bool × Val)) (G' H' : Hp) : Prop where
  g : Le G G'
  s : Le G' H'
  gr : ∀ a, G a = none → G' a ≠ none → H a = none ∨ Lent as xs a
  kp : ∀ a o, H a = some o → ¬ Lent as xs a → H' a = some o
  out : ∀ a, Lent as xs a → OutRel w G' H' a out
/-- a def's promise: called with as it is worth g as -/
def spF (w : Wd) (n : Nat) (g : GF) : Sp := fun vs H Q E => ∃ G as, vs.length = n ∧ Le G H ∧ ARel w G H as vs ∧ lents as ≤ 1 ∧ match g as with
  | .ok o z out => ∀ u G' H', Post w G H as vs out G' H' → NRep w G H G' H' o z u → Q u H'
  | .ex e out => match e with
    | .exc c fs => ∀ G' H' C d, Post w G H as vs out G' H' → w.CM c = some C → XdOk w G' H' d fs → E (.ref C) d H'
    | _ => False
  | .bad => False
/-- the arguments as the slots are: temporaries are frozen -/
def lend (r : Env) : List Hd → Option (List (Bool × Val))
  | [] => some []
  | .tmp false v :: hs => match lend r hs with
    | some as => some ((false, v) :: as)
    | none => none
  | .tmp true _ :: _ => none
  | .sl i :: hs => match r[i]? with
    | some (some t) => match lend r hs with
      | some as => some (t :: as)
      | none => none
    | _ => none
/-- the slot that is lent -/
def lentIx (r : Env) : List Hd → Option Nat
  | [] => none
  | .sl i :: hs => match r[i]? with
    | some (some (true, _)) => some i
    | _ => lentIx r hs
  | _ :: hs => lentIx r hs
/-- the slots behind a call -/
def back (r : Env) (ix : Option Nat) (out : Option (Bool × Val)) : Env := match ix with
  | some i => r.set i out
  | none => r
def callG (n : Nat) (g : GF) (f : OsF) : EF := fun r => match f r with
  | .ok hs r1 => match lend r1 hs with
    | some as => if lents as ≤ 1 ∧ as.length = n then match g as with
      | .ok o z out => .ok o z (back r1 (lentIx r1 hs) out)
      | .ex e out => .ex e (back r1 (lentIx r1 hs) out)
      | .bad => .bad
      else .bad
    | none => .bad
  | .ex e r1 => .ex e r1
  | .bad => .bad

theorem lents_zero : ∀ {as : List (Bool × Val)}, lents as = 0 → ∀ {p : Nat} {v : Val}, as[p]? ≠ some (true, v)
  | [], _, p, v => by simp
  | (b, w) :: as, h, p, v => by
    cases b with
    | true => simp [lents] at h
    | false =>
      have h' : lents as = 0 := by simpa [lents] using h
      cases p with
      | zero => simp
      | succ p => simpa using lents_zero h' (p := p) (v := v)
section
variable {A : Act} {W : WX} {G H G' H' : Hp} {σ : L2.St} {r : Env}
theorem lend_rel (k : Ok A G H σ r) : ∀ {hs : List Hd} {xs : List V} {as : List (Bool × Val)}, lend r hs = some as → HReps A G H σ r hs xs → ARel A.w G H as xs
  | [], _, as, e, h => by simp only [lend, Option.some.injEq] at e; subst e; exact h
  | .tmp false v :: hs, _, as, e, ⟨y, ys, e1, a, b⟩ => by
    simp only [lend] at e
    split at e
    · rename_i as' q
      cases e
      exact ⟨y, ys, e1, a, lend_rel k q b⟩
    · cases e
  | .tmp true v :: hs, _, as, e, _ => by simp only [lend] at e; cases e
  | .sl i :: hs, _, as, e, ⟨y, ys, e1, a, b⟩ => by
    simp only [lend] at e
    split at e
    · rename_i t q
      split at e
      · rename_i as' q2
        cases e
        obtain ⟨o, v⟩ := t
        have a' : σ[i]? = some (some y) := a
        cases o with
        | false =>
          obtain ⟨x, e2, rp⟩ := k.fz i v q
          rw [a'] at e2; cases e2
          exact ⟨y, ys, e1, rp, lend_rel k q2 b⟩
        | true =>
          obtain ⟨c, e2, ro, n, _⟩ := k.ow i v q
          rw [a'] at e2; cases e2
          exact ⟨c, ys, e1, ro, n, lend_rel k q2 b⟩
      · cases e
    · cases e
theorem lend_none : ∀ {hs : List Hd} {as : List (Bool × Val)}, lend r hs = some as → lents as = 0 → lentIx r hs = none
  | [], _, _, _ => rfl
  | .tmp false v :: hs, as, e, h => by
    simp only [lend] at e
    split at e
    · rename_i as' q
      cases e
      exact lend_none (hs := hs) q (by simpa [lents] using h)
    · cases e
  | .tmp true v :: hs, as, e, _ => by simp only [lend] at e; cases e
  | .sl i :: hs, as, e, h => by
    simp only [lend] at e
    split at e
    · rename_i t q
      split at e
      · rename_i as' q2
        cases e
        obtain ⟨o, v⟩ := t
        cases o with
        | false => simp only [lentIx, q]; exact lend_none q2 (by simpa [lents] using h)
        | true => simp [lents] at h
      · cases e
    · cases e
theorem lend_at : ∀ {hs : List Hd} {as : List (Bool × Val)} {xs : List V} {p : Nat} {v : Val} {x : V}, lend r hs = some as → lents as ≤ 1 → HReps A G H σ r hs xs → as[p]? = some (true, v) → xs[p]? = some x →
    ∃ i, lentIx r hs = some i ∧ r[i]? = some (some (true, v)) ∧ σ[i]? = some (some x)
  | [], as, _, p, v, x, e, _, _, h, _ => by simp only [lend, Option.some.injEq] at e; subst e; simp at h
  | .tmp false w :: hs, as, _, p, v, x, e, hl, ⟨y, ys, e1, a, b⟩, h, hx => by
    simp only [lend] at e
    split at e
    · rename_i as' q
      cases e; subst e1
      cases p with
      | zero => simp at h
      | succ p =>
        obtain ⟨i, h1, h2, h3⟩ := lend_at q (by simpa [lents] using hl) b (p := p) (by simpa using h) (by simpa using hx)
        exact ⟨i, h1, h2, h3⟩
    · cases e
  | .tmp true v :: hs, as, _, _, _, _, e, _, _, _, _ => by simp only [lend] at e; cases e
  | .sl i :: hs, as, _, p, v, x, e, hl, ⟨y, ys, e1, a, b⟩, h, hx => by
    simp only [lend] at e
    split at e
    · rename_i t q
      split at e
      · rename_i as' q2
        cases e; subst e1
        obtain ⟨o, w⟩ := t
        cases o with
        | false =>
          cases p with
          | zero => simp at h
          | succ p =>
            obtain ⟨i', h1, h2, h3⟩ := lend_at q2 (by simpa [lents] using hl) b (p := p) (by simpa using h) (by simpa using hx)
            exact ⟨i', by simp only [lentIx, q]; exact h1, h2, h3⟩
        | true =>
          have z : lents as' = 0 := by
            have e : lents ((true, w) :: as') = lents as' + 1 := by simp [lents]
            omega
          cases p with
          | zero =>
            simp at h hx; subst h; subst hx
            exact ⟨i, by simp only [lentIx, q], q, a⟩
          | succ p => exact absurd (by simpa using h) (lents_zero z (p := p) (v := v))
      · cases e
    · cases e
/-- a heap behind a call that was lent nothing -/
theorem Ok.post0 (k : Ok A G H σ r) (g : Le G G') (s : Le G' H') (gr : ∀ a, G a = none → G' a ≠ none → H a = none) (kp : Le H H') : Ok A G' H' σ r := k.grow ⟨g, kp, s, gr⟩
/-- .. that was lent slot i's container -/
theorem Ok.post1 {i : Nat} {v : Val} {a : Addr} {out : Slot} (k : Ok A G H σ r) (hi : r[i]? = some (some (true, v))) (hσ : σ[i]? = some (some (.ref a))) (g : Le G G') (s : Le G' H') (gr : ∀ b, G b = none → G' b ≠ none → H b = none ∨ b = a)
    (kp : ∀ b o, H b = some o → b ≠ a → H' b = some o) (out' : OutRel A.w G' H' a out) : Ok A G' H' σ (r.set i out) := by
  obtain ⟨a', e, ro, n, l⟩ := k.ow i v hi
  rw [hσ] at e; cases e
  have il : i < r.length := (List.getElem?_eq_some_iff.mp hi).1
  refine ⟨k.ex0.trans g, fun b h => ?_, fun b o h nl => ?_, s, by rw [List.length_set]; exact k.len, fun j w h1 => ?_, fun j w h1 => ?_, fun p q v' w' b h1 h2 h3 h4 => ?_, k.fx⟩
  · by_cases q : G b = none
    · rcases gr b q h with z | z
      · rcases k.fresh z with z | z
        · exact .inr (.inr z)
        · exact .inr (.inl z)
      · subst z; rcases l with l | l
        · exact .inr (.inr l)
        · exact .inr (.inl l)
    · exact k.gr0 b q
  · refine kp b o (k.fr0 b o h nl) fun z => ?_
    subst z
    rcases l with l | l
    · exact nl l
    · rw [l] at h; cases h
  · rcases set_some h1 rfl with ⟨e1, e2⟩ | ⟨e1, e2⟩
    · subst e1; subst e2; exact ⟨_, hσ, out'⟩
    · obtain ⟨x, e, q⟩ := k.fz j w e2; exact ⟨x, e, q.mono g⟩
  · rcases set_some h1 rfl with ⟨e1, e2⟩ | ⟨e1, e2⟩
    · subst e1; subst e2; exact ⟨a, hσ, out'.1, out'.2, l⟩
    · obtain ⟨b, e, q, nb, lb⟩ := k.ow j w e2
      have ne : b ≠ a := fun z => e1 (k.sep j i w v a e2 hi (by rw [e, z]) hσ)
      refine ⟨b, e, q.mono g (fun o h => kp b o h ne), ?_, lb⟩
      cases z : G' b with
      | none => rfl
      | some o =>
        obtain ⟨u, hu, _⟩ := q.has
        rcases gr b nb (by rw [z]; simp) with y | y
        · rw [hu] at y; cases y
        · exact absurd y ne
  · have own : ∀ {j : Nat} {w : Val}, (r.set i out)[j]? = some (some (true, w)) → ∃ w', r[j]? = some (some (true, w')) := fun {j w} h => by
      rcases set_some h rfl with ⟨e1, e2⟩ | ⟨e1, e2⟩
      · subst e1; exact ⟨v, hi⟩
      · exact ⟨w, e2⟩
    obtain ⟨w1, o1⟩ := own h1
    obtain ⟨w2, o2⟩ := own h2
    exact k.sep p q w1 w2 b o1 o2 h3 h4
theorem rt_set {i : Nat} {v : Val} {out : Slot} (hi : r[i]? = some (some (true, v))) {b : Addr} (h : Rt (r.set i out) σ b) : Rt r σ b := by
  obtain ⟨j, w, h1, h2⟩ := h
  rcases set_some h1 rfl with ⟨e1, e2⟩ | ⟨e1, e2⟩
  · subst e1; exact ⟨j, v, hi, h2⟩
  · exact ⟨j, w, e2, h2⟩
/-- the state behind a call -/
theorem call_state {hs : List Hd} {as : List (Bool × Val)} {xs : List V} {out : Option (Bool × Val)} (k : Ok A G H σ r) (hl : lend r hs = some as) (h1 : lents as ≤ 1) (hr : HReps A G H σ r hs xs) (p : Post A.w G H as xs out G' H') :
    Ok A G' H' σ (back r (lentIx r hs) out) ∧ Step σ r G H (back r (lentIx r hs) out) G' H' := by
  by_cases z : lents as = 0
  · have nl : ∀ a, ¬ Lent as xs a := fun a ⟨q, v, h, _⟩ => lents_zero z h
    rw [lend_none hl z]
    have kp : Le H H' := fun a o h => p.kp a o h (nl a)
    have gr : ∀ a, G a = none → G' a ≠ none → H a = none := fun a h h' => (p.gr a h h').resolve_right (nl a)
    exact ⟨k.post0 p.g p.s gr kp, p.g, fun a o h _ => kp a o h, fun a h h' => .inl (gr a h h'), fun a h => h⟩
  · -- one is lent
    have ⟨q, v, hq⟩ : ∃ (q : Nat) (v : Val), as[q]? = some (true, v) := by
      have : ∀ {as : List (Bool × Val)}, lents as ≠ 0 → ∃ (q : Nat) (v : Val), as[q]? = some (true, v) := by
        intro as
        induction as with
        | nil => intro h; exact absurd rfl h
        | cons t as ih =>
          intro h
          obtain ⟨b, w⟩ := t
          cases b with
          | true => exact ⟨0, w, rfl⟩
          | false =>
            obtain ⟨q, v, e⟩ := ih (by simpa [lents] using h)
            exact ⟨q + 1, v, by simpa using e⟩
      exact this z
    have lx : ∃ x, xs[q]? = some x := by
      have : ∀ {as : List (Bool × Val)} {xs : List V} {q : Nat} {t : Bool × Val}, ARel A.w G H as xs → as[q]? = some t → ∃ x, xs[q]? = some x := by
        intro as
        induction as with
        | nil => intro xs q t _ h; simp at h
        | cons u as ih =>
          intro xs q t h e
          obtain ⟨b, w⟩ := u
          cases b with
          | true =>
            obtain ⟨a, ys, e1, _, _, rest⟩ := h
            subst e1
            cases q with
            | zero => exact ⟨_, rfl⟩
            | succ q => obtain ⟨x, hx⟩ := ih rest (q := q) (by simpa using e); exact ⟨x, by simpa using hx⟩
          | false =>
            obtain ⟨a, ys, e1, _, rest⟩ := h
            subst e1
            cases q with
            | zero => exact ⟨_, rfl⟩
            | succ q => obtain ⟨x, hx⟩ := ih rest (q := q) (by simpa using e); exact ⟨x, by simpa using hx⟩
      exact this (lend_rel k hl hr) hq
    obtain ⟨x, hx⟩ := lx
    obtain ⟨i, e1, e2, e3⟩ := lend_at hl h1 hr hq hx
    obtain ⟨a, e4, ro, n, l⟩ := k.ow i v e2
    rw [e3] at e4
    cases e4
    have only : ∀ b, Lent as xs b → b = a := fun b ⟨q', v', h, h'⟩ => by
      obtain ⟨i', f1, f2, f3⟩ := lend_at hl h1 hr h h'
      rw [e1] at f1; cases f1
      rw [e3] at f3; cases f3; rfl
    have here : Lent as xs a := ⟨q, v, hq, hx⟩
    rw [e1]
    have gr : ∀ b, G b = none → G' b ≠ none → H b = none ∨ b = a := fun b h h' => (p.gr b h h').imp id (only b)
    have kp : ∀ b o, H b = some o → b ≠ a → H' b = some o := fun b o h ne => p.kp b o h fun z => ne (only b z)
    refine ⟨k.post1 e2 e3 p.g p.s gr kp (p.out a here), p.g, fun b o h nb => kp b o h fun z => ?_, fun b h h' => (gr b h h').imp id fun z => ?_, fun b h => rt_set e2 h⟩
    · subst z; exact nb ⟨i, v, e2, e3⟩
    · subst z; exact ⟨i, v, e2, e3⟩
theorem call_of {n : Nat} {g : GF} {f : OsF} {Q : VK} (h : tE A W (callG n g f) σ H Q) : tOs A W f σ H fun vs H1 => spF A.w n g vs H1 Q (fun cls d H2 => W cls d σ H2) := by
  obtain ⟨r, G, k, m⟩ := h
  refine ⟨r, G, k, ?_⟩
  unfold callG at m
  cases hf : f r with
  | bad => rw [hf] at m; exact m.elim
  | ex e r' => rw [hf] at m; exact m
  | ok hs r1 =>
    simp only [hf] at m
    intro xs G1 H1 k1 st1 t1
    cases hl : lend r1 hs with
    | none => simp only [hl] at m
    | some as =>
      simp only [hl] at m
      by_cases hc : lents as ≤ 1 ∧ as.length = n
      · simp only [if_pos hc] at m
        have ar := lend_rel k1 hl t1
        have len : ∀ {as : List (Bool × Val)} {xs : List V}, ARel A.w G1 H1 as xs → xs.length = as.length := by
          intro as
          induction as with
          | nil => intro xs h; have h' : xs = [] := h; subst h'; rfl
          | cons t as ih =>
            intro xs h
            obtain ⟨b, w⟩ := t
            cases b with
            | true => obtain ⟨a, ys, e1, _, _, rest⟩ := h; subst e1; simp [ih rest]
            | false => obtain ⟨a, ys, e1, _, rest⟩ := h; subst e1; simp [ih rest]
        refine ⟨G1, as, by rw [len ar, hc.2], k1.sub, ar, hc.1, ?_⟩
        cases hg : g as with
        | bad => simp only [hg] at m
        | ok o z out =>
          simp only [hg] at m ⊢
          intro u G' H' p nr
          obtain ⟨k2, st2⟩ := call_state k1 hl hc.1 t1 p
          refine m u G' H' ⟨k2, st1.trans st2, ?_, fun eo a ea => ?_⟩
          · cases o with
            | true =>
              obtain ⟨a, e, ro, n, n2⟩ := nr
              exact ⟨a, e, ro, n, fun z => k1.notRt n2 (st2.rts a z), k1.fresh n2⟩
            | false => exact nr
          · subst eo
            obtain ⟨b, e, _, _, n2⟩ := nr
            rw [ea] at e; cases e
            exact st1.fresh n2
        | ex e out =>
          simp only [hg] at m ⊢
          cases e with
          | exc c fs =>
            intro G' H' C d p hC hd
            obtain ⟨k2, st2⟩ := call_state k1 hl hc.1 t1 p
            exact m G' H' C d k2 (st1.trans st2).ex hC hd
          | _ => exact m
      · simp only [if_neg hc] at m
end
end M
/-! MPG: defs that are called where no repr is under way (the stack of guards is empty). -/
namespace M
open PySem L2

structure RoomG (k : Nat) (A : Around) : Prop where
  room : Room k A
  gs : A.guards = some []
theorem RoomG.le {j k : Nat} {A : Around} (r : RoomG k A) (h : j ≤ k) : RoomG j A := ⟨r.room.mono h, r.gs⟩
theorem RoomG.deep {k : Nat} {A : Around} (r : RoomG (k + 1) A) (env : PySem.Env) : RoomG k (A.deeper env) := ⟨r.room.deeper env, r.gs⟩
/-- the def at f keeps the promise sp -/
structure FnG (P : Program) (w : World) (K : PySem.W.Frag) (mg : Str → Option Value) (base : Heap) (CX : CXT) (k : Nat) (f : Addr) (fd : FuncData) (ps : List Str) (sp : Sp) : Prop where
  len : ∀ vs H Q E, sp vs H Q E → vs.length = ps.length
  go : ∀ (A : Around) (outer : List PySem.Env) (s : Shared) (H : Hp) (args : Args) (us : List Value) (vs : List V) (Q : VK) (E : XK),
    RoomG k A → Env0 P w K mg base A outer s H → BindsTo s fd args (ps.zip us) → Vals vs us → sp vs H Q E → codeAny (model P w) A (.call (.ref f) args) (CR CX outer P w H s Q E) s
section
variable {P : Program} {w : World} {K : PySem.W.Frag} {mg : Str → Option Value} {base : Heap} {CX : CXT} {k : Nat}
theorem FnG.up {j : Nat} {f : Addr} {fd : FuncData} {ps : List Str} {sp : Sp} (F : FnG P w K mg base CX j f fd ps sp) (h : j ≤ k) : FnG P w K mg base CX k f fd ps sp :=
  ⟨F.len, fun A o s H args us vs Q E hr => F.go A o s H args us vs Q E (hr.le h)⟩
theorem FnG.weak {f : Addr} {fd : FuncData} {ps : List Str} {sp sp' : Sp} (F : FnG P w K mg base CX k f fd ps sp) (h : ∀ vs H Q E, sp' vs H Q E → sp vs H Q E) : FnG P w K mg base CX k f fd ps sp' :=
  ⟨fun vs H Q E q => F.len vs H Q E (h _ _ _ _ q), fun A o s H args us vs Q E hr e b r q => F.go A o s H args us vs Q E hr e b r (h _ _ _ _ q)⟩
/-- from the body -/
theorem fnG_of {f : Addr} {name qual : Str} {params : Arguments} {body : List Stmt} {scope : Scope} {dV kV doc pm cdv ct oc : Value} {an od : Option Addr} {osl : Array (Option Value)} {N ps : List Str} {sp : Sp}
    (lk : K.lookup f = some ⟨oc, od, .func (PySem.W.fnOf name qual params body scope dV kV doc pm an cdv ct), osl⟩) (hcd : PySem.W.codeIn K cdv qual = true) (S : FnScope N ps scope) (len : ∀ vs H Q E, sp vs H Q E → vs.length = ps.length)
    (hb : ∀ (A : Around) (outer : List PySem.Env) (s : Shared) (H : Hp) (vs : List V) (Q : VK) (E : XK), RoomG k (A.deeper (PyProof.Rows.envOfC qual scope s.heap.objs.size f cdv)) → sp vs H Q E →
      ∃ t, PSs (cxOf CX P w K mg base N qual scope f cdv A outer s H E) body t ∧ t { nx := fun _ H' => Q .non H', rt := Q } (L2.start N vs) H) :
    FnG P w K mg base CX (k + 1) f (PySem.W.fnOf name qual params body scope dV kV doc pm an cdv ct) ps sp := by
  constructor
  case len => exact len
  case go =>
    intro A outer s H args us vs Q E hr e0 hbind rv hsp
    have inK : K.In s.heap := e0.mod.kin.keeps fun b o e => (e0.bs b o e).1
    have obj := inK _ _ lk
    obtain ⟨t, ht, q0⟩ := hb A outer s H vs Q E (hr.deep _) hsp
    apply codeAny_call_function hr.room.depth obj rfl S.co S.gen rfl (PySem.W.codeRec_of inK hcd)
    apply hbind
    apply wpAny_newFunctionEnv_cells S.kind
    · rintro ⟨n, v⟩ hy
      rcases S.par n (List.of_mem_zip hy).1 with z | z
      · left; exact z
      · right; exact ⟨z, PySem.W.cellsFrom_some _ _ _ (.inl z)⟩
    · intro env he s1 x
      subst he
      constructor
      · exact (e0.mod.nolimit.keeps fun b o e => (e0.bs b o e).1).keeps x.toInCall.keep
      · apply codeAny_func
        have I0 := inv_start (CX := CX) (P := P) (w := w) (K := K) (mg := mg) (base := base) (E := E) S hr.room.hd e0 (len _ _ _ _ hsp) rv x
        apply wpAny_mono (ht.run [] s1 (L2.start N vs) H _ I0 q0)
        · intro fl s' z
          cases fl with
          | next => obtain ⟨σ', H', J, y⟩ := z; exact ⟨.non, H', J.os, J.bare, J.base, J.hok, rfl, y⟩
          | ret u => obtain ⟨v, σ', H', J, r', y⟩ := z; exact ⟨v, H', J.os, J.bare, J.base, J.hok, r', y⟩
          | brk => obtain ⟨_, _, _, y⟩ := z; exact y.elim
          | cont => obtain ⟨_, _, _, y⟩ := z; exact y.elim
        · intro e s' z; exact z
end
section
variable {X : Cx} {CX : CXT} {k : Nat} {f : Addr} {fd : FuncData} {ps : List Str} {sp : Sp} {pins : List (Addr × Obj)} {σ : L2.St} {H : Hp} {s : Shared} {Q : VK} {E : XK}
/-- what is left behind a callee's run -/
theorem ran (I : Inv X pins σ H s) (hx : ∀ e s', CX X.stack H s E e s' → X.xe e s') {args : Args} (h : codeAny (model X.prog X.w) X.A (.call (.ref f) args) (CR CX X.stack X.prog X.w H s Q E) s) :
    wpAny (model X.prog X.w) X.A (call (.ref f) args.pos args.kw) (EP X pins σ Q) X.xe s := by
  apply wpAny_call
  apply codeAny_mono h
  intro r s' z
  match r, z with
  | .error e, z => exact hx e s' z
  | .ok (.ret u), z => exact I.after z
  | .ok .next, z => exact z.elim
  | .ok .brk, z => exact z.elim
  | .ok .cont, z => exact z.elim
theorem run_G (F : FnG X.prog X.w X.K X.mg X.base CX k f fd ps sp) (hr : RoomG k X.A) (hx : ∀ e s', CX X.stack H s E e s' → X.xe e s') (I : Inv X pins σ H s) {args : Args} {us : List Value} {vs : List V} (hb : BindsTo s fd args (ps.zip us)) (r : Vals vs us)
    (h : sp vs H Q E) : wpAny (model X.prog X.w) X.A (call (.ref f) args.pos args.kw) (EP X pins σ Q) X.xe s := ran I hx (F.go X.A X.stack s H args us vs Q E hr I.env0 hb r h)
end
end M
/-! MP4: a def's body, statements, loops, comprehensions. -/
namespace M
open PySem L2

/-! ### a def -/
def ownIx : List (Bool × Val) → Option Nat
  | [] => none
  | (true, _) :: _ => some 0
  | (false, _) :: as => (ownIx as).map (· + 1)
def outOf (as : List (Bool × Val)) (r : Env) : Option (Option (Bool × Val)) := match ownIx as with
  | none => some none
  | some i => match r[i]? with
    | some (some t) => some (some t)
    | _ => none
def runDef (ios : List Nat) (np N : Nat) (body : SF) : GF := fun as =>
  if as.length = np ∧ (∀ i ∈ ownIx as, i ∈ ios) then
    match body (as.map some ++ List.replicate (N - np) none) with
    | .nx r => match outOf as r with
      | some out => .ok false .non out
      | none => .bad
    | .rt o v r => match outOf as r with
      | some out => if o = true ∧ out.map (·.1) = some false then .bad else .ok o v out
      | none => .bad
    | .ex e r => match outOf as r with
      | some out => .ex e out
      | none => .bad
    | _ => .bad
  else .bad
theorem ownIx_none : ∀ {as : List (Bool × Val)}, ownIx as = none → ∀ {p : Nat} {v : Val}, as[p]? ≠ some (true, v)
  | [], _, p, v => by simp
  | (true, w) :: as, h, _, _ => by simp [ownIx] at h
  | (false, w) :: as, h, p, v => by
    have h' : ownIx as = none := by simpa [ownIx] using h
    cases p with
    | zero => simp
    | succ p => simpa using ownIx_none h' (p := p) (v := v)
theorem ownIx_some : ∀ {as : List (Bool × Val)} {i : Nat}, ownIx as = some i → ∃ v, as[i]? = some (true, v)
  | [], i, h => by simp [ownIx] at h
  | (true, w) :: as, i, h => by simp [ownIx] at h; subst h; exact ⟨w, rfl⟩
  | (false, w) :: as, i, h => by
    simp only [ownIx, Option.map_eq_some_iff] at h
    obtain ⟨j, h, e⟩ := h
    subst e
    obtain ⟨v, e⟩ := ownIx_some h
    exact ⟨v, by simpa using e⟩
theorem own_one : ∀ {as : List (Bool × Val)} {p q : Nat} {v w : Val}, lents as ≤ 1 → as[p]? = some (true, v) → as[q]? = some (true, w) → p = q
  | [], _, _, _, _, _, h, _ => by simp at h
  | (true, u) :: as, p, q, v, w, h, h1, h2 => by
    have z : lents as = 0 := by
      have e : lents ((true, u) :: as) = lents as + 1 := by simp [lents]
      omega
    cases p with
    | zero =>
      cases q with
      | zero => rfl
      | succ q => exact absurd (by simpa using h2) (lents_zero z (p := q) (v := w))
    | succ p => exact absurd (by simpa using h1) (lents_zero z (p := p) (v := v))
  | (false, u) :: as, p, q, v, w, h, h1, h2 => by
    cases p with
    | zero => simp at h1
    | succ p =>
      cases q with
      | zero => simp at h2
      | succ q =>
        have := own_one (as := as) (p := p) (q := q) (by simpa [lents] using h) (by simpa using h1) (by simpa using h2)
        omega
theorem arel_get {w : Wd} {G H : Hp} : ∀ {as : List (Bool × Val)} {xs : List V} {p : Nat} {o : Bool} {v : Val}, ARel w G H as xs → as[p]? = some (o, v) → ∃ x, xs[p]? = some x ∧ match o with
    | true => ∃ a, x = .ref a ∧ Root w G H v a ∧ G a = none
    | false => Rep w G v x
  | [], _, _, _, _, _, h => by simp at h
  | (true, u) :: as, _, p, o, v, ⟨a, ys, e, r, n, t⟩, h => by
    subst e
    cases p with
    | zero => simp at h; obtain ⟨h1, h2⟩ := h; subst h1; subst h2; exact ⟨_, rfl, a, rfl, r, n⟩
    | succ p => obtain ⟨x, e, q⟩ := arel_get t (p := p) (by simpa using h); exact ⟨x, by simpa using e, q⟩
  | (false, u) :: as, _, p, o, v, ⟨a, ys, e, r, t⟩, h => by
    subst e
    cases p with
    | zero => simp at h; obtain ⟨h1, h2⟩ := h; subst h1; subst h2; exact ⟨_, rfl, r⟩
    | succ p => obtain ⟨x, e, q⟩ := arel_get t (p := p) (by simpa using h); exact ⟨x, by simpa using e, q⟩
theorem arel_length {w : Wd} {G H : Hp} : ∀ {as : List (Bool × Val)} {xs : List V}, ARel w G H as xs → xs.length = as.length
  | [], _, h => by have h' : _ = [] := h; subst h'; rfl
  | (true, u) :: as, _, ⟨a, ys, e, _, _, t⟩ => by subst e; simp [arel_length t]
  | (false, u) :: as, _, ⟨a, ys, e, _, t⟩ => by subst e; simp [arel_length t]
/-- the act of a call -/
def actOf (w : Wd) (G H : Hp) (as : List (Bool × Val)) (vs : List V) : Act := ⟨w, G, H, Lent as vs, (ownIx as).toList, fun i => vs[i]?⟩
theorem start_get {N : List Str} {vs : List V} {i : Nat} {x : V} (h : vs[i]? = some x) : (L2.start N vs)[i]? = some (some x) := by
  unfold L2.start
  have hl : i < vs.length := (List.getElem?_eq_some_iff.mp h).1
  rw [List.getElem?_append_left (by simpa using hl), List.getElem?_map, h]; rfl
theorem env0_get {as : List (Bool × Val)} {k i : Nat} {t : Bool × Val} (h : (as.map some ++ List.replicate k (none : Slot))[i]? = some (some t)) : as[i]? = some t := by
  by_cases hl : i < as.length
  · rw [List.getElem?_append_left (by simpa using hl), List.getElem?_map] at h
    cases e : as[i]? with
    | none => rw [e] at h; cases h
    | some u => rw [e] at h; cases h; rfl
  · rw [List.getElem?_append_right (by simpa using hl), List.getElem?_replicate] at h
    split at h <;> cases h
theorem act_ok {w : Wd} {G H : Hp} {as : List (Bool × Val)} {vs : List V} {N : List Str} (g : Le G H) (ar : ARel w G H as vs) (l1 : lents as ≤ 1) (hl : vs.length ≤ N.length) : Ok (actOf w G H as vs) G H (L2.start N vs) (as.map some ++ List.replicate (N.length - as.length) none) where
  ex0 := Le.refl _
  gr0 := fun a h => .inl h
  fr0 := fun a o h _ => h
  sub := g
  len := by
    have := arel_length ar
    unfold L2.start
    simp
    omega
  fz := fun i v h => by
    obtain ⟨x, e, q⟩ := arel_get ar (env0_get h)
    exact ⟨x, start_get e, q⟩
  ow := fun i v h => by
    have h' := env0_get h
    obtain ⟨x, e, a, e2, q, n⟩ := arel_get ar h'
    subst e2
    exact ⟨a, start_get e, q, n, .inl ⟨i, v, h', e⟩⟩
  sep := fun i j v w a h1 h2 _ _ => own_one l1 (env0_get h1) (env0_get h2)
  fx := fun i hi => by
    have hi' : ownIx as = some i := by simpa [actOf] using hi
    obtain ⟨v, e⟩ := ownIx_some hi'
    obtain ⟨x, e1, _⟩ := arel_get ar e
    show (L2.start N vs)[i]? = some vs[i]?
    rw [e1]; exact start_get e1
theorem act_post {w : Wd} {G H G' H' : Hp} {as : List (Bool × Val)} {vs : List V} {σ : L2.St} {r : Env} {out : Option (Bool × Val)} (ar : ARel w G H as vs) (l1 : lents as ≤ 1) (k : Ok (actOf w G H as vs) G' H' σ r) (ho : outOf as r = some out) : Post w G H as vs out G' H' where
  g := k.ex0
  s := k.sub
  gr := fun a h h' => (k.gr0 a h').elim (fun z => absurd h z) id
  kp := k.fr0
  out := fun a ⟨i, v, h1, h2⟩ => by
    have hi : ownIx as = some i := by
      cases e : ownIx as with
      | none => exact absurd h1 (ownIx_none e)
      | some j =>
        obtain ⟨w', e'⟩ := ownIx_some e
        rw [own_one l1 e' h1]
    have fx : σ[i]? = some vs[i]? := k.fx i (by simp [actOf, hi])
    rw [h2] at fx
    unfold outOf at ho
    rw [hi] at ho
    simp only at ho
    split at ho
    · rename_i t q
      cases ho
      obtain ⟨b, u⟩ := t
      cases b with
      | true =>
        obtain ⟨c, e, ro, n, _⟩ := k.ow i u q
        rw [fx] at e; cases e
        exact ⟨ro, n⟩
      | false =>
        obtain ⟨x, e, rp⟩ := k.fz i u q
        rw [fx] at e; cases e
        exact rp
    · cases ho

/-- what a body's rule says, whatever it runs over -/
structure SV (X : Cx) (w : Wd) (ios : List Nat) (sts : List Stmt) (f : SF) : Prop where
  run : ∀ (A : Act) (W : WX), A.w = w → (∀ i ∈ A.io, i ∈ ios) → Takes X W → PSs X sts (tSt A W f)
/-- what a def's promise says behind its run -/
def spPost (w : Wd) (G H : Hp) (as : List (Bool × Val)) (vs : List V) (Q : VK) (E : XK) : GR → Prop
  | .ok o z out => ∀ u G' H', Post w G H as vs out G' H' → NRep w G H G' H' o z u → Q u H'
  | .ex e out => match e with
    | .exc c fs => ∀ G' H' C d, Post w G H as vs out G' H' → w.CM c = some C → XdOk w G' H' d fs → E (.ref C) d H'
    | _ => False
  | .bad => False
/-- a body, from what its slots are at the start -/
theorem body_ok {X : Cx} {wd : Wd} {ios : List Nat} {sts : List Stmt} {body : SF} {N : List Str} {np : Nat} {G H : Hp} {as : List (Bool × Val)} {vs : List V} {Q : VK} {E : XK} (sv : SV X wd ios sts body) (tk : Takes X (fun cls d _ H => E cls d H))
    (hN : np ≤ N.length) (hlen : vs.length = np) (hle : Le G H) (ar : ARel wd G H as vs) (l1 : lents as ≤ 1) (hm : spPost wd G H as vs Q E (runDef ios np N.length body as)) :
    ∃ t, PSs X sts t ∧ t { nx := fun _ H' => Q .non H', rt := Q } (L2.start N vs) H := by
  unfold runDef at hm
  by_cases hc : as.length = np ∧ (∀ i ∈ ownIx as, i ∈ ios)
  case neg => rw [if_neg hc] at hm; exact hm.elim
  rw [if_pos hc] at hm
  refine ⟨_, sv.run (actOf wd G H as vs) (fun cls d _ H => E cls d H) rfl (fun i hi => hc.2 i (by simpa [actOf] using hi)) tk, _, G, act_ok (N := N) hle ar l1 (by omega), ?_⟩
  rw [← hc.1] at hm
  generalize hB : body (as.map some ++ List.replicate (N.length - as.length) none) = res at hm ⊢
  cases res with
  | bad => exact hm.elim
  | bk r => exact hm.elim
  | ct r => exact hm.elim
  | nx r =>
    intro σ' G' H' k' _
    cases ho : outOf as r with
    | none => simp only [ho, spPost] at hm
    | some out =>
      simp only [ho, spPost] at hm
      exact hm .non G' H' (act_post ar l1 k' ho) (nrep_f (rep_non.mpr rfl))
  | rt o v r =>
    intro u σ' G' H' k' _ tr
    cases ho : outOf as r with
    | none => simp only [ho, spPost] at hm
    | some out =>
      simp only [ho, spPost] at hm
      by_cases hx : o = true ∧ out.map (·.1) = some false
      case pos => simp only [if_pos hx, spPost] at hm
      simp only [if_neg hx, spPost] at hm
      refine hm u G' H' (act_post ar l1 k' ho) ?_
      cases o with
      | false => exact tr
      | true =>
        obtain ⟨b, e, ro, n, nr, l⟩ := tr
        refine ⟨b, e, ro, n, ?_⟩
        rcases l with l | l
        · exfalso
          obtain ⟨i, v', h1, h2⟩ := l
          have hi : ownIx as = some i := by
            cases e : ownIx as with
            | none => exact absurd h1 (ownIx_none e)
            | some j =>
              obtain ⟨w', e'⟩ := ownIx_some e
              rw [own_one l1 e' h1]
          have fx : σ'[i]? = some vs[i]? := k'.fx i (by simp [actOf, hi])
          rw [h2] at fx
          unfold outOf at ho
          rw [hi] at ho
          simp only at ho
          split at ho
          · rename_i t q
            cases ho
            obtain ⟨c, u'⟩ := t
            cases c with
            | true => exact nr ⟨i, u', q, fx⟩
            | false => exact hx ⟨rfl, rfl⟩
          · cases ho
        · exact l
  | ex e r =>
    intro σ'
    cases ho : outOf as r with
    | none => simp only [ho, spPost] at hm
    | some out =>
      simp only [ho, spPost] at hm
      cases e with
      | exc c fs => exact fun G' H' C d k' _ hC hd => hm G' H' C d (act_post ar l1 k' ho) hC hd
      | _ => exact hm
section
variable {P : Program} {w : World} {K : PySem.W.Frag} {mg : Str → Option Value} {base : Heap}
theorem def_ok {x qual : Str} {st : Stmt} {f : Addr} {fd : FuncData} {N ps : List Str} {k : Nat} {wd : Wd} {ios : List Nat} {body : SF} {g : GF} (F : Fun K x qual st f fd) (S : FnScope N ps (defScope st))
    (hb : ∀ (cdv : Value) (A : Around) (outer : List PySem.Env) (s : Shared) (H : Hp) (E : XK), RoomG k (A.deeper (PyProof.Rows.envOfC qual (defScope st) s.heap.objs.size f cdv)) →
      SV (cxOf (L2.CX P w) P w K mg base N qual (defScope st) f cdv A outer s H E) wd ios (defBody st) body)
    (hg : ∀ as, g as = .bad ∨ g as = runDef ios ps.length N.length body as) : FnG P w K mg base (L2.CX P w) (k + 1) f fd ps (spF wd ps.length g) := by
  obtain ⟨oc, od, kV, doc, pm, an, cdv, ct, osl, rfl, lk, hcd⟩ := F.ex
  refine fnG_of lk hcd S (fun vs H Q E ⟨G, as, h, _⟩ => h) fun A outer s H vs Q E hr ⟨G, as, hlen, hle, ar, l1, hm⟩ => ?_
  have h1 : g as = runDef ios ps.length N.length body as := (hg as).resolve_left fun z => by rw [z] at hm; exact hm
  rw [h1] at hm
  have hN : ps.length ≤ N.length := by
    have := congrArg List.length S.pre
    rw [List.length_take] at this; omega
  refine body_ok (hb cdv A outer s H E hr) (takes_of rfl rfl rfl rfl) hN hlen hle ar l1 ?_
  revert hm
  cases runDef ios ps.length N.length body as <;> exact id
end
end M
/-! MP5: statements. -/
namespace M
open PySem L2

def seq (f g : SF) : SF := fun r => match f r with
  | .nx r' => g r'
  | x => x
def skip : SF := fun r => .nx r
def brk : SF := fun r => .bk r
def cont : SF := fun r => .ct r
/-- never run -/
def never : SF := fun _ => .bad
def asg (i : Nat) (f : EF) : SF := fun r => match f r with
  | .ok o v r' => .nx (r'.set i (some (o, v)))
  | .ex e r' => .ex e r'
  | .bad => .bad
def drop (f : EF) : SF := fun r => match f r with
  | .ok _ _ r' => .nx r'
  | .ex e r' => .ex e r'
  | .bad => .bad
def ret (f : EF) : SF := fun r => match f r with
  | .ok o v r' => .rt o v r'
  | .ex e r' => .ex e r'
  | .bad => .bad
def ifS (c : BF) (f g : SF) : SF := fun r => match c r with
  | .ok true r' => f r'
  | .ok false r' => g r'
  | .ex e r' => .ex e r'
  | .bad => .bad
def whl (c : BF) (b : SF) : Nat → SF
  | 0 => fun _ => .bad
  | n + 1 => fun r => match c r with
    | .ok true r1 => match b r1 with
      | .nx r2 => whl c b n r2
      | .ct r2 => whl c b n r2
      | .bk r2 => .nx r2
      | x => x
    | .ok false r1 => .nx r1
    | .ex e r1 => .ex e r1
    | .bad => .bad
/-- x op= e, ints -/
def aug (i : Nat) (P : Int → Int → Int) (f : EF) : SF := fun r => match r[i]? with
  | some (some (false, .int a)) => match f r with
    | .ok _ v r' => match v with
      | .int b => .nx (r'.set i (some (false, .int (P a b))))
      | _ => .bad
    | .ex e r' => .ex e r'
    | .bad => .bad
  | _ => .bad

section
variable {X : Cx} {A : Act} {W : WX} {e : Expr} {f g : SF} {fe : EF} {c : BF} {st : Stmt} {sts rest : List Stmt} {pos : Pos} {D : Ends} {σ : L2.St} {H : Hp}
theorem tSt_iff : tSt A W f D σ H ↔ ∃ r G, Ok A G H σ r ∧ Fin A W G D (f r) := Iff.rfl
theorem tSt_mk {r : Env} {G : Hp} (k : Ok A G H σ r) (m : Fin A W G D (f r)) : tSt A W f D σ H := tSt_iff.mpr ⟨r, G, k, m⟩
theorem seq_of (h : tSt A W (seq f g) D σ H) : tSeq (tSt A W f) (tSt A W g) D σ H := by
  obtain ⟨r, G, k, m⟩ := tSt_iff.mp h
  refine tSt_mk (D := { D with nx := tSt A W g D }) k ?_
  unfold seq at m
  cases hf : f r with
  | nx r' => rw [hf] at m; exact fun σ' G' H' k' l => tSt_mk k' (m.mono l)
  | _ => rw [hf] at m; exact m
theorem pss_nil' : PSs X [] (tSt A W skip) := PSs.imp pss_nil fun D σ H ⟨r, G, k, m⟩ => m σ G H k (Le.refl _)
theorem pss_cons' (h1 : PS X st (tSt A W f)) (h2 : PSs X rest (tSt A W g)) : PSs X (st :: rest) (tSt A W (seq f g)) := PSs.imp (pss_cons h1 h2) fun _ _ _ h => seq_of h
theorem pss_one' (h1 : PS X st (tSt A W f)) : PSs X [st] (tSt A W f) := pss_one h1
theorem ps_pass' : PS X (.Pass pos) (tSt A W skip) := PS.imp ps_pass fun D σ H ⟨r, G, k, m⟩ => m σ G H k (Le.refl _)
theorem ps_brk' : PS X (.Break pos) (tSt A W brk) := PS.imp ps_break fun D σ H ⟨r, G, k, m⟩ => m σ G H k (Le.refl _)
theorem ps_cont' : PS X (.Continue pos) (tSt A W cont) := PS.imp ps_continue fun D σ H ⟨r, G, k, m⟩ => m σ G H k (Le.refl _)
theorem ps_never' : PS X st (tSt A W never) := PS.imp ps_never fun D σ H ⟨r, G, k, m⟩ => m
theorem pss_never' : PSs X sts (tSt A W never) := PSs.imp pss_never fun D σ H ⟨r, G, k, m⟩ => m
theorem ps_doc' {x j} {pos' : Pos} : PS X (.Expr (.Constant (.str x) j pos) pos') (tSt A W skip) := PS.imp ps_doc fun D σ H ⟨r, G, k, m⟩ => m σ G H k (Le.refl _)
theorem ps_drop' (he : PE X e (tE A W fe)) (hs : swapsWith e none pos.line X.env = pure false := by rfl) : PS X (.Expr e pos) (tSt A W (drop fe)) :=
  PS.imp (ps_expr he hs) fun D σ H ⟨r, G, k, m⟩ => ⟨r, G, k, by
    unfold drop at m
    cases hf : fe r with
    | bad => rw [hf] at m; exact m.elim
    | ex e r' => simp only [hf] at m ⊢; exact m σ
    | ok o v r' => simp only [hf] at m ⊢; exact fun x G' H' R => m σ G' H' R.ok R.st.ex⟩
theorem ps_ret' (he : PE X e (tE A W fe)) : PS X (.Return (some e) pos) (tSt A W (ret fe)) :=
  PS.imp (ps_ret he) fun D σ H ⟨r, G, k, m⟩ => ⟨r, G, k, by
    unfold ret at m
    cases hf : fe r with
    | bad => rw [hf] at m; exact m.elim
    | ex e r' => simp only [hf] at m ⊢; exact m σ
    | ok o v r' => simp only [hf] at m ⊢; exact fun x G' H' R => m x σ G' H' R.ok R.st.ex R.tr⟩
theorem ps_retN' : PS X (.Return none pos) (tSt A W (ret (cst .non))) := PS.imp ps_retN fun D σ H ⟨r, G, k, m⟩ => m .non σ G H k (Le.refl _) (trep_f (rep_non.mpr rfl))
/-- the value goes to slot i -/
theorem Ok.store {G : Hp} {r : Env} {o : Bool} {v : Val} {x : V} {i : Nat} (k : Ok A G H σ r) (t : TRep A G H σ r o v x) (hi : i ∉ A.io) : Ok A G H (σ.set i (some x)) (r.set i (some (o, v))) := by
  have σ_at : ∀ {j : Nat} {s : Option V}, (σ.set i (some x))[j]? = some s → (j = i ∧ s = some x) ∨ (j ≠ i ∧ σ[j]? = some s) := fun {j s} h => by
    by_cases q : i = j
    · subst q
      by_cases l : i < σ.length
      · rw [List.getElem?_set_self l] at h; cases h; exact .inl ⟨rfl, rfl⟩
      · rw [List.getElem?_eq_none (by simpa using l)] at h; cases h
    · rw [List.getElem?_set_ne q] at h
      exact .inr ⟨fun z => q z.symm, h⟩
  have there : ∀ {j : Nat}, j ≠ i → (σ.set i (some x))[j]? = σ[j]? := fun {j} h => List.getElem?_set_ne (Ne.symm h)
  have here : ∀ {t : Bool × Val}, (r.set i (some (o, v)))[i]? = some (some t) → (σ.set i (some x))[i]? = some (some x) := fun {t} h => by
    refine List.getElem?_set_self ?_
    have := (List.getElem?_eq_some_iff.mp h).1
    rw [List.length_set] at this
    rw [k.len]; exact this
  refine ⟨k.ex0, k.gr0, k.fr0, k.sub, by rw [List.length_set, List.length_set]; exact k.len, fun j w h => ?_, fun j w h => ?_, fun p q v' w' b h1 h2 h3 h4 => ?_, fun j hj => ?_⟩
  · rcases set_some h rfl with ⟨e1, e2⟩ | ⟨e1, e2⟩
    · subst e1; cases e2; exact ⟨x, here h, t⟩
    · obtain ⟨y, e, q⟩ := k.fz j w e2; exact ⟨y, by rw [there e1]; exact e, q⟩
  · rcases set_some h rfl with ⟨e1, e2⟩ | ⟨e1, e2⟩
    · subst e1; cases e2
      obtain ⟨a, e, ro, n, _, l⟩ := t
      subst e
      exact ⟨a, here h, ro, n, l⟩
    · obtain ⟨b, e, q, nb, lb⟩ := k.ow j w e2; exact ⟨b, by rw [there e1]; exact e, q, nb, lb⟩
  · have nr : ∀ {j : Nat} {w : Val} {b : Addr}, j ≠ i → r[j]? = some (some (true, w)) → σ[j]? = some (some (.ref b)) → o = true → x = .ref b → False := fun {j w b} hj h h' eo ex => by
      subst eo; subst ex
      obtain ⟨a, e, _, _, nr, _⟩ := t
      cases e
      exact nr ⟨j, w, h, h'⟩
    rcases set_some h1 rfl with ⟨e1, e2⟩ | ⟨e1, e2⟩
    · cases e2
      rcases set_some h2 rfl with ⟨e3, e4⟩ | ⟨e3, e4⟩
      · rw [e1, e3]
      · exfalso
        rw [there e3] at h4
        subst e1
        rw [here h1] at h3
        cases h3
        exact nr e3 e4 h4 rfl rfl
    · rcases set_some h2 rfl with ⟨e3, e4⟩ | ⟨e3, e4⟩
      · exfalso
        cases e4
        rw [there e1] at h3
        subst e3
        rw [here h2] at h4
        cases h4
        exact nr e1 e2 h3 rfl rfl
      · rw [there e1] at h3; rw [there e3] at h4
        exact k.sep p q v' w' b e2 e4 h3 h4
  · have : j ≠ i := fun z => hi (z ▸ hj)
    rw [there this]; exact k.fx j hj
theorem ps_asg' {i : Nat} {x : Str} {pos' : Pos} (hN : X.N.Nodup) (hi : X.N[i]? = some x) (hx : Loc X.env.scope x) (he : PE X e (tE A W fe)) (hio : i ∉ A.io) (hs : swapsWith e (some (.Name x pos')) pos.line X.env = pure false := by rfl)
    (hf : X.fn x = true ∨ X.env.scope.names.lookup x = some .local := by first | exact .inl rfl | exact .inr rfl | assumption) : PS X (.Assign [.Name x pos'] e pos) (tSt A W (asg i fe)) :=
  PS.imp (ps_set hN hi hx he hs hf) fun D σ H ⟨r, G, k, m⟩ => ⟨r, G, k, by
    unfold asg at m
    cases hf : fe r with
    | bad => rw [hf] at m; exact m.elim
    | ex e r' => simp only [hf] at m ⊢; exact m σ
    | ok o v r' => simp only [hf] at m ⊢; exact fun x G' H' R => m _ G' H' (R.ok.store R.tr hio) R.st.ex⟩
theorem ps_if' {t : Expr} {a b : List Stmt} (hc : PT X t (tBo A W c)) (ha : PSs X a (tSt A W f)) (hb : PSs X b (tSt A W g)) : PS X (.If t a b pos) (tSt A W (ifS c f g)) :=
  PS.imp (ps_if hc ha hb) fun D σ H h => by
    obtain ⟨r, G, k, m⟩ := tSt_iff.mp h
    refine ⟨r, G, k, ?_⟩
    unfold ifS at m
    rcases hf : c r with ⟨_ | _, r1⟩ | _ | _
    · simp only [hf] at m ⊢
      intro G1 H1 k1 st1
      simp only [Bool.false_eq_true, if_false]
      exact tSt_mk k1 (m.mono st1.ex)
    · simp only [hf] at m ⊢
      intro G1 H1 k1 st1
      simp only [if_true]
      exact tSt_mk k1 (m.mono st1.ex)
    · simp only [hf] at m ⊢; exact m σ
    · simp only [hf] at m; exact m.elim
theorem ps_whl' {t : Expr} {body : List Stmt} (hp : PassesOwn (model X.prog X.w) X.A X.env X.xe) (hc : PT X t (tBo A W c)) (hb : PSs X body (tSt A W f)) (n : Nat) : PS X (.While t body [] pos) (tSt A W (whl c f n)) := by
  refine PS.imp (ps_while hp hc hb) fun D σ H h => ⟨fun m σ H => tSt A W (whl c f m) D σ H, ⟨n, h⟩, fun m σ H h => ?_⟩
  obtain ⟨r, G, k, q⟩ := tSt_iff.mp h
  refine ⟨r, G, k, ?_⟩
  cases m with
  | zero => exact q.elim
  | succ m =>
    rw [whl] at q
    rcases hf : c r with ⟨_ | _, r1⟩ | _ | _
    · simp only [hf] at q ⊢
      intro G1 H1 k1 st1
      simp only [Bool.false_eq_true, if_false]
      exact q _ _ _ k1 st1.ex
    · simp only [hf] at q ⊢
      intro G1 H1 k1 st1
      simp only [if_true]
      refine ⟨tSt A W (whl c f m) D, fun σ' H' h' => ⟨m, Nat.lt_succ_self m, h'⟩, ?_⟩
      refine tSt_mk k1 (Fin.mono st1.ex ?_)
      cases hg : f r1 with
      | nx r2 => simp only [hg] at q; exact fun σ' G' H' k' l => tSt_mk k' (q.mono l)
      | ct r2 => simp only [hg] at q; exact fun σ' G' H' k' l => tSt_mk k' (q.mono l)
      | bk r2 => simp only [hg] at q; exact q
      | rt o v r2 => simp only [hg] at q; exact q
      | ex e r2 => simp only [hg] at q; exact q
      | bad => simp only [hg] at q; exact q
    · simp only [hf] at q ⊢; exact q σ
    · simp only [hf] at q; exact q.elim
theorem ps_aug' {i : Nat} {x : Str} {op : Operator} {P : Int → Int → Int} {pos' : Pos} (hN : X.N.Nodup) (hi : X.N[i]? = some x) (hx : Loc X.env.scope x) (he : PE X e (tE A W fe)) (ho : PIp X op (ipI P)) (hio : i ∉ A.io)
    (hf : X.fn x = true ∨ X.env.scope.names.lookup x = some .local := by first | exact .inl rfl | exact .inr rfl | assumption) : PS X (.AugAssign (.Name x pos') op e pos) (tSt A W (aug i P fe)) :=
  PS.imp (ps_aug hN hi hx he ho hf) fun D σ H h => by
    obtain ⟨r, G, k, m⟩ := tSt_iff.mp h
    rcases q : r[i]? with _ | _ | ⟨_ | _, v⟩
    · simp only [aug, q] at m; exact m.elim
    · simp only [aug, q] at m; exact m.elim
    · cases v with
      | int a =>
        simp only [aug, q] at m
        obtain ⟨y, e1, e2⟩ := k.fz i _ q
        rw [rep_int] at e2; subst e2
        refine ⟨.int a, e1, r, G, k, ?_⟩
        cases hf : fe r with
        | bad => simp only [hf] at m; exact m.elim
        | ex e r' => simp only [hf] at m ⊢; exact m σ
        | ok o v r' =>
          simp only [hf] at m ⊢
          intro y G' H' R
          cases v with
          | int b =>
            have ey : y = .int b := by
              have t := R.tr
              cases o with
              | true => obtain ⟨_, _, ro, _⟩ := t; exact ro.elim
              | false => exact rep_int.mp (show Rep A.w G' (.int b) y from t)
            exact ⟨a, b, rfl, ey, m _ G' H' (R.ok.store (o := false) (v := .int (P a b)) (x := .int (P a b)) (trep_f (rep_int.mpr rfl)) hio) R.st.ex⟩
          | _ => exact m.elim
      | _ => simp only [aug, q] at m; exact m.elim
    · cases v <;> (simp only [aug, q] at m; exact m.elim)
end
end M
/-! MP6: what is walked, targets, for, list comprehensions. -/
namespace M
open PySem L2

/-! ### what is walked -/
inductive IR where
  | ok (vs : List Val) (r : Env) | ex (e : Val) (r : Env) | bad
abbrev IF := Env → IR
/-- the walk J yields the items, whatever happens to what is owned -/
structure ItOk (w : Wd) (J : It) (G0 : Hp) (vs : List Val) : Prop where
  go : ∀ G H i, Le G0 G → Le G H → i < vs.length → J.go i H
  stop : ∀ G H i, Le G0 G → Le G H → vs.length ≤ i → J.stop i H
  yld : ∀ G H i v x H', Le G0 G → Le G H → vs[i]? = some v → J.yld i H x H' → ∃ G', Grow G H G' H' ∧ Rep w G' v x
def tIt (A : Act) (W : WX) (f : IF) : TI := fun σ H R => ∃ r G, Ok A G H σ r ∧ match f r with
  | .ok vs r' => ∀ J G' H', Ok A G' H' σ r' → Step σ r G H r' G' H' → ItOk A.w J G' vs → R J H'
  | .ex e r' => ExP A W G σ e r'
  | .bad => False
theorem PI.imp {X : Cx} {tg e : Expr} {t t' : TI} (h : PI X tg e t) (hi : ∀ σ H R, t' σ H R → t σ H R) : PI X tg e t' := ⟨fun pins s σ H R I q => h.run pins s σ H R I (hi _ _ _ q)⟩

/-! ### targets -/
abbrev TF := Val → Env → Option Env
/-- the target's slots -/
def tTg (A : Act) (sl : List Nat) (t : TF) : TG := fun x σ H Q => ∃ r G v, Ok A G H σ r ∧ Rep A.w G v x ∧ match t v r with
  | some r' => ∀ σ', Ok A G H σ' r' → (∀ j, j ∉ sl → σ'[j]? = σ[j]?) → σ'.length = σ.length → Q σ' H
  | none => False
def tTgs (A : Act) (sl : List Nat) (t : List Val → Env → Option Env) : TGs := fun xs σ H Q => ∃ r G vs, Ok A G H σ r ∧ Reps A.w G vs xs ∧ match t vs r with
  | some r' => ∀ σ', Ok A G H σ' r' → (∀ j, j ∉ sl → σ'[j]? = σ[j]?) → σ'.length = σ.length → Q σ' H
  | none => False
def tgN (i : Nat) : TF := fun v r => some (r.set i (some (false, v)))
def tgNil : List Val → Env → Option Env := fun vs r => match vs with
  | [] => some r
  | _ => none
def tgCons (t : TF) (u : List Val → Env → Option Env) : List Val → Env → Option Env := fun vs r => match vs with
  | v :: vs => match t v r with
    | some r1 => u vs r1
    | none => none
  | [] => none
def tgT (u : List Val → Env → Option Env) : TF := fun v r => match v with
  | .tup vs => u vs r
  | _ => none
section
variable {X : Cx} {A : Act} {pos : Pos}
theorem PG.imp {e : Expr} {t t' : TG} (h : PG X e t) (hi : ∀ v σ H Q, t' v σ H Q → t v σ H Q) : PG X e t' := ⟨fun pins s σ H v u Q I r q => h.run pins s σ H v u Q I r (hi _ _ _ _ q)⟩
theorem PGs.imp {e : List Expr} {t t' : TGs} (h : PGs X e t) (hi : ∀ v σ H Q, t' v σ H Q → t v σ H Q) : PGs X e t' := ⟨fun pins s σ H v u Q I r q => h.run pins s σ H v u Q I r (hi _ _ _ _ q)⟩
theorem pg_N {i : Nat} {x : Str} (hN : X.N.Nodup) (hi : X.N[i]? = some x) (hx : Loc X.env.scope x) (hio : i ∉ A.io) (hf : X.fn x = true ∨ X.env.scope.names.lookup x = some .local := by first | exact .inl rfl | exact .inr rfl | assumption) : PG X (.Name x pos) (tTg A [i] (tgN i)) :=
  PG.imp (pg_name hN hi hx hf) fun x σ H Q ⟨r, G, v, k, rp, m⟩ => by
    refine m _ (k.store (o := false) rp hio) (fun j hj => ?_) (by simp)
    exact List.getElem?_set_ne (fun z => hj (by simp [z]))
theorem pgs_Nil : PGs X [] (tTgs A [] tgNil) := PGs.imp pgs_nil fun xs σ H Q ⟨r, G, vs, k, rp, m⟩ => by
  cases vs with
  | nil => exact ⟨reps_nil.mp rp, m σ k (fun _ _ => rfl) rfl⟩
  | cons v vs => exact m.elim
theorem pgs_Cons {e : Expr} {es : List Expr} {sl sl' : List Nat} {t : TF} {u : List Val → Env → Option Env} (h1 : PG X e (tTg A sl t)) (h2 : PGs X es (tTgs A sl' u))
    (hs : (assignEach (e :: es) X.env).map (·.2) = assign e X.env :: (assignEach es X.env).map (·.2) := by rfl) : PGs X (e :: es) (tTgs A (sl ++ sl') (tgCons t u)) :=
  PGs.imp (pgs_cons h1 h2 hs) fun xs σ H Q ⟨r, G, vs, k, rp, m⟩ => by
    cases vs with
    | nil => exact m.elim
    | cons v vs =>
      obtain ⟨y, ys, e, r1, r2⟩ := reps_cons.mp rp
      refine ⟨y, ys, e, r, G, v, k, r1, ?_⟩
      simp only [tgCons] at m
      cases ht : t v r with
      | none => simp only [ht] at m
      | some r' =>
        simp only [ht] at m ⊢
        intro σ1 k1 hj1 hl1
        refine ⟨r', G, vs, k1, r2, ?_⟩
        cases hu : u vs r' with
        | none => simp only [hu] at m
        | some r'' =>
          simp only [hu] at m ⊢
          intro σ2 k2 hj2 hl2
          refine m σ2 k2 (fun j hj => ?_) (hl2.trans hl1)
          rw [List.mem_append, not_or] at hj
          rw [hj2 j hj.2, hj1 j hj.1]
theorem pg_T {es : List Expr} {k0 : Nat} {sl : List Nat} {u : List Val → Env → Option Env} {n : Nat} (hc : X.calm = true) (hw : A.w.K = X.K) (h : PGs X es (tTgs A sl u)) (hl : ∀ vs r r', u vs r = some r' → vs.length = n)
    (hn : (assignEach es X.env).length = n := by rfl) (hst : (assignEach es X.env).findIdx? (·.1) = none := by rfl) : PG X (.Tuple es k0 pos) (tTg A sl (tgT u)) :=
  PG.imp (pg_tup hc h hn hst) fun x σ H Q ⟨r, G, v, k, rp, m⟩ => by
    cases v with
    | tup vs =>
      obtain ⟨a, xs, e, q, rs⟩ := rep_tup.mp rp
      cases hu : u vs r with
      | none => simp only [tgT, hu] at m
      | some r' =>
        refine ⟨a, xs, e, ?_, by rw [← reps_length rs]; exact hl vs r r' hu, r, G, vs, k, rs, ?_⟩
        · rw [← hw]; exact sqt_mono k.sub q
        · simp only [tgT, hu] at m ⊢
          exact m
    | _ => exact m.elim
end

/-! ### for -/
def forL (t : TF) (b : SF) : List Val → SF
  | [] => fun r => .nx r
  | v :: vs => fun r => match t v r with
    | some r1 => match b r1 with
      | .nx r2 => forL t b vs r2
      | .ct r2 => forL t b vs r2
      | .bk r2 => .nx r2
      | x => x
    | none => .bad
def forS (fi : IF) (t : TF) (b : SF) : SF := fun r => match fi r with
  | .ok vs r1 => forL t b vs r1
  | .ex e r1 => .ex e r1
  | .bad => .bad
section
variable {X : Cx} {A : Act} {W : WX} {tg it : Expr} {body : List Stmt} {pos : Pos} {fi : IF} {t : TF} {sl : List Nat} {f : SF}
theorem ps_for' (hp : PassesOwn (model X.prog X.w) X.A X.env X.xe) (hc : X.calm = true) (hi : PI X tg it (tIt A W fi)) (hg : PG X tg (tTg A sl t)) (hb : PSs X body (tSt A W f))
    (hs : ∀ x, foldedSetIterable it X.env x = pure x := by intro _; rfl) : PS X (.For tg it body [] pos) (tSt A W (forS fi t f)) := by
  refine PS.imp (ps_for hp hc hi hg hb hs) fun D σ H h => ?_
  obtain ⟨r, G, k, m⟩ := tSt_iff.mp h
  refine ⟨r, G, k, ?_⟩
  unfold forS at m
  cases hf : fi r with
  | bad => rw [hf] at m; exact m.elim
  | ex e r' => rw [hf] at m; exact m σ
  | ok vs r1 =>
    simp only [hf] at m ⊢
    intro J G1 H1 k1 st1 io
    refine ⟨fun i n σ' H' => ∃ r' G', i ≤ vs.length ∧ n = vs.length - i ∧ Le G1 G' ∧ Ok A G' H' σ' r' ∧ Fin A W G1 D (forL t f (vs.drop i) r'), ⟨vs.length, r1, G1, Nat.zero_le _, rfl, Le.refl _, k1, by simpa using m.mono st1.ex⟩, ?_⟩
    rintro i n σ' H' ⟨r', G', hi', hn, le, k', m'⟩
    by_cases hlt : i < vs.length
    · refine .inr ⟨io.go G' H' i le k'.sub hlt, fun σ2 H2 => ∃ r2 G2, Le G1 G2 ∧ Ok A G2 H2 σ2 r2 ∧ Fin A W G1 D (forL t f (vs.drop (i + 1)) r2), fun σ2 H2 ⟨r2, G2, q1, q2, q3⟩ => ⟨vs.length - (i + 1), by omega, r2, G2, hlt, rfl, q1, q2, q3⟩, fun x H2 hy => ?_⟩
      have ev : vs[i]? = some vs[i] := by simp [hlt]
      obtain ⟨G2, gr, rp⟩ := io.yld G' H' i vs[i] x H2 le k'.sub ev hy
      refine ⟨r', G2, vs[i], k'.grow gr, rp, ?_⟩
      rw [List.drop_eq_getElem_cons hlt, forL] at m'
      cases ht : t vs[i] r' with
      | none => simp only [ht] at m'; exact m'.elim
      | some r2 =>
        simp only [ht] at m' ⊢
        intro σ2 k2 _ _
        refine tSt_mk k2 ?_
        have l12 : Le G1 G2 := le.trans gr.g
        cases hb' : f r2 with
        | bad => simp only [hb'] at m'; exact m'.elim
        | ex e r3 => simp only [hb'] at m'; exact m'.mono l12
        | rt o v r3 => simp only [hb'] at m'; exact m'.mono l12
        | bk r3 => simp only [hb'] at m'; exact m'.mono l12
        | nx r3 =>
          simp only [hb'] at m'
          exact fun σ3 G3 H3 k3 l3 => ⟨r3, G3, l12.trans l3, k3, m'⟩
        | ct r3 =>
          simp only [hb'] at m'
          exact fun σ3 G3 H3 k3 l3 => ⟨r3, G3, l12.trans l3, k3, m'⟩
    · have e : i = vs.length := by omega
      subst e
      rw [List.drop_length] at m'
      exact .inl ⟨io.stop G' H' _ le k'.sub (Nat.le_refl _), m' σ' G' H' k' le⟩
end
end M
/-! MP7: list comprehensions. -/
namespace M
open PySem L2

def wipeR (r : Env) : List Nat → Env
  | [] => r
  | v :: vs => (wipeR r vs).set v none
def restR (r0 r : Env) : List Nat → Env
  | [] => r
  | v :: vs => (restR r0 r vs).set v ((r0[v]?).getD none)
def yesB : BF := fun r => .ok true r
def lcL (t : TF) (c : BF) (f : EF) (sl : List Nat) : List Val → List Val → Env → AR
  | [], acc, r => .ok acc r
  | v :: vs, acc, r => match t v r with
    | some r1 => match c r1 with
      | .ok true r2 => match frz f r2 with
        | .ok _ y r3 => if acc.length < 100000 then lcL t c f sl vs (acc ++ [y]) (wipeR r3 sl) else .bad
        | _ => .bad
      | .ok false r2 => lcL t c f sl vs acc (wipeR r2 sl)
      | _ => .bad
    | none => .bad
def lc (fi : IF) (t : TF) (c : BF) (f : EF) (sl : List Nat) : EF := fun r => match fi r with
  | .ok vs r1 => match lcL t c f sl vs [] (wipeR r1 sl) with
    | .ok ys r2 => .ok true (.lst ys) (restR r1 r2 sl)
    | _ => .bad
  | .ex e r1 => .ex e r1
  | .bad => .bad

theorem wipeR_length (r : Env) : ∀ sl : List Nat, (wipeR r sl).length = r.length
  | [] => rfl
  | v :: vs => by simp [wipeR, wipeR_length r vs]
theorem restR_length (r0 r : Env) : ∀ sl : List Nat, (restR r0 r sl).length = r.length
  | [] => rfl
  | v :: vs => by simp [restR, restR_length r0 r vs]
theorem wipeR_out (r : Env) {j : Nat} : ∀ {sl : List Nat}, j ∉ sl → (wipeR r sl)[j]? = r[j]?
  | [], _ => rfl
  | v :: vs, h => by
    simp only [List.mem_cons, not_or] at h
    rw [wipeR, List.getElem?_set_ne (Ne.symm h.1)]; exact wipeR_out r h.2
theorem wipeR_in (r : Env) {j : Nat} {t : Bool × Val} : ∀ {sl : List Nat}, j ∈ sl → (wipeR r sl)[j]? ≠ some (some t)
  | [], h => by simp at h
  | v :: vs, h => by
    rw [wipeR]
    intro e
    rcases set_some e rfl with ⟨e1, e2⟩ | ⟨e1, e2⟩
    · cases e2
    · exact wipeR_in r ((List.mem_cons.mp h).resolve_left e1) e2
theorem wipeR_some {r : Env} {j : Nat} {t : Bool × Val} {sl : List Nat} (h : (wipeR r sl)[j]? = some (some t)) : j ∉ sl ∧ r[j]? = some (some t) := by
  by_cases q : j ∈ sl
  · exact absurd h (wipeR_in r q)
  · rw [wipeR_out r q] at h; exact ⟨q, h⟩
theorem restR_out (r0 r : Env) {j : Nat} : ∀ {sl : List Nat}, j ∉ sl → (restR r0 r sl)[j]? = r[j]?
  | [], _ => rfl
  | v :: vs, h => by
    simp only [List.mem_cons, not_or] at h
    rw [restR, List.getElem?_set_ne (Ne.symm h.1)]; exact restR_out r0 r h.2
theorem restR_in (r0 r : Env) {j : Nat} {t : Bool × Val} : ∀ {sl : List Nat}, j ∈ sl → (restR r0 r sl)[j]? = some (some t) → r0[j]? = some (some t)
  | [], h, _ => by simp at h
  | v :: vs, h, e => by
    rw [restR] at e
    rcases set_some e rfl with ⟨e1, e2⟩ | ⟨e1, e2⟩
    · subst e1
      cases q : r0[j]? with
      | none => rw [q] at e2; cases e2
      | some s => rw [q] at e2; rw [← e2]; rfl
    · exact restR_in r0 r ((List.mem_cons.mp h).resolve_left e1) e2
theorem wipe_in' {σ : L2.St} {j : Nat} {x : V} {sl : List Nat} (h : j ∈ sl) : (wipe σ sl)[j]? ≠ some (some x) := fun e => (wipe_some e).2 h
theorem wipe_eq {σ σ2 : L2.St} {sl sl' : List Nat} (hs : ∀ j ∈ sl', j ∈ sl) (h : ∀ j, j ∉ sl' → σ2[j]? = (wipe σ sl)[j]?) (hl : σ2.length = (wipe σ sl).length) : wipe σ2 sl = wipe σ sl := by
  have at_in : ∀ (τ : L2.St) {j : Nat} {sl : List Nat}, j ∈ sl → j < τ.length → (wipe τ sl)[j]? = some none := by
    intro τ j sl
    induction sl with
    | nil => intro h; simp at h
    | cons v vs ih =>
      intro h hj
      rw [wipe]
      by_cases e : v = j
      · subst e; rw [List.getElem?_set_self]; rw [wipe_length]; exact hj
      · rw [List.getElem?_set_ne e]
        exact ih ((List.mem_cons.mp h).resolve_left fun z => e z.symm) hj
  apply List.ext_getElem?
  intro j
  by_cases q : j ∈ sl
  · by_cases l : j < σ.length
    · rw [at_in σ q l, at_in σ2 q (by rw [hl, wipe_length]; exact l)]
    · rw [List.getElem?_eq_none (by rw [wipe_length, hl, wipe_length]; omega), List.getElem?_eq_none (by rw [wipe_length]; omega)]
  · rw [wipe_out q, h j fun z => q (hs j z)]

/-- a target stores frozen values in its slots alone -/
def TOk (sl : List Nat) (t : TF) : Prop := ∀ v r r', t v r = some r' → (∀ j, j ∉ sl → r'[j]? = r[j]?) ∧ ∀ j ∈ sl, ∀ u, r'[j]? ≠ some (some (true, u))
def TsOk (sl : List Nat) (t : List Val → Env → Option Env) : Prop := ∀ v r r', (∀ j ∈ sl, True) → t v r = some r' → (∀ j, j ∉ sl → r'[j]? = r[j]?) ∧ ∀ j ∈ sl, ∀ u, r'[j]? ≠ some (some (true, u))
theorem tok_N (i : Nat) : TOk [i] (tgN i) := fun v r r' h => by
  cases h
  refine ⟨fun j hj => List.getElem?_set_ne fun z => hj (by simp [z]), fun j hj u e => ?_⟩
  have : j = i := by simpa using hj
  subst this
  rcases set_some e rfl with ⟨_, e2⟩ | ⟨e1, _⟩
  · cases e2
  · exact e1 rfl
theorem tsok_nil : TsOk [] tgNil := fun v r r' _ h => by
  cases v with
  | nil => cases h; exact ⟨fun _ _ => rfl, fun j hj => by simp at hj⟩
  | cons _ _ => cases h
theorem tsok_cons {sl sl' : List Nat} {t : TF} {u : List Val → Env → Option Env} (h1 : TOk sl t) (h2 : TsOk sl' u) : TsOk (sl ++ sl') (tgCons t u) := fun v r r' _ h => by
  cases v with
  | nil => cases h
  | cons v vs =>
    simp only [tgCons] at h
    cases ht : t v r with
    | none => simp only [ht] at h; cases h
    | some r1 =>
      simp only [ht] at h
      obtain ⟨a1, b1⟩ := h1 v r r1 ht
      obtain ⟨a2, b2⟩ := h2 vs r1 r' (fun _ _ => trivial) h
      refine ⟨fun j hj => ?_, fun j hj w e => ?_⟩
      · rw [List.mem_append, not_or] at hj
        rw [a2 j hj.2, a1 j hj.1]
      · by_cases q : j ∈ sl'
        · exact b2 j q w e
        · rw [a2 j q] at e
          exact b1 j ((List.mem_append.mp hj).resolve_right q) w e
theorem tok_T {sl : List Nat} {u : List Val → Env → Option Env} (h : TsOk sl u) : TOk sl (tgT u) := fun v r r' e => by
  cases v with
  | tup vs => exact h vs r r' (fun _ _ => trivial) e
  | _ => cases e

section
variable {A : Act} {W : WX} {G H G' H' G1 H1 : Hp} {σ : L2.St} {r r1 r' : Env} {sl : List Nat}
theorem wipe_out' {j : Nat} (h : j ∉ sl) : (wipe σ sl)[j]? = σ[j]? := wipe_out h
theorem Ok.wipe (k : Ok A G H σ r) (hio : ∀ i ∈ A.io, i ∉ sl) : Ok A G H (wipe σ sl) (wipeR r sl) := by
  refine ⟨k.ex0, k.gr0, k.fr0, k.sub, by rw [wipe_length, wipeR_length]; exact k.len, fun i v h => ?_, fun i v h => ?_, fun i j v w a h1 h2 h3 h4 => ?_, fun i hi => by rw [wipe_out (hio i hi)]; exact k.fx i hi⟩
  · obtain ⟨n, h⟩ := wipeR_some h
    obtain ⟨x, e, q⟩ := k.fz i v h
    exact ⟨x, by rw [wipe_out n]; exact e, q⟩
  · obtain ⟨n, h⟩ := wipeR_some h
    obtain ⟨x, e, q⟩ := k.ow i v h
    exact ⟨x, by rw [wipe_out n]; exact e, q⟩
  · obtain ⟨n1, h1⟩ := wipeR_some h1
    obtain ⟨n2, h2⟩ := wipeR_some h2
    rw [wipe_out n1] at h3; rw [wipe_out n2] at h4
    exact k.sep i j v w a h1 h2 h3 h4
theorem rt_wipe {a : Addr} (h : Rt (wipeR r sl) (wipe σ sl) a) : Rt r σ a := by
  obtain ⟨i, v, h1, h2⟩ := h
  obtain ⟨n, h1⟩ := wipeR_some h1
  exact ⟨i, v, h1, by rw [wipe_out n] at h2; exact h2⟩
/-- back from a block: the slots of its own names are as they were -/
theorem Ok.unwipe (k : Ok A G H σ r) (k' : Ok A G' H' (L2.wipe σ sl) r') (st : Step (L2.wipe σ sl) (wipeR r sl) G H r' G' H') : Ok A G' H' σ (restR r r' sl) ∧ Step σ r G H (restR r r' sl) G' H' := by
  have out : ∀ {j : Nat} {a : Addr} {w : Val}, j ∉ sl → r'[j]? = some (some (true, w)) → σ[j]? = some (some (.ref a)) → ∃ (i : Nat) (v : Val), i ∉ sl ∧ r[i]? = some (some (true, v)) ∧ σ[i]? = some (some (.ref a)) := fun {j a w} n h1 h2 => by
    obtain ⟨i, v, h3, h4⟩ := st.rts a ⟨j, w, h1, by rw [wipe_out n]; exact h2⟩
    obtain ⟨n3, h3⟩ := wipeR_some h3
    exact ⟨i, v, n3, h3, by rw [wipe_out n3] at h4; exact h4⟩
  have nrt : ∀ {j : Nat} {a : Addr} {v : Val}, j ∈ sl → r[j]? = some (some (true, v)) → σ[j]? = some (some (.ref a)) → ¬ Rt (wipeR r sl) (L2.wipe σ sl) a := fun {j a v} hj h1 h2 ⟨i, w, h3, h4⟩ => by
    obtain ⟨n3, h3⟩ := wipeR_some h3
    rw [wipe_out n3] at h4
    exact n3 (k.sep j i v w a h1 h3 h2 h4 ▸ hj)
  refine ⟨⟨k'.ex0, k'.gr0, k'.fr0, k'.sub, by rw [restR_length, ← k'.len, wipe_length], fun i v h => ?_, fun i v h => ?_, fun i j v w a h1 h2 h3 h4 => ?_, k.fx⟩,
    st.ex, fun a o h n => st.keep a o h fun z => n (rt_wipe z), fun a h h' => (st.grow a h h').imp id rt_wipe, fun a ⟨i, v, h1, h2⟩ => ?_⟩
  · by_cases q : i ∈ sl
    · obtain ⟨x, e, rp⟩ := k.fz i v (restR_in r r' q h)
      exact ⟨x, e, rp.mono st.ex⟩
    · rw [restR_out r r' q] at h
      obtain ⟨x, e, rp⟩ := k'.fz i v h
      exact ⟨x, by rw [wipe_out q] at e; exact e, rp⟩
  · by_cases q : i ∈ sl
    · have h' := restR_in r r' q h
      obtain ⟨a, e, ro, n, l⟩ := k.ow i v h'
      have nr := nrt q h' e
      obtain ⟨u, hu, _⟩ := ro.has
      refine ⟨a, e, ro.mono st.ex fun o ho => st.keep a o ho nr, ?_, l⟩
      cases z : G' a with
      | none => rfl
      | some o =>
        rcases st.grow a n (by rw [z]; simp) with y | y
        · rw [hu] at y; cases y
        · exact absurd y nr
    · rw [restR_out r r' q] at h
      obtain ⟨a, e, ro, n, l⟩ := k'.ow i v h
      exact ⟨a, by rw [wipe_out q] at e; exact e, ro, n, l⟩
  · by_cases q1 : i ∈ sl
    · have h1' := restR_in r r' q1 h1
      by_cases q2 : j ∈ sl
      · exact k.sep i j v w a h1' (restR_in r r' q2 h2) h3 h4
      · rw [restR_out r r' q2] at h2
        obtain ⟨m, u, n, h5, h6⟩ := out q2 h2 h4
        exact absurd (k.sep i m v u a h1' h5 h3 h6 ▸ q1) n
    · rw [restR_out r r' q1] at h1
      by_cases q2 : j ∈ sl
      · have h2' := restR_in r r' q2 h2
        obtain ⟨m, u, n, h5, h6⟩ := out q1 h1 h3
        exact absurd (k.sep j m w u a h2' h5 h4 h6 ▸ q2) n
      · rw [restR_out r r' q2] at h2
        exact k'.sep i j v w a h1 h2 (by rw [wipe_out q1]; exact h3) (by rw [wipe_out q2]; exact h4)
  · by_cases q : i ∈ sl
    · exact ⟨i, v, restR_in r r' q h1, h2⟩
    · rw [restR_out r r' q] at h1
      obtain ⟨m, u, _, h5, h6⟩ := out q h1 h2
      exact ⟨m, u, h5, h6⟩
/-- a container that no slot owns is changed -/
theorem Ok.tmp {a : Addr} {o : HO} (k : Ok A G H σ r) (n : G a = none) (nr : ¬ Rt r σ a) (l : A.L a ∨ A.H0 a = none) : Ok A G (upd H a o) σ r where
  ex0 := k.ex0
  gr0 := k.gr0
  fr0 := fun b u h nl => by
    by_cases e : b = a
    · subst e
      rcases l with l | l
      · exact absurd l nl
      · rw [l] at h; cases h
    · rw [upd_ne e]; exact k.fr0 b u h nl
  sub := k.sub.updR n
  len := k.len
  fz := k.fz
  ow := fun i v h => by
    obtain ⟨b, e, q, nb, lb⟩ := k.ow i v h
    have ne : b ≠ a := fun z => nr ⟨i, v, h, by rw [e, z]⟩
    exact ⟨b, e, q.mono (Le.refl _) (fun o h => by rw [upd_ne ne]; exact h), nb, lb⟩
  sep := k.sep
  fx := k.fx
end

theorem lc_of {A : Act} {W : WX} {fi : IF} {t : TF} {c : BF} {f : EF} {sl st' : List Nat} {σ : L2.St} {H : Hp} {Q : VK} (tok : TOk st' t) (hs : ∀ j ∈ st', j ∈ sl) (hio : ∀ i ∈ A.io, i ∉ sl) (h : tE A W (lc fi t c f sl) σ H Q) :
    tLc (tIt A W fi) (tTg A st' t) (tBo A (fun _ _ _ _ => False) c) (tE A (fun _ _ _ _ => False) (frz f)) sl σ H Q := by
  obtain ⟨r, G, k, m⟩ := h
  refine ⟨r, G, k, ?_⟩
  unfold lc at m
  cases hf : fi r with
  | bad => rw [hf] at m; exact m.elim
  | ex e r' => rw [hf] at m; exact m
  | ok vs r1 =>
    simp only [hf] at m ⊢
    intro J G1 H1 k1 st1 io D hD
    have gr0 := Grow.laidH (o := .lst []) k1.sub hD
    have kw := (k1.wipe (sl := sl) hio).grow gr0
    let Fl : AR → Prop := fun a => match a with
      | .ok ys r2 => ∀ x G' H', Res A σ r G H (restR r1 r2 sl) G' H' true (.lst ys) x → Q x H'
      | _ => False
    have m0 : Fl (lcL t c f sl vs [] (wipeR r1 sl)) := by
      cases hL : lcL t c f sl vs [] (wipeR r1 sl) with
      | ok ys r2 => rw [hL] at m; exact m
      | ex e r2 => rw [hL] at m; exact m
      | bad => rw [hL] at m; exact m
    refine ⟨fun i n H' => ∃ r' G' acc ds, i ≤ vs.length ∧ n = vs.length - i ∧ Ok A G' H' (wipe σ sl) r' ∧ Step (wipe σ sl) (wipeR r1 sl) G1 H1 r' G' H' ∧ H' D = some (.lst acc) ∧ Reps A.w G' ds acc ∧ G' D = none ∧ ¬ Rt r' (wipe σ sl) D ∧ Fl (lcL t c f sl (vs.drop i) ds r'),
      ⟨vs.length, wipeR r1 sl, G1, [], [], Nat.zero_le _, rfl, kw, gr0.step, upd_same, reps_nil.mpr rfl, k1.sub.back hD, (k1.wipe (sl := sl) hio).notRt hD, by simpa using m0⟩, ?_⟩
    rintro i n H2 ⟨r2, G2, acc, ds, hi, hn, k2, st2, hacc, hreps, hGD, hnr, hFl⟩
    have lD : A.L D ∨ A.H0 D = none := k1.fresh hD
    by_cases hlt : i < vs.length
    · refine .inr ⟨io.go G2 H2 i st2.ex k2.sub hlt, fun H' => ∃ r' G' acc ds, Ok A G' H' (wipe σ sl) r' ∧ Step (wipe σ sl) (wipeR r1 sl) G1 H1 r' G' H' ∧ H' D = some (.lst acc) ∧ Reps A.w G' ds acc ∧ G' D = none ∧ ¬ Rt r' (wipe σ sl) D ∧ Fl (lcL t c f sl (vs.drop (i + 1)) ds r'),
        fun H' ⟨r', G', acc, ds, q⟩ => ⟨vs.length - (i + 1), by omega, r', G', acc, ds, hlt, rfl, q⟩, fun x H3 hy => ?_⟩
      have ev : vs[i]? = some vs[i] := by simp [hlt]
      obtain ⟨G3, gr, rp⟩ := io.yld G2 H2 i vs[i] x H3 st2.ex k2.sub ev hy
      refine ⟨r2, G3, vs[i], k2.grow gr, rp, ?_⟩
      rw [List.drop_eq_getElem_cons hlt, lcL] at hFl
      cases ht : t vs[i] r2 with
      | none => simp only [ht] at hFl; exact hFl.elim
      | some r3 =>
        simp only [ht] at hFl ⊢
        intro σ2 k3 hj hl
        have hw := wipe_eq (σ := σ) (σ2 := σ2) hs hj hl
        obtain ⟨tk1, tk2⟩ := tok _ _ _ ht
        have rt3 : ∀ a, Rt r3 σ2 a → Rt r2 (wipe σ sl) a := fun a ⟨j, w, h1, h2⟩ => by
          by_cases q : j ∈ st'
          · exact absurd h1 (tk2 j q w)
          · exact ⟨j, w, by rw [← tk1 j q]; exact h1, by rw [← hj j q]; exact h2⟩
        have hacc3 : H3 D = some (.lst acc) := gr.h _ _ hacc
        have hGD3 : G3 D = none := by
          cases z : G3 D with
          | none => rfl
          | some o => have := gr.n D hGD (by rw [z]; simp); rw [hacc] at this; cases this
        have st3 := st2.trans gr.step
        -- from the target's state to the block's
        have conv : ∀ {r4 : Env} {G4 H4 : Hp}, Ok A G4 H4 σ2 r4 → Step σ2 r3 G3 H3 r4 G4 H4 → Ok A G4 H4 (wipe σ sl) (wipeR r4 sl) ∧ Step (wipe σ sl) (wipeR r1 sl) G1 H1 (wipeR r4 sl) G4 H4 ∧ H4 D = some (.lst acc) ∧ G4 D = none ∧ ¬ Rt (wipeR r4 sl) (wipe σ sl) D := fun {r4 G4 H4} k4 st4 => by
          have rt4 : ∀ a, Rt (wipeR r4 sl) (wipe σ sl) a → Rt r2 (wipe σ sl) a := fun a h => rt3 a (st4.rts a (by rw [← hw] at h; exact rt_wipe h))
          refine ⟨?_, st3.trans ⟨st4.ex, fun a o h n => st4.keep a o h fun z => n (rt3 a z), fun a h h' => (st4.grow a h h').imp id (rt3 a), rt4⟩, st4.keep D _ hacc3 fun z => hnr (rt3 D z), ?_, fun z => hnr (rt4 D z)⟩
          · have := k4.wipe (sl := sl) hio
            rw [hw] at this; exact this
          · cases z : G4 D with
            | none => rfl
            | some o =>
              rcases st4.grow D hGD3 (by rw [z]; simp) with y | y
              · rw [hacc3] at y; cases y
              · exact absurd (rt3 D y) hnr
        refine ⟨hw, r3, G3, k3, ?_⟩
        cases hc : c r3 with
        | bad => simp only [hc] at hFl; exact hFl.elim
        | ex e r4 => simp only [hc] at hFl; exact hFl.elim
        | ok b r4 =>
          simp only [hc] at hFl ⊢
          intro G4 H4 k4 st4
          cases b with
          | false =>
            simp only [Bool.false_eq_true, if_false]
            obtain ⟨c1, c2, c3, c4, c5⟩ := conv k4 st4
            exact ⟨_, G4, acc, ds, c1, c2, c3, hreps.mono (gr.g.trans st4.ex), c4, c5, hFl⟩
          | true =>
            simp only [if_true] at hFl ⊢
            refine ⟨r4, G4, k4, ?_⟩
            cases he : frz f r4 with
            | bad => simp only [he] at hFl; exact hFl.elim
            | ex e r5 => simp only [he] at hFl; exact hFl.elim
            | ok o y r5 =>
              have eo := frz_false he
              subst eo
              simp only [he] at hFl ⊢
              intro y' G5 H5 R5
              by_cases hz : ds.length < 100000
              case neg => rw [if_neg hz] at hFl; exact hFl.elim
              rw [if_pos hz] at hFl
              obtain ⟨c1, c2, c3, c4, c5⟩ := conv R5.ok (st4.trans R5.st)
              have le5 : Le G2 G5 := (gr.g.trans st4.ex).trans R5.st.ex
              refine ⟨acc, c3, by rw [← reps_length hreps]; exact Nat.lt_of_lt_of_le hz (by decide), _, G5, acc ++ [y'], ds ++ [y], c1.tmp c4 c5 lD, ⟨c2.ex, fun a o h nn => ?_, c2.grow, c2.rts⟩, upd_same, reps_append (hreps.mono le5) (reps_one R5.tr), c4, c5, hFl⟩
              have ne : a ≠ D := fun z => by subst z; rw [hD] at h; cases h
              rw [upd_ne ne]; exact c2.keep a o h nn
    · have e : i = vs.length := by omega
      subst e
      rw [List.drop_length, lcL] at hFl
      obtain ⟨k3, st3⟩ := k1.unwipe k2 st2
      refine .inl ⟨io.stop G2 H2 _ st2.ex k2.sub (Nat.le_refl _), ?_⟩
      refine hFl (.ref D) G2 H2 ⟨k3, st1.trans st3, trep_t (root_lst hacc hreps) hGD ?_ lD, fun _ a e => by cases e; exact st1.fresh hD⟩
      intro z
      rcases k1.rt (st3.rts D z) with ⟨⟨o, ho⟩, _⟩
      rw [hD] at ho; cases ho
end M
/-! MP8: operations on values. -/
namespace M
open PySem L2

/-- what is asked of a context -/
structure Cal (X : Cx) (w : Wd) : Prop where
  K : w.K = X.K
  calm : X.calm = true
  un : X.A.units + 100 < cLine
  gs : X.A.guards = some []

section
variable {w : Wd} {G H : Hp} {x y : V} {v : Val}
theorem rrep_non : RRep w G H .non x → x = .non := fun h => h.elim rep_non.mp fun ⟨_, _, r⟩ => r.elim
theorem rrep_bl {b : Bool} : RRep w G H (.bl b) x → x = .bl b := fun h => h.elim rep_bl.mp fun ⟨_, _, r⟩ => r.elim
theorem rrep_int {i : Int} : RRep w G H (.int i) x → x = .int i := fun h => h.elim rep_int.mp fun ⟨_, _, r⟩ => r.elim
theorem rrep_str {s : Str} : RRep w G H (.str s) x → x = .str s ∧ s.length ≤ sizeLine := fun h => h.elim rep_str.mp fun ⟨_, _, r⟩ => r.elim
theorem rrep_ty {n : String} : RRep w G H (.ty n) x → x = .ty n := fun h => h.elim rep_ty.mp fun ⟨_, _, r⟩ => r.elim
theorem rrep_tup {ds : List Val} (le : Le G H) : RRep w G H (.tup ds) x → ∃ a xs, x = .ref a ∧ SqT w.K H a xs ∧ Reps w G ds xs := fun h => h.elim (fun h => by
  obtain ⟨a, xs, e, q, r⟩ := rep_tup.mp h
  exact ⟨a, xs, e, sqt_mono le q, r⟩) fun ⟨_, _, r⟩ => r.elim
theorem rrep_lst {ds : List Val} (le : Le G H) : RRep w G H (.lst ds) x → ∃ a xs, x = .ref a ∧ H a = some (.lst xs) ∧ Reps w G ds xs := fun h => by
  rcases h with h | ⟨a, e, r⟩
  · obtain ⟨a, xs, e, q, r⟩ := rep_lst.mp h
    exact ⟨a, xs, e, le _ _ q, r⟩
  · obtain ⟨xs, q, r⟩ := r
    exact ⟨a, xs, e, q, r⟩
theorem rrep_dct {t : Bool} {ds : List (Val × Val)} (le : Le G H) : RRep w G H (.dct t ds) x → ∃ a, x = .ref a ∧ ((t = false ∧ ∃ kvs, Rd H a (.dK kvs) ∧ RepK w G ds kvs) ∨ (t = true ∧ ∃ kvs, Rd H a (.dT kvs) ∧ RepT w G ds kvs)) := fun h => by
  rcases h with h | ⟨a, e, r⟩
  · rw [Rep] at h
    obtain ⟨a, e, ⟨ht, kvs, o, q, r⟩ | ⟨ht, kvs, o, q, r⟩⟩ := h
    · exact ⟨a, e, .inl ⟨ht, kvs, .inr ⟨o, le _ _ q⟩, r⟩⟩
    · exact ⟨a, e, .inr ⟨ht, kvs, .inr ⟨o, le _ _ q⟩, r⟩⟩
  · obtain ⟨ht, kvs, q, r⟩ | ⟨ht, kvs, q, r⟩ := r
    · exact ⟨a, e, .inl ⟨ht, kvs, .inl q, r⟩⟩
    · exact ⟨a, e, .inr ⟨ht, kvs, .inl q, r⟩⟩
theorem rrep_scr {ns : List Int} (le : Le G H) : RRep w G H (.scr ns) x → ∃ a, x = .ref a ∧ SqL w.K H a (ns.map V.int) := fun h => by
  rcases h with h | ⟨a, e, r⟩
  · rw [Rep] at h; obtain ⟨a, e, q⟩ := h; exact ⟨a, e, sql_mono le q⟩
  · exact r.elim
theorem rreps_nil {xs : List V} : RReps w G H [] xs → xs = [] := id
theorem rreps_one {xs : List V} : RReps w G H [v] xs → ∃ x, xs = [x] ∧ RRep w G H v x := fun ⟨y, ys, e, r, t⟩ => by
  have t' : ys = [] := t
  subst t'; exact ⟨y, e, r⟩
theorem rreps_two {u : Val} {xs : List V} : RReps w G H [v, u] xs → ∃ x y, xs = [x, y] ∧ RRep w G H v x ∧ RRep w G H u y := fun ⟨y, ys, e, r, t⟩ => by
  obtain ⟨z, e2, r2⟩ := rreps_one t
  subst e2; exact ⟨y, z, e, r, r2⟩
theorem rreps_three {u t : Val} {xs : List V} : RReps w G H [v, u, t] xs → ∃ x y z, xs = [x, y, z] ∧ RRep w G H v x ∧ RRep w G H u y ∧ RRep w G H t z := fun ⟨y, ys, e, r, t⟩ => by
  obtain ⟨z, z2, e2, r2, r3⟩ := rreps_two t
  subst e2; exact ⟨y, z, z2, e, r, r2, r3⟩
end
theorem rreps_len {w : Wd} {G H : Hp} : ∀ {vs : List Val} {xs : List V}, RReps w G H vs xs → vs.length = xs.length
  | [], _, h => by have h' : _ = [] := h; subst h'; rfl
  | _ :: _, _, ⟨y, ys, e, _, t⟩ => by subst e; simp [rreps_len t]
end M
/-! MP9: operations on values: numbers, texts, lists, comparisons. -/
namespace M
open PySem L2

def repS (x : Str) (n : Nat) : Str := ⟨(List.replicate n x.cps.toList).flatten.toArray⟩
def Padd : List Val → Option (Bool × Val)
  | [.int i, .int j] => some (false, .int (i + j))
  | [.str s, .str t] => if s.length + t.length ≤ sizeLine then some (false, .str (s ++ t)) else none
  | [.lst xs, .lst ys] => if xs.length + ys.length ≤ 100000 then some (true, .lst (xs ++ ys)) else none
  | _ => none
def Psub : List Val → Option (Bool × Val)
  | [.int i, .int j] => some (false, .int (i - j))
  | _ => none
/-- a bound that neither side of which the kernel counts down -/
def smallI (n : Nat) (j : Int) : Bool := match j with
  | .ofNat a => Nat.ble a n
  | .negSucc a => Nat.ble a n
theorem smallI_iff {n : Nat} {j : Int} : smallI n j = true ↔ -((n : Int) + 1) ≤ j ∧ j ≤ (n : Int) := by
  cases j with
  | ofNat a =>
    have e : Int.ofNat a = (a : Int) := rfl
    simp only [smallI, Nat.ble_eq, e]; constructor <;> intro h <;> omega
  | negSucc a => simp only [smallI, Nat.ble_eq]; constructor <;> intro h <;> omega
def mulOk (i j : Int) : Bool := smallI 18446744073709551614 i || smallI 18446744073709551614 j
theorem mulOk_iff {i j : Int} : mulOk i j = true ↔ (-(2 ^ 64) < i ∧ i < 2 ^ 64 - 1) ∨ (-(2 ^ 64) < j ∧ j < 2 ^ 64 - 1) := by
  unfold mulOk
  rw [Bool.or_eq_true, smallI_iff, smallI_iff]
  constructor
  · rintro (h | h)
    · left; omega
    · right; omega
  · rintro (h | h)
    · left; omega
    · right; omega
def Pmul : List Val → Option (Bool × Val)
  | [.int i, .int j] => if mulOk i j then some (false, .int (i * j)) else none
  | [.str s, .int n] => if 0 ≤ n ∧ n ≤ 100000 ∧ s.length * n.toNat ≤ sizeLine then some (false, .str (repS s n.toNat)) else none
  | [.lst xs, .int n] => if 0 ≤ n ∧ n ≤ 100000 ∧ xs.length * n.toNat ≤ 100000 then some (true, .lst (List.replicate n.toNat xs).flatten) else none
  | _ => none
def Pmod : List Val → Option (Bool × Val)
  | [.int i, .int j] => if 0 < j then some (false, .int (i % j)) else none
  | _ => none
def Pdiv : List Val → Option (Bool × Val)
  | [.int i, .int j] => if 0 < j ∧ smallI 1073741823 j = true then some (false, .int (i / j)) else none
  | _ => none
def Ppow : List Val → Option (Bool × Val)
  | [.int i, .int j] => if 0 ≤ j ∧ j ≤ 1000 ∧ i.natAbs < 2 ^ 64 then some (false, .int (i ^ j.toNat)) else none
  | _ => none

theorem str_len_app (a b : Str) : (a ++ b).length = a.length + b.length := by
  show (a.cps ++ b.cps).size = _
  rw [Array.size_append]; rfl
theorem repS_fold (x : Str) (n : Nat) : (⟨(List.replicate n x.cps).foldl (· ++ ·) #[]⟩ : Str) = repS x n := by
  have : ∀ (n : Nat) (acc : Array Nat), (List.replicate n x.cps).foldl (· ++ ·) acc = acc ++ (List.replicate n x.cps.toList).flatten.toArray := by
    intro n
    induction n with
    | zero => intro acc; simp
    | succ n ih => intro acc; rw [List.replicate_succ, List.foldl_cons, ih, List.replicate_succ, List.flatten_cons]; apply Array.toList_inj.mp; simp
  unfold repS
  rw [this]; simp
theorem repS_length (x : Str) (n : Nat) : (repS x n).length = x.length * n := by
  unfold repS
  show (List.toArray _).size = _
  rw [List.size_toArray]
  induction n with
  | zero => simp
  | succ n ih =>
    rw [List.replicate_succ, List.flatten_cons, List.length_append, ih]
    show x.cps.toList.length + _ = _
    rw [Array.length_toList, Nat.mul_succ, Nat.add_comm]; rfl

section
variable {X : Cx} {w : Wd}
/-- a new list as the answer -/
theorem new_lst {G H : Hp} {p : Addr} {xs : List V} {ds : List Val} {Q : VK} (le : Le G H) (hp : H p = none) (rp : Reps w G ds xs)
    (q : ∀ u G' H', Grow G H G' H' → NRep w G H G' H' true (.lst ds) u → Q u H') : Q (.ref p) (upd H p (.lst xs)) :=
  q _ G _ (Grow.laidH le hp) ⟨_, rfl, root_lst upd_same rp, le.back hp, hp⟩
theorem reps_rep {G : Hp} {ds : List Val} {xs : List V} (q : Reps w G ds xs) : ∀ m : Nat, Reps w G (List.replicate m ds).flatten (List.replicate m xs).flatten
  | 0 => reps_nil.mpr rfl
  | m + 1 => by rw [List.replicate_succ, List.flatten_cons, List.replicate_succ, List.flatten_cons]; exact reps_append q (reps_rep q m)
theorem opr_add (c : Cal X w) : OpR X (binaryOp .Add) (r2Of w Padd) := by
  intro pins s σ H x y v u Q I rx ry ⟨G, vs, o, z, le, rr, hp, q⟩
  unfold Padd at hp
  split at hp
  · obtain ⟨_, _, e, r1, r2⟩ := rreps_two rr
    cases e; cases hp
    obtain rfl := rrep_int r1; obtain rfl := rrep_int r2
    exact op_add pins s σ H _ _ v u Q I rx ry ⟨_, _, rfl, rfl, q _ G H (Grow.refl le) (nrep_f (rep_int.mpr rfl))⟩
  · obtain ⟨_, _, e, r1, r2⟩ := rreps_two rr
    cases e
    split at hp
    · rename_i hz
      cases hp
      obtain ⟨rfl, h1⟩ := rrep_str r1; obtain ⟨rfl, h2⟩ := rrep_str r2
      exact op_add_str pins s σ H _ _ v u Q I rx ry ⟨_, _, rfl, rfl, hz, q _ G H (Grow.refl le) (nrep_f (rep_str.mpr ⟨rfl, by rw [str_len_app]; exact hz⟩))⟩
    · cases hp
  · obtain ⟨_, _, e, r1, r2⟩ := rreps_two rr
    cases e
    split at hp
    · rename_i hz
      cases hp
      obtain ⟨a, xs, rfl, s1, q1⟩ := rrep_lst le r1; obtain ⟨b, ys, rfl, s2, q2⟩ := rrep_lst le r2
      have hz' : xs.length + ys.length ≤ sizeLine := by rw [← reps_length q1, ← reps_length q2]; exact line_of hz
      exact op_cat pins s σ H _ _ v u Q I rx ry ⟨a, b, xs, ys, rfl, rfl, s1, s2, hz', fun p hp => new_lst le hp (reps_append q1 q2) q⟩
    · cases hp
  · cases hp
theorem opr_sub (c : Cal X w) : OpR X (binaryOp .Sub) (r2Of w Psub) := by
  intro pins s σ H x y v u Q I rx ry ⟨G, vs, o, z, le, rr, hp, q⟩
  unfold Psub at hp
  split at hp
  · obtain ⟨_, _, e, r1, r2⟩ := rreps_two rr
    cases e; cases hp
    obtain rfl := rrep_int r1; obtain rfl := rrep_int r2
    exact op_sub pins s σ H _ _ v u Q I rx ry ⟨_, _, rfl, rfl, q _ G H (Grow.refl le) (nrep_f (rep_int.mpr rfl))⟩
  · cases hp
theorem opr_mod (c : Cal X w) : OpR X (binaryOp .Mod) (r2Of w Pmod) := by
  intro pins s σ H x y v u Q I rx ry ⟨G, vs, o, z, le, rr, hp, q⟩
  unfold Pmod at hp
  split at hp
  · obtain ⟨_, _, e, r1, r2⟩ := rreps_two rr
    cases e
    split at hp
    · rename_i hj
      cases hp
      obtain rfl := rrep_int r1; obtain rfl := rrep_int r2
      exact op_mod pins s σ H _ _ v u Q I rx ry ⟨_, _, rfl, rfl, hj, q _ G H (Grow.refl le) (nrep_f (rep_int.mpr rfl))⟩
    · cases hp
  · cases hp
theorem opr_div (c : Cal X w) : OpR X (binaryOp .FloorDiv) (r2Of w Pdiv) := by
  intro pins s σ H x y v u Q I rx ry ⟨G, vs, o, z, le, rr, hp, q⟩
  unfold Pdiv at hp
  split at hp
  · obtain ⟨_, _, e, r1, r2⟩ := rreps_two rr
    cases e
    split at hp
    · rename_i hj
      cases hp
      obtain rfl := rrep_int r1; obtain rfl := rrep_int r2
      exact op_fdiv pins s σ H _ _ v u Q I rx ry ⟨_, _, rfl, rfl, ⟨hj.1, by have := smallI_iff.mp hj.2; omega⟩, q _ G H (Grow.refl le) (nrep_f (rep_int.mpr rfl))⟩
    · cases hp
  · cases hp
theorem opr_pow (c : Cal X w) : OpR X (binaryOp .Pow) (r2Of w Ppow) := by
  intro pins s σ H x y v u Q I rx ry ⟨G, vs, o, z, le, rr, hp, q⟩
  unfold Ppow at hp
  split at hp
  · obtain ⟨_, _, e, r1, r2⟩ := rreps_two rr
    cases e
    split at hp
    · rename_i hj
      cases hp
      obtain rfl := rrep_int r1; obtain rfl := rrep_int r2
      exact op_pow pins s σ H _ _ v u Q I rx ry ⟨_, _, rfl, rfl, ⟨hj.1, Int.le_trans hj.2.1 (by decide), hj.2.2⟩, q _ G H (Grow.refl le) (nrep_f (rep_int.mpr rfl))⟩
    · cases hp
  · cases hp
theorem opr_mul (c : Cal X w) : OpR X (binaryOp .Mult) (r2Of w Pmul) := by
  intro pins s σ H x y v u Q I rx ry ⟨G, vs, o, z, le, rr, hp, q⟩
  unfold Pmul at hp
  split at hp
  · obtain ⟨_, _, e, r1, r2⟩ := rreps_two rr
    cases e
    split at hp
    · rename_i hj
      cases hp
      obtain rfl := rrep_int r1; obtain rfl := rrep_int r2
      exact op_mul pins s σ H _ _ v u Q I rx ry ⟨_, _, rfl, rfl, ((mulOk_iff.mp hj).elim (fun z => .inl ⟨z.1, by omega⟩) fun z => .inr ⟨z.1, by omega⟩), q _ G H (Grow.refl le) (nrep_f (rep_int.mpr rfl))⟩
    · cases hp
  · obtain ⟨_, _, e, r1, r2⟩ := rreps_two rr
    cases e
    split at hp
    · rename_i st n hj
      cases hp
      obtain ⟨rfl, h1⟩ := rrep_str r1; obtain rfl := rrep_int r2
      obtain ⟨t, rfl⟩ := rx; obtain ⟨t', rfl⟩ := ry
      have e1 : ∀ m : Nat, RelV (.str (repS st m)) (.str (repS st m) m) := fun m => ⟨_, rfl⟩
      refine PySem.P.mul_str (by
        have h2 : ¬ n < -(2 ^ 63 : Int) := by omega
        have h3 : ¬ n ≥ 2 ^ 63 := by omega
        rw [decide_eq_false h2, decide_eq_false h3]; rfl) (fun hn _ hb => ?_) (fun hn _ => ?_) ?_
      · have h4 : n ≤ 100000 := hj.2.1
        have h5 : (st.length : Int) ≤ 16777216 := by
          have : sizeLine = 16777216 := PySem.sizeLine_eq
          omega
        have h6 : (2 ^ 63 - 1 : Int) / n ≥ (2 ^ 63 - 1) / 100000 := by
          refine Int.le_ediv_of_mul_le (by omega) ?_
          have : (2 ^ 63 - 1 : Int) / 100000 * n ≤ (2 ^ 63 - 1 : Int) / 100000 * 100000 := Int.mul_le_mul_of_nonneg_left h4 (by decide)
          refine Int.le_trans this ?_
          decide
        have h7 : (16777216 : Int) ≤ (2 ^ 63 - 1) / 100000 := by decide
        omega
      · exact decide_eq_false (by have := hj.2.2; omega)
      · have fin : ∀ (m : Nat) (y : Str), y = repS st n.toNat → Q (.str y) H → EP X pins σ Q (.str y s.toks) { s with toks := s.toks + 1 } := fun m y e h => ⟨.str y, H, I.tok _, ⟨_, rfl⟩, h⟩
        have qq : Q (.str (repS st n.toNat)) H := q _ G H (Grow.refl le) (nrep_f (rep_str.mpr ⟨rfl, by rw [repS_length]; exact hj.2.2⟩))
        have ext : ∀ {a b : Str}, a.cps.toList = b.cps.toList → a = b := fun {a b} h => by cases a; cases b; congr; exact Array.toList_inj.mp h
        by_cases h0 : n < 1
        · rw [if_pos h0]
          have en : n.toNat = 0 := by omega
          have e : Str.empty = repS st n.toNat := by rw [en]; rfl
          refine ⟨by rw [e, repS_length]; exact hj.2.2, ?_⟩
          exact ⟨.str Str.empty, H, I.tok _, ⟨_, rfl⟩, by rw [e]; exact qq⟩
        · rw [if_neg h0]
          split
          · rename_i hc
            have e : st = repS st n.toNat := by
              simp only [Bool.or_eq_true, beq_iff_eq] at hc
              rcases hc with hc | hc
              · subst hc
                refine ext ?_
                show _ = (List.replicate 1 st.cps.toList).flatten
                simp
              · refine ext ?_
                have e0 : st.cps.toList = [] := by
                  have : st.cps.toList.length = 0 := by rw [Array.length_toList]; exact hc
                  exact List.eq_nil_of_length_eq_zero this
                show _ = (List.replicate n.toNat st.cps.toList).flatten
                rw [e0]; simp
            exact ⟨.str st, H, I, ⟨_, rfl⟩, by rw [← e] at qq; exact qq⟩
          · rw [repS_fold]
            exact ⟨by rw [repS_length]; exact hj.2.2, .str _, H, I.tok _, ⟨_, rfl⟩, qq⟩
    · cases hp
  · obtain ⟨_, _, e, r1, r2⟩ := rreps_two rr
    cases e
    split at hp
    · rename_i ds n hj
      cases hp
      obtain ⟨l, xs, rfl, s1, q1⟩ := rrep_lst le r1; obtain rfl := rrep_int r2
      have hz : xs.length * n.toNat ≤ sizeLine := by rw [← reps_length q1]; exact line_of hj.2.2
      exact op_rep pins s σ H _ _ v u Q I rx ry ⟨l, n, xs, rfl, rfl, s1, by omega, by omega, hz, fun p hp => new_lst le hp (reps_rep q1 _) q⟩
    · cases hp
  · cases hp
end
end M
/-! MPA: comparisons, membership, repr, len, isinstance, all, any. -/
namespace M
open PySem L2

/-! ### data -/
mutual
def toD : Val → Option PyData
  | .non => some .none
  | .bl b => some (.bool b)
  | .int i => some (.int i)
  | .str s => some (.str s)
  | .tup ds => (toDs ds).map .tuple
  | .lst ds => (toDs ds).map .list
  | .scr ns => some (.list (ns.map .int))
  | _ => none
def toDs : List Val → Option (List PyData)
  | [] => some []
  | d :: ds => match toD d, toDs ds with
    | some x, some xs => some (x :: xs)
    | _, _ => none
end
theorem dps_ints {K : PySem.W.Frag} {H : Hp} : ∀ ns : List Int, DpAll K H (ns.map V.int) (ns.map PyData.int)
  | [] => .nil
  | n :: ns => .cons (.int n) (dps_ints ns)
section
variable {w : Wd} {K : PySem.W.Frag} {G H : Hp}
mutual
theorem dp_of (hw : w.K = K) (le : Le G H) : ∀ {v : Val} {x : V} {d : PyData}, Rep w G v x → toD v = some d → Dp K H x d
  | .non, _, _, r, e => by rw [toD] at e; cases e; rw [rep_non.mp r]; exact .non
  | .bl b, _, _, r, e => by rw [toD] at e; cases e; rw [rep_bl.mp r]; exact .bl b
  | .int i, _, _, r, e => by rw [toD] at e; cases e; rw [rep_int.mp r]; exact .int i
  | .str s, _, _, r, e => by rw [toD] at e; cases e; rw [(rep_str.mp r).1]; exact .str s
  | .tup ds, _, _, r, e => by
    rw [toD, Option.map_eq_some_iff] at e
    obtain ⟨es, e, rfl⟩ := e
    obtain ⟨a, xs, rfl, q, r⟩ := rep_tup.mp r
    exact .tup (by rw [← hw]; exact sqt_mono le q) (dps_of hw le r e)
  | .lst ds, _, _, r, e => by
    rw [toD, Option.map_eq_some_iff] at e
    obtain ⟨es, e, rfl⟩ := e
    obtain ⟨a, xs, rfl, q, r⟩ := rep_lst.mp r
    exact .lst (.inl (.inl (le _ _ q))) (dps_of hw le r e)
  | .scr ns, _, _, r, e => by
    rw [toD] at e; cases e
    rw [Rep] at r
    obtain ⟨a, rfl, q⟩ := r
    exact .lst (by rw [← hw]; exact sql_mono le q) (dps_ints ns)
  | .dct _ _, _, _, _, e => by simp [toD] at e
  | .obj _ _, _, _, _, e => by simp [toD] at e
  | .ty _, _, _, _, e => by simp [toD] at e
  | .cls _, _, _, _, e => by simp [toD] at e
  | .exc _ _, _, _, _, e => by simp [toD] at e
theorem dps_of (hw : w.K = K) (le : Le G H) : ∀ {ds : List Val} {xs : List V} {es : List PyData}, Reps w G ds xs → toDs ds = some es → DpAll K H xs es
  | [], _, _, r, e => by rw [toDs] at e; cases e; rw [reps_nil.mp r]; exact .nil
  | d :: ds, _, _, r, e => by
    rw [toDs] at e
    obtain ⟨y, ys, rfl, r1, r2⟩ := reps_cons.mp r
    split at e
    · rename_i p ps e1 e2
      cases e
      exact .cons (dp_of hw le r1 e1) (dps_of hw le r2 e2)
    · cases e
end
theorem dp_rrep (hw : w.K = K) (le : Le G H) {v : Val} {x : V} {d : PyData} (r : RRep w G H v x) (e : toD v = some d) : Dp K H x d := by
  rcases r with r | ⟨a, rfl, r⟩
  · exact dp_of hw le r e
  · cases v with
    | lst ds =>
      obtain ⟨xs, q, r⟩ := r
      rw [toD, Option.map_eq_some_iff] at e
      obtain ⟨es, e, rfl⟩ := e
      exact .lst (.inl (.inl q)) (dps_of hw le r e)
    | dct t ds => simp [toD] at e
    | obj c fs => simp [toD] at e
    | _ => exact r.elim
end
abbrev shp (d : PyData) : Bool := SeqAt.shaped d
def Peq : List Val → Option (Bool × Val)
  | [a, b] => match toD a, toD b with
    | some d, some e => if shp d = true ∧ shp e = true then some (false, .bl (PyData.eqv d e)) else none
    | _, _ => none
  | _ => none
def Pne : List Val → Option (Bool × Val)
  | [a, b] => match toD a, toD b with
    | some d, some e => if shp d = true ∧ shp e = true then some (false, .bl (!PyData.eqv d e)) else none
    | _, _ => none
  | _ => none
def cmpI (f : Int → Int → Bool) : List Val → Option (Bool × Val)
  | [.int i, .int j] => some (false, .bl (f i j))
  | _ => none
def Plt := cmpI fun i j => decide (i < j)
def Ple := cmpI fun i j => decide (i ≤ j)
def Pgt := cmpI fun i j => decide (j < i)
def Pge := cmpI fun i j => decide (j ≤ i)
def Pis : List Val → Option (Bool × Val)
  | [.bl a, .bl b] => some (false, .bl (decide (a = b)))
  | [.non, .non] => some (false, .bl true)
  | [_, .non] => some (false, .bl false)
  | _ => none
def PisNot : List Val → Option (Bool × Val)
  | [.bl a, .bl b] => some (false, .bl (!decide (a = b)))
  | [.non, .non] => some (false, .bl false)
  | [_, .non] => some (false, .bl true)
  | _ => none
/-- x in y: a sign in a text, an item of a list, a flat item of a tuple -/
def inOf : Val → Val → Option Bool
  | .str x, .str y => match x.cps.toList with
    | [c] => some (decide (c ∈ y.cps.toList))
    | _ => none
  | d, .lst ds => match toD d, toDs ds with
    | some x, some xs => if shp x = true ∧ shp (.list xs) = true then some (xs.any fun z => PyData.eqv z x) else none
    | _, _ => none
  | _, _ => none
def flatD : PyData → Bool
  | .none => true
  | .bool _ => true
  | .int _ => true
  | .str _ => true
  | _ => false
def inTup : Val → Val → Option Bool
  | d, .tup ds => match toD d, toDs ds with
    | some x, some xs => if flatD x = true ∧ xs.all flatD = true then some (xs.any fun z => PyData.eqv z x) else none
    | _, _ => none
  | _, _ => none
def Pin : List Val → Option (Bool × Val)
  | [x, y] => match inOf x y with
    | some b => some (false, .bl b)
    | none => (inTup x y).map fun b => (false, .bl b)
  | _ => none
def PnotIn : List Val → Option (Bool × Val)
  | [x, y] => match inOf x y with
    | some b => some (false, .bl (!b))
    | none => (inTup x y).map fun b => (false, .bl (!b))
  | _ => none

section
variable {X : Cx} {w : Wd}
theorem bl_new {G H : Hp} {Q : VK} {b : Bool} (le : Le G H) (q : ∀ u G' H', Grow G H G' H' → NRep w G H G' H' false (.bl b) u → Q u H') : Q (.bl b) H := q _ G H (Grow.refl le) (nrep_f (rep_bl.mpr rfl))
theorem int_new {G H : Hp} {Q : VK} {b : Int} (le : Le G H) (q : ∀ u G' H', Grow G H G' H' → NRep w G H G' H' false (.int b) u → Q u H') : Q (.int b) H := q _ G H (Grow.refl le) (nrep_f (rep_int.mpr rfl))
theorem str_new {G H : Hp} {Q : VK} {b : Str} (le : Le G H) (hb : b.length ≤ sizeLine) (q : ∀ u G' H', Grow G H G' H' → NRep w G H G' H' false (.str b) u → Q u H') : Q (.str b) H := q _ G H (Grow.refl le) (nrep_f (rep_str.mpr ⟨rfl, hb⟩))
theorem opr_eq (c : Cal X w) : OpR X (compareOp .Eq) (r2Of w Peq) := by
  intro pins s σ H x y v u Q I rx ry ⟨G, vs, o, z, le, rr, hp, q⟩
  unfold Peq at hp
  split at hp
  · obtain ⟨_, _, e, r1, r2⟩ := rreps_two rr
    cases e
    split at hp
    · rename_i d e h1 h2
      split at hp
      · rename_i hs
        cases hp
        exact op_eqD (by have := c.un; omega) pins s σ H _ _ v u Q I rx ry ⟨d, e, dp_rrep c.K le r1 h1, dp_rrep c.K le r2 h2, hs.1, hs.2, bl_new le q⟩
      · cases hp
    · cases hp
  · cases hp
theorem opr_ne (c : Cal X w) : OpR X (compareOp .NotEq) (r2Of w Pne) := by
  intro pins s σ H x y v u Q I rx ry ⟨G, vs, o, z, le, rr, hp, q⟩
  unfold Pne at hp
  split at hp
  · obtain ⟨_, _, e, r1, r2⟩ := rreps_two rr
    cases e
    split at hp
    · rename_i d e h1 h2
      split at hp
      · rename_i hs
        cases hp
        exact op_neD (by have := c.un; omega) pins s σ H _ _ v u Q I rx ry ⟨d, e, dp_rrep c.K le r1 h1, dp_rrep c.K le r2 h2, hs.1, hs.2, bl_new le q⟩
      · cases hp
    · cases hp
  · cases hp
theorem cmpI_of {op : CmpOp} {f : Int → Int → Bool} (h : OpR X (compareOp op) (rI0 fun i j => .bl (f i j))) : OpR X (compareOp op) (r2Of w (cmpI f)) := by
  intro pins s σ H x y v u Q I rx ry ⟨G, vs, o, z, le, rr, hp, q⟩
  unfold cmpI at hp
  split at hp
  · obtain ⟨_, _, e, r1, r2⟩ := rreps_two rr
    cases e; cases hp
    obtain rfl := rrep_int r1; obtain rfl := rrep_int r2
    exact h pins s σ H _ _ v u Q I rx ry ⟨_, _, rfl, rfl, bl_new le q⟩
  · cases hp
theorem opr_lt : OpR X (compareOp .Lt) (r2Of w Plt) := cmpI_of op_lt
theorem opr_le : OpR X (compareOp .LtE) (r2Of w Ple) := cmpI_of op_le
theorem opr_gt : OpR X (compareOp .Gt) (r2Of w Pgt) := cmpI_of op_gt
theorem opr_ge : OpR X (compareOp .GtE) (r2Of w Pge) := cmpI_of op_ge
theorem rrep_not_non {G H : Hp} {v : Val} {x : V} (h : RRep w G H v x) (hv : v ≠ .non) : x ≠ .non := by
  intro e
  subst e
  rcases h with h | ⟨a, e, _⟩
  · cases v with
    | non => exact hv rfl
    | bl b => cases rep_bl.mp h
    | int i => cases rep_int.mp h
    | str s => cases (rep_str.mp h).1
    | ty n => cases rep_ty.mp h
    | tup ds => obtain ⟨_, _, e, _⟩ := rep_tup.mp h; cases e
    | lst ds => obtain ⟨_, _, e, _⟩ := rep_lst.mp h; cases e
    | dct t ds => rw [Rep] at h; obtain ⟨_, e, _⟩ := h; cases e
    | obj c fs => rw [Rep] at h; obtain ⟨_, _, _, _, e, _⟩ := h; cases e
    | exc c fs => rw [Rep] at h; obtain ⟨_, _, _, e, _⟩ := h; cases e
    | cls c => rw [Rep] at h; obtain ⟨_, _, e⟩ := h; cases e
    | scr ns => rw [Rep] at h; obtain ⟨_, e, _⟩ := h; cases e
  · cases e
theorem opr_is : OpR X (compareOp .Is) (r2Of w Pis) := by
  intro pins s σ H x y v u Q I rx ry ⟨G, vs, o, z, le, rr, hp, q⟩
  unfold Pis at hp
  split at hp
  · obtain ⟨_, _, e, r1, r2⟩ := rreps_two rr
    cases e; cases hp
    obtain rfl := rrep_bl r1; obtain rfl := rrep_bl r2
    exact op_isBl pins s σ H _ _ v u Q I rx ry ⟨_, _, rfl, rfl, bl_new le q⟩
  · obtain ⟨_, _, e, r1, r2⟩ := rreps_two rr
    cases e; cases hp
    obtain rfl := rrep_non r1; obtain rfl := rrep_non r2
    exact op_isN pins s σ H _ _ v u Q I rx ry ⟨rfl, by rw [decide_eq_true rfl]; exact bl_new le q⟩
  · rename_i t ht
    obtain ⟨_, _, e, r1, r2⟩ := rreps_two rr
    cases e; cases hp
    obtain rfl := rrep_non r2
    exact op_isN pins s σ H _ _ v u Q I rx ry ⟨rfl, by rw [decide_eq_false (rrep_not_non r1 ht)]; exact bl_new le q⟩
  · cases hp
theorem opr_isNot : OpR X (compareOp .IsNot) (r2Of w PisNot) := by
  intro pins s σ H x y v u Q I rx ry ⟨G, vs, o, z, le, rr, hp, q⟩
  unfold PisNot at hp
  split at hp
  · obtain ⟨_, _, e, r1, r2⟩ := rreps_two rr
    cases e; cases hp
    obtain rfl := rrep_bl r1; obtain rfl := rrep_bl r2
    exact op_notBl pins s σ H _ _ v u Q I rx ry ⟨_, _, rfl, rfl, bl_new le q⟩
  · obtain ⟨_, _, e, r1, r2⟩ := rreps_two rr
    cases e; cases hp
    obtain rfl := rrep_non r1; obtain rfl := rrep_non r2
    exact op_notN pins s σ H _ _ v u Q I rx ry ⟨rfl, by rw [decide_eq_true rfl]; exact bl_new le q⟩
  · rename_i t ht
    obtain ⟨_, _, e, r1, r2⟩ := rreps_two rr
    cases e; cases hp
    obtain rfl := rrep_non r2
    exact op_notN pins s σ H _ _ v u Q I rx ry ⟨rfl, by rw [decide_eq_false (rrep_not_non r1 ht)]; exact bl_new le q⟩
  · cases hp

/-! ### in, not in -/
theorem flat_V {K : PySem.W.Frag} {H : Hp} {x : V} {d : PyData} (h : Dp K H x d) (f : flatD d = true) : flatV x = true := by
  cases h <;> first | rfl | cases f
theorem eqv_V {K : PySem.W.Frag} {H : Hp} {x y : V} {d e : PyData} (h : Dp K H x d) (g : Dp K H y e) (f : flatD d = true) (f' : flatD e = true) : eqV x y = PyData.eqv d e := by
  cases h <;> cases g <;> first | (cases f; done) | (cases f'; done) | simp only [eqV, PyData.eqv]
theorem in_V {K : PySem.W.Frag} {H : Hp} {x : V} {d : PyData} (h : Dp K H x d) (f : flatD d = true) : ∀ {xs : List V} {ds : List PyData}, DpAll K H xs ds → ds.all flatD = true → xs.all flatV = true ∧ inV x xs = ds.any fun z => PyData.eqv z d
  | _, _, .nil, _ => ⟨rfl, rfl⟩
  | _, _, .cons (v := y) (vs := ys) (d := e) (ds := es) h1 h2, a => by
    rw [List.all_cons, Bool.and_eq_true] at a
    obtain ⟨q1, q2⟩ := in_V h f h2 a.2
    refine ⟨?_, ?_⟩
    · rw [List.all_cons, flat_V h1 a.1, q1]; rfl
    · show (eqV y x || inV x ys) = _
      rw [q2, eqv_V h1 h a.1 f]; rfl
theorem str_one {x : Str} {c : Nat} (h : x.cps.toList = [c]) : x = ⟨#[c]⟩ := by
  cases x with
  | mk a =>
    congr
    exact Array.toList_inj.mp h
theorem in_run (c : Cal X w) {pins : List (Addr × Obj)} {s : Shared} {σ : L2.St} {G H : Hp} {x y : V} {v u : Value} {Q : VK} {a b : Val} {k : Bool} (I : Inv X pins σ H s) (rx : RelV x v) (ry : RelV y u) (le : Le G H) (r1 : RRep w G H a x) (r2 : RRep w G H b y)
    (h : inOf a b = some k ∨ inTup a b = some k) : (Q (.bl k) H → wpAny (model X.prog X.w) X.A (compareOp .In v u) (EP X pins σ Q) X.xe s) ∧ (Q (.bl (!k)) H → wpAny (model X.prog X.w) X.A (compareOp .NotIn v u) (EP X pins σ Q) X.xe s) := by
  rcases h with h | h
  · unfold inOf at h
    split at h
    · split at h
      · rename_i ch hc
        cases h
        obtain ⟨rfl, _⟩ := rrep_str r1; obtain ⟨rfl, _⟩ := rrep_str r2
        rw [str_one hc] at rx
        exact ⟨fun q => op_in_sign pins s σ H _ _ v u Q I rx ry ⟨_, _, rfl, rfl, q⟩, fun q => op_notIn_sign pins s σ H _ _ v u Q I rx ry ⟨_, _, rfl, rfl, q⟩⟩
      · cases h
    · split at h
      · rename_i d' ds' h1 h2
        split at h
        · rename_i hs
          cases h
          have hd := dp_rrep c.K le r1 h1
          have hl := dp_rrep c.K le r2 (d := .list ds') (by rw [toD, h2]; rfl)
          exact ⟨fun q => op_inD (by have := c.un; omega) pins s σ H _ _ v u Q I rx ry ⟨_, _, hd, hl, hs.1, hs.2, q⟩, fun q => op_notInD (by have := c.un; omega) pins s σ H _ _ v u Q I rx ry ⟨_, _, hd, hl, hs.1, hs.2, q⟩⟩
        · cases h
      · cases h
    · cases h
  · unfold inTup at h
    split at h
    · split at h
      · rename_i d' ds' h1 h2
        split at h
        · rename_i hs
          cases h
          have hd := dp_rrep c.K le r1 h1
          obtain ⟨p, xs, rfl, sq, rs⟩ := rrep_tup le r2
          obtain ⟨f2, e2⟩ := in_V hd hs.1 (dps_of c.K le rs h2) hs.2
          have f1 := flat_V hd hs.1
          rw [c.K] at sq
          exact ⟨fun q => op_in_seq pins s σ H _ _ v u Q I rx ry ⟨p, xs, rfl, .inr sq, f1, f2, by simp only [Bool.false_eq_true, if_false]; rw [e2]; exact q⟩,
            fun q => op_notIn_seq pins s σ H _ _ v u Q I rx ry ⟨p, xs, rfl, .inr sq, f1, f2, by simp only [if_true]; rw [e2]; exact q⟩⟩
        · cases h
      · cases h
    · cases h
theorem opr_in (c : Cal X w) : OpR X (compareOp .In) (r2Of w Pin) := by
  intro pins s σ H x y v u Q I rx ry ⟨G, vs, o, z, le, rr, hp, q⟩
  unfold Pin at hp
  split at hp
  · obtain ⟨_, _, e, r1, r2⟩ := rreps_two rr
    cases e
    split at hp
    · rename_i k hk
      cases hp
      exact (in_run c I rx ry le r1 r2 (.inl hk)).1 (bl_new le q)
    · rw [Option.map_eq_some_iff] at hp
      obtain ⟨k, hk, e⟩ := hp
      cases e
      exact (in_run c I rx ry le r1 r2 (.inr hk)).1 (bl_new le q)
  · cases hp
theorem opr_notIn (c : Cal X w) : OpR X (compareOp .NotIn) (r2Of w PnotIn) := by
  intro pins s σ H x y v u Q I rx ry ⟨G, vs, o, z, le, rr, hp, q⟩
  unfold PnotIn at hp
  split at hp
  · obtain ⟨_, _, e, r1, r2⟩ := rreps_two rr
    cases e
    split at hp
    · rename_i k hk
      cases hp
      exact (in_run c I rx ry le r1 r2 (.inl hk)).2 (bl_new le q)
    · rw [Option.map_eq_some_iff] at hp
      obtain ⟨k, hk, e⟩ := hp
      cases e
      exact (in_run c I rx ry le r1 r2 (.inr hk)).2 (bl_new le q)
  · cases hp
end
end M
/-! MPB: built-in functions and types, subscripts, slices, join. -/
namespace M
open PySem L2

/-! ### built-in functions on frozen or owned values -/
def tyOf : Val → Option String
  | .non => some "NoneType"
  | .bl _ => some "bool"
  | .int _ => some "int"
  | .str _ => some "str"
  | .tup _ => some "tuple"
  | .lst _ => some "list"
  | .scr _ => some "list"
  | .dct _ _ => some "dict"
  | _ => none
def Pisi : List Val → Option (Bool × Val)
  | [v, .ty T] => match tyOf v with
    | some a => (kitB a T).map fun b => (false, .bl b)
    | none => none
  | _ => none
def Plen : List Val → Option (Bool × Val)
  | [.str s] => some (false, .int s.length)
  | [.lst ds] => some (false, .int ds.length)
  | [.tup ds] => some (false, .int ds.length)
  | [.scr ns] => some (false, .int ns.length)
  | _ => none
def Pabs : List Val → Option (Bool × Val)
  | [.int i] => some (false, .int (if i < 0 then -i else i))
  | _ => none
def Pint : List Val → Option (Bool × Val)
  | [.int i] => some (false, .int i)
  | [.bl b] => some (false, .int (if b then 1 else 0))
  | _ => none
def Pmax2 : List Val → Option (Bool × Val)
  | [.int i, .int j] => some (false, .int (if j > i then j else i))
  | _ => none
def Pmin2 : List Val → Option (Bool × Val)
  | [.int i, .int j] => some (false, .int (if j < i then j else i))
  | _ => none
def Pstr : List Val → Option (Bool × Val)
  | [.int i] => if i.natAbs.log2 < 1920 ∧ (toString i : Str).length ≤ sizeLine then some (false, .str (toString i)) else none
  | [.str s] => some (false, .str s)
  | _ => none
def Prepr : List Val → Option (Bool × Val)
  | [v] => match toD v with
    | some d => if d.showable = true ∧ d.hasDict = false ∧ d.depth ≤ 60 ∧ d.shown.length ≤ sizeLine then some (false, .str d.shown) else none
    | none => none
  | _ => none
def asBls : List Val → Option (List Bool)
  | [] => some []
  | .bl b :: vs => (asBls vs).map (b :: ·)
  | _ => none
def asStrs : List Val → Option (List Str)
  | [] => some []
  | .str b :: vs => (asStrs vs).map (b :: ·)
  | _ => none
def Pall : List Val → Option (Bool × Val)
  | [.lst ds] => (asBls ds).map fun bs => (false, .bl (bs.all id))
  | _ => none
def Pany : List Val → Option (Bool × Val)
  | [.lst ds] => (asBls ds).map fun bs => (false, .bl (bs.any id))
  | _ => none
def Plist : List Val → Option (Bool × Val)
  | [.lst ds] => some (true, .lst ds)
  | [.tup ds] => some (true, .lst ds)
  | [.scr ns] => some (true, .lst (ns.map .int))
  | _ => none
def Ptuple : List Val → Option (Bool × Val)
  | [.lst ds] => some (false, .tup ds)
  | [.tup ds] => some (false, .tup ds)
  | _ => none
theorem asBls_some : ∀ {vs : List Val} {bs : List Bool}, asBls vs = some bs → vs = bs.map .bl
  | [], _, h => by simp only [asBls, Option.some.injEq] at h; subst h; rfl
  | .bl b :: vs, _, h => by
    simp only [asBls, Option.map_eq_some_iff] at h
    obtain ⟨c, e, rfl⟩ := h
    rw [asBls_some e]; rfl
  | .non :: _, _, h => by cases h
  | .int _ :: _, _, h => by cases h
  | .str _ :: _, _, h => by cases h
  | .tup _ :: _, _, h => by cases h
  | .lst _ :: _, _, h => by cases h
  | .dct _ _ :: _, _, h => by cases h
  | .obj _ _ :: _, _, h => by cases h
  | .ty _ :: _, _, h => by cases h
  | .cls _ :: _, _, h => by cases h
  | .exc _ _ :: _, _, h => by cases h
  | .scr _ :: _, _, h => by cases h
theorem asStrs_some : ∀ {vs : List Val} {bs : List Str}, asStrs vs = some bs → vs = bs.map .str
  | [], _, h => by simp only [asStrs, Option.some.injEq] at h; subst h; rfl
  | .str b :: vs, _, h => by
    simp only [asStrs, Option.map_eq_some_iff] at h
    obtain ⟨c, e, rfl⟩ := h
    rw [asStrs_some e]; rfl
  | .non :: _, _, h => by cases h
  | .int _ :: _, _, h => by cases h
  | .bl _ :: _, _, h => by cases h
  | .tup _ :: _, _, h => by cases h
  | .lst _ :: _, _, h => by cases h
  | .dct _ _ :: _, _, h => by cases h
  | .obj _ _ :: _, _, h => by cases h
  | .ty _ :: _, _, h => by cases h
  | .cls _ :: _, _, h => by cases h
  | .exc _ _ :: _, _, h => by cases h
  | .scr _ :: _, _, h => by cases h

section
variable {X : Cx} {w : Wd}
/-- a list or the script, as it is read -/
theorem rrep_seq (c : Cal X w) {G H : Hp} {v : Val} {x : V} {ds : List Val} (le : Le G H) (r : RRep w G H v x) (h : Plist [v] = some (true, .lst ds)) : ∃ p ys, x = .ref p ∧ (SqL X.K H p ys ∨ SqT X.K H p ys) ∧ Reps w G ds ys := by
  unfold Plist at h
  split at h
  · rename_i e; cases e; cases h
    obtain ⟨a, xs, rfl, q, r⟩ := rrep_lst le r
    exact ⟨a, xs, rfl, .inl (.inl (.inl q)), r⟩
  · rename_i e; cases e; cases h
    obtain ⟨a, xs, rfl, q, r⟩ := rrep_tup le r
    rw [c.K] at q
    exact ⟨a, xs, rfl, .inr q, r⟩
  · rename_i e; cases e; cases h
    obtain ⟨a, rfl, q⟩ := rrep_scr le r
    rw [c.K] at q
    exact ⟨a, _, rfl, .inl q, reps_of_ints⟩
  · cases h
theorem kit_val (c : Cal X w) {pins : List (Addr × Obj)} {s : Shared} {σ : L2.St} {G H : Hp} {v : Val} {x : V} {u : Value} {T : String} (I : Inv X pins σ H s) (rx : RelV x u) (le : Le G H) (r : RRep w G H v x) (h : tyOf v = some T) :
    ∃ P : Heap → Prop, PySem.W.KitX X.K u (.type T) P ∧ P s.heap ∧ u ≠ .builtin "__main__.__loader__#opaque" := by
  cases v with
  | non => cases h; obtain rfl := rrep_non r; exact kit_of I rx (.base .non)
  | bl b => cases h; obtain rfl := rrep_bl r; exact kit_of I rx (.base (.bl b))
  | int i => cases h; obtain rfl := rrep_int r; exact kit_of I rx (.base (.int i))
  | str y => cases h; obtain ⟨rfl, _⟩ := rrep_str r; exact kit_of I rx (.base (.str y))
  | tup ds =>
    cases h
    obtain ⟨a, xs, rfl, q, _⟩ := rrep_tup le r
    rw [c.K] at q
    obtain ⟨its, _, ⟨o, ho, hc, _⟩, _⟩ := I.tuple q
    cases (show u = Value.ref a from rx)
    exact ⟨_, PySem.W.kitx_tuple, ⟨o, ho, hc⟩, fun z => nomatch z⟩
  | lst ds => cases h; obtain ⟨a, xs, rfl, q, _⟩ := rrep_lst le r; exact kit_of I rx (.base (.lst q))
  | scr ns =>
    cases h
    obtain ⟨a, rfl, q⟩ := rrep_scr le r
    rw [c.K] at q
    obtain ⟨its, _, ⟨o, n, ho, hc, _⟩, _⟩ := I.list q
    cases (show u = Value.ref a from rx)
    exact ⟨_, PySem.W.kitx_list, ⟨o, ho, hc⟩, fun z => nomatch z⟩
  | dct t kvs =>
    cases h
    obtain ⟨a, rfl, q⟩ := rrep_dct le r
    cases (show u = Value.ref a from rx)
    have dK : ∀ {kvs : List (Key × V)}, ObjOk X.prog X.w H s.heap a (.dK kvs) → ∃ o, s.heap.get? a = some o ∧ o.cls = .type "dict" := fun {kvs} h => by
      obtain ⟨_, _, vs, _, o, es, ep, h1, h2, _⟩ := h
      exact ⟨o, h1, h2.1⟩
    have dT : ∀ {kvs : List (List Key × V)}, ObjOk X.prog X.w H s.heap a (.dT kvs) → ∃ o, s.heap.get? a = some o ∧ o.cls = .type "dict" := fun {kvs} h => by
      obtain ⟨_, _, xs, _, o, es, ep, h1, h2, _⟩ := h
      exact ⟨o, h1, h2.1⟩
    have : ∃ o, s.heap.get? a = some o ∧ o.cls = .type "dict" := by
      rcases q with ⟨_, kvs, q | ⟨ob, q⟩, _⟩ | ⟨_, kvs, q | ⟨ob, q⟩, _⟩
      · exact dK (I.hok a _ q)
      · exact dK (I.hok a _ q).2
      · exact dT (I.hok a _ q)
      · exact dT (I.hok a _ q).2
    exact ⟨_, PySem.W.kitx_dict, this, fun z => nomatch z⟩
  | _ => cases h
theorem bi_isi (c : Cal X w) : CallR X (.builtin "isinstance") (rOf w Pisi) := by
  intro pins s σ H xs us Q I r ⟨G, vs, o, z, le, rr, hp, q⟩
  unfold Pisi at hp
  split at hp
  · rename_i T
    obtain ⟨x, y, e, r1, r2⟩ := rreps_two rr
    subst e
    split at hp
    · rename_i a ha
      rw [Option.map_eq_some_iff] at hp
      obtain ⟨b, hb, e⟩ := hp
      cases e
      obtain rfl := rrep_ty r2
      obtain ⟨u1, u2, rfl, q1, q2⟩ := vals2 r
      cases (show u2 = Value.type T from q2)
      obtain ⟨P, Z, p, hx⟩ := kit_val c I q1 le r1 ha
      exact PySem.W.kia_one Z I.kIn p (kit_ty hb) hx fun tk => ⟨.bl b, H, I.tok tk, rfl, bl_new le q⟩
    · cases hp
  · cases hp
theorem bi_len (c : Cal X w) : CallR X (.builtin "len") (rOf w Plen) := by
  intro pins s σ H xs us Q I r ⟨G, vs, o, z, le, rr, hp, q⟩
  unfold Plen at hp
  split at hp
  · obtain ⟨x, e, r1⟩ := rreps_one rr
    subst e; cases hp
    obtain ⟨rfl, hz⟩ := rrep_str r1
    exact call_len pins s σ H _ us Q I r ⟨_, _, rfl, ⟨hz, rfl⟩, int_new le q⟩
  · obtain ⟨x, e, r1⟩ := rreps_one rr
    subst e; cases hp
    obtain ⟨a, xs, rfl, h, rs⟩ := rrep_lst le r1
    rw [reps_length rs] at q
    exact call_len pins s σ H _ us Q I r ⟨_, _, rfl, .inl ⟨xs, .inl (.inl h), rfl⟩, int_new le q⟩
  · obtain ⟨x, e, r1⟩ := rreps_one rr
    subst e; cases hp
    obtain ⟨a, xs, rfl, h, rs⟩ := rrep_tup le r1
    rw [c.K] at h
    rw [reps_length rs] at q
    exact call_len pins s σ H _ us Q I r ⟨_, _, rfl, .inr ⟨xs, h, rfl⟩, int_new le q⟩
  · obtain ⟨x, e, r1⟩ := rreps_one rr
    subst e; cases hp
    obtain ⟨a, rfl, h⟩ := rrep_scr le r1
    rw [c.K] at h
    rename_i ns
    have e : ns.length = (ns.map V.int).length := by simp
    rw [e] at q
    exact call_len pins s σ H _ us Q I r ⟨_, _, rfl, .inl ⟨_, h, rfl⟩, int_new le q⟩
  · cases hp
theorem bi_abs : CallR X (.builtin "abs") (rOf w Pabs) := by
  intro pins s σ H xs us Q I r ⟨G, vs, o, z, le, rr, hp, q⟩
  unfold Pabs at hp
  split at hp
  · obtain ⟨x, e, r1⟩ := rreps_one rr
    subst e; cases hp
    obtain rfl := rrep_int r1
    exact call_abs pins s σ H _ us Q I r ⟨_, rfl, int_new le q⟩
  · cases hp
theorem bi_int : CallR X (.type "int") (rOf w Pint) := by
  intro pins s σ H xs us Q I r ⟨G, vs, o, z, le, rr, hp, q⟩
  unfold Pint at hp
  split at hp
  · obtain ⟨x, e, r1⟩ := rreps_one rr
    subst e; cases hp
    obtain rfl := rrep_int r1
    exact call_int1 pins s σ H _ us Q I r (.inl ⟨_, rfl, int_new le q⟩)
  · obtain ⟨x, e, r1⟩ := rreps_one rr
    subst e; cases hp
    obtain rfl := rrep_bl r1
    exact call_int1 pins s σ H _ us Q I r (.inr ⟨_, rfl, int_new le q⟩)
  · cases hp
theorem bi_max2 (c : Cal X w) : CallR X (.builtin "max") (rOf w Pmax2) := by
  intro pins s σ H xs us Q I r ⟨G, vs, o, z, le, rr, hp, q⟩
  unfold Pmax2 at hp
  split at hp
  · obtain ⟨x, y, e, r1, r2⟩ := rreps_two rr
    subst e; cases hp
    obtain rfl := rrep_int r1; obtain rfl := rrep_int r2
    exact call_max2 c.calm pins s σ H _ us Q I r ⟨_, _, rfl, int_new le q⟩
  · cases hp
theorem bi_min2 (c : Cal X w) : CallR X (.builtin "min") (rOf w Pmin2) := by
  intro pins s σ H xs us Q I r ⟨G, vs, o, z, le, rr, hp, q⟩
  unfold Pmin2 at hp
  split at hp
  · obtain ⟨x, y, e, r1, r2⟩ := rreps_two rr
    subst e; cases hp
    obtain rfl := rrep_int r1; obtain rfl := rrep_int r2
    exact call_min2 c.calm pins s σ H _ us Q I r ⟨_, _, rfl, int_new le q⟩
  · cases hp
theorem bi_str : CallR X (.type "str") (rOf w Pstr) := by
  intro pins s σ H xs us Q I r ⟨G, vs, o, z, le, rr, hp, q⟩
  unfold Pstr at hp
  split at hp
  · obtain ⟨x, e, r1⟩ := rreps_one rr
    subst e
    split at hp
    · rename_i hi
      cases hp
      obtain rfl := rrep_int r1
      exact call_str_int pins s σ H _ us Q I r ⟨_, rfl, hi.1, str_new le hi.2 q⟩
    · cases hp
  · obtain ⟨x, e, r1⟩ := rreps_one rr
    subst e; cases hp
    obtain ⟨rfl, hz⟩ := rrep_str r1
    exact SkE.call_str_str pins s σ H _ us Q I r ⟨_, rfl, str_new le hz q⟩
  · cases hp
theorem bi_all (c : Cal X w) : CallR X (.builtin "all") (rOf w Pall) := by
  intro pins s σ H xs us Q I r ⟨G, vs, o, z, le, rr, hp, q⟩
  unfold Pall at hp
  split at hp
  · obtain ⟨x, e, r1⟩ := rreps_one rr
    subst e
    rw [Option.map_eq_some_iff] at hp
    obtain ⟨bs, hb, e⟩ := hp
    cases e
    obtain ⟨a, xs, rfl, h, rs⟩ := rrep_lst le r1
    rw [asBls_some hb] at rs
    rw [reps_bls rs] at h
    exact cr_all c.calm pins s σ H _ us Q I r ⟨a, bs, rfl, .inl (.inl h), bl_new le q⟩
  · cases hp
theorem bi_any (c : Cal X w) : CallR X (.builtin "any") (rOf w Pany) := by
  intro pins s σ H xs us Q I r ⟨G, vs, o, z, le, rr, hp, q⟩
  unfold Pany at hp
  split at hp
  · obtain ⟨x, e, r1⟩ := rreps_one rr
    subst e
    rw [Option.map_eq_some_iff] at hp
    obtain ⟨bs, hb, e⟩ := hp
    cases e
    obtain ⟨a, xs, rfl, h, rs⟩ := rrep_lst le r1
    rw [asBls_some hb] at rs
    rw [reps_bls rs] at h
    exact cr_any c.calm pins s σ H _ us Q I r ⟨a, bs, rfl, .inl (.inl h), bl_new le q⟩
  · cases hp
theorem bi_list (c : Cal X w) : CallR X (.type "list") (rOf w Plist) := by
  intro pins s σ H xs us Q I r ⟨G, vs, o, z, le, rr, hp, q⟩
  have shape : ∃ v ds, vs = [v] ∧ o = true ∧ z = .lst ds := by
    unfold Plist at hp
    split at hp <;> first | (cases hp; exact ⟨_, _, rfl, rfl, rfl⟩) | cases hp
  obtain ⟨v, ds, rfl, rfl, rfl⟩ := shape
  obtain ⟨x, e, r1⟩ := rreps_one rr
  subst e
  obtain ⟨p, ys, rfl, hs, rs⟩ := rrep_seq c le r1 hp
  exact call_list_of pins s σ H _ us Q I r ⟨p, ys, rfl, hs, fun l hl => new_lst le hl rs q⟩
theorem bi_tuple (c : Cal X w) : CallR X (.type "tuple") (rOf w Ptuple) := by
  intro pins s σ H xs us Q I r ⟨G, vs, o, z, le, rr, hp, q⟩
  unfold Ptuple at hp
  split at hp
  · obtain ⟨x, e, r1⟩ := rreps_one rr
    subst e; cases hp
    obtain ⟨a, xs, rfl, h, rs⟩ := rrep_lst le r1
    refine call_tuple_of pins s σ H _ us Q I r ⟨a, xs, rfl, .inl ⟨.inl (.inl h), fun p hp => ?_⟩⟩
    have gr := Grow.laidG (o := .tup xs) le hp
    exact q _ _ _ gr (nrep_f (rep_tup.mpr ⟨p, xs, rfl, SqT.of upd_same, rs.mono gr.g⟩))
  · obtain ⟨x, e, r1⟩ := rreps_one rr
    subst e; cases hp
    have r0 := r1
    obtain ⟨a, xs, rfl, h, rs⟩ := rrep_tup le r1
    rw [c.K] at h
    refine call_tuple_of pins s σ H _ us Q I r ⟨a, xs, rfl, .inr ⟨h, ?_⟩⟩
    refine q _ _ _ (Grow.refl le) (nrep_f ?_)
    rcases r0 with r0 | ⟨_, _, r0⟩
    · exact r0
    · exact r0.elim
  · cases hp
theorem bi_repr (c : Cal X w) : CallR X (.builtin "repr") (rOf w Prepr) := by
  intro pins s σ H xs us Q I r ⟨G, vs, o, z, le, rr, hp, q⟩
  unfold Prepr at hp
  split at hp
  · obtain ⟨x, e, r1⟩ := rreps_one rr
    subst e
    split at hp
    · rename_i d hd
      split at hp
      · rename_i hc
        cases hp
        obtain ⟨h1, h2, h3, h4⟩ := hc
        obtain ⟨u, rfl, ru⟩ := vals1 r
        have dp := dp_rrep c.K le r1 hd
        have fin : ∀ s', Inv X pins σ H s' → ∀ t, EP X pins σ Q (.str d.shown t) s' := fun s' J t => ⟨.str d.shown, H, J, ⟨_, rfl⟩, str_new le h4 q⟩
        cases dp with
        | non => cases ru; exact PySem.P.repr_of_none (by have := fin { s with toks := s.toks + 1 } (I.tok _) s.toks; simpa only [PyData.shown] using this)
        | bl b => cases ru; exact PySem.P.repr_of_bool (by have := fin { s with toks := s.toks + 1 } (I.tok _) s.toks; simpa only [PyData.shown] using this)
        | int i => obtain ⟨t, rfl⟩ := ru; exact PySem.P.repr_of_int (by simpa [PyData.showable] using h1) (by have := fin { s with toks := s.toks + 1 } (I.tok _) s.toks; simpa only [PyData.shown] using this)
        | str y => obtain ⟨t, rfl⟩ := ru; exact PySem.P.repr_of_str (by have := fin { s with toks := s.toks + 1 } (I.tok _) s.toks; simpa only [PyData.shown] using this) (by simpa only [PyData.shown] using h4)
        | @lst a ys ds hs ha =>
          cases ru
          obtain ⟨as, rd⟩ := Dp.reads I _ _ _ (Dp.lst hs ha) (show RelV (.ref a) (.ref a) from rfl)
          refine PySem.repr_of_reads' rd h1 (PyData.noDict_hsm h2) c.gs (by have := c.un; omega) (fun b o e => e) (fun h' u tk hk => fin _ (I.kept (t' := tk) hk) u) h4
        | @tup a ys ds hs ha =>
          cases ru
          obtain ⟨as, rd⟩ := Dp.reads I _ _ _ (Dp.tup hs ha) (show RelV (.ref a) (.ref a) from rfl)
          refine PySem.repr_of_reads' rd h1 (PyData.noDict_hsm h2) c.gs (by have := c.un; omega) (fun b o e => e) (fun h' u tk hk => fin _ (I.kept (t' := tk) hk) u) h4
      · cases hp
    · cases hp
  · cases hp
end
end M
/-! MPD: subscripts, slices, what is walked, dict lookups. -/
namespace M
open PySem L2

/-! ### keys -/
def keyIs : Key → Val → Bool
  | .inl i, .int j => i == j
  | .inr s, .str t => s == t
  | _, _ => false
def keyOf : Val → Option Key
  | .int i => some (.inl i)
  | .str s => some (.inr s)
  | _ => none
def dGet (kvs : List (Val × Val)) (q : Key) : Option Val := (kvs.find? fun p => keyIs q p.1).map (·.2)
def dPut (kvs : List (Val × Val)) (q : Key) (v : Val) : List (Val × Val) := if (kvs.any fun p => keyIs q p.1) = true then kvs.map (fun p => if keyIs q p.1 = true then (p.1, v) else p) else kvs ++ [(kv q, v)]
def dDel (kvs : List (Val × Val)) (q : Key) : List (Val × Val) := kvs.filter fun p => !keyIs q p.1
theorem keyIs_kv (q q' : Key) : keyIs q (kv q') = decide (q' = q) := by
  cases q <;> cases q' <;> simp [keyIs, kv] <;> (rw [Bool.eq_iff_iff]; simp; exact ⟨Eq.symm, Eq.symm⟩)
theorem keyOf_kv {v : Val} {q : Key} (h : keyOf v = some q) : v = kv q := by
  cases v <;> simp [keyOf] at h <;> (subst h; rfl)
section
variable {w : Wd} {G : Hp}
theorem repK_get (q : Key) : ∀ {ds : List (Val × Val)} {kvs : List (Key × V)}, RepK w G ds kvs → (∀ d, dGet ds q = some d → ∃ x, valV kvs q = some x ∧ Rep w G d x) ∧ (dGet ds q = none → valV kvs q = none)
  | [], kvs, r => by
    rw [RepK] at r; subst r
    exact ⟨fun d h => by simp [dGet] at h, fun _ => rfl⟩
  | (k, d) :: ds, kvs, r => by
    rw [RepK] at r
    obtain ⟨q', y, ys, rfl, ⟨rfl, _⟩, r1, r2⟩ := r
    obtain ⟨i1, i2⟩ := repK_get q r2
    by_cases e : q' = q
    · have hk : keyIs q (kv q') = true := by rw [keyIs_kv]; exact decide_eq_true e
      refine ⟨fun d' h => ?_, fun h => ?_⟩
      · simp [dGet, List.find?_cons, hk] at h
        subst h
        exact ⟨y, valV_pos e, r1⟩
      · simp [dGet, List.find?_cons, hk] at h
    · have hk : keyIs q (kv q') = false := by rw [keyIs_kv]; exact decide_eq_false e
      have e2 : dGet ((kv q', d) :: ds) q = dGet ds q := by simp [dGet, List.find?_cons, hk]
      rw [e2, valV_neg e]
      exact ⟨i1, i2⟩
theorem repK_length : ∀ {ds : List (Val × Val)} {kvs : List (Key × V)}, RepK w G ds kvs → ds.length = kvs.length
  | [], _, r => by rw [RepK] at r; subst r; rfl
  | (k, d) :: ds, _, r => by
    rw [RepK] at r
    obtain ⟨q', y, ys, rfl, _, _, r2⟩ := r
    simp [repK_length r2]
theorem repK_any (q : Key) : ∀ {ds : List (Val × Val)} {kvs : List (Key × V)}, RepK w G ds kvs → (ds.any fun p => keyIs q p.1) = kvs.any fun kv => decide (kv.1 = q)
  | [], _, r => by rw [RepK] at r; subst r; rfl
  | (k, d) :: ds, _, r => by
    rw [RepK] at r
    obtain ⟨q', y, ys, rfl, ⟨rfl, _⟩, _, r2⟩ := r
    rw [List.any_cons, List.any_cons, repK_any q r2, keyIs_kv]
theorem repK_map {q : Key} {d : Val} {x : V} (rv : Rep w G d x) : ∀ {ds : List (Val × Val)} {kvs : List (Key × V)}, RepK w G ds kvs → RepK w G (ds.map fun p => if keyIs q p.1 = true then (p.1, d) else p) (kvs.map fun kv => if kv.1 = q then (kv.1, x) else kv)
  | [], _, r => by rw [RepK] at r; subst r; rw [List.map_nil, List.map_nil, RepK]
  | (k, e) :: ds, _, r => by
    rw [RepK] at r
    obtain ⟨q', y, ys, rfl, ⟨rfl, hb⟩, r1, r2⟩ := r
    rw [List.map_cons, List.map_cons]
    by_cases h : q' = q
    · subst h
      have hk : keyIs q' (kv q') = true := by rw [keyIs_kv]; exact decide_eq_true rfl
      simp only [hk, if_true]
      rw [RepK]
      exact ⟨q', x, _, rfl, ⟨rfl, hb⟩, rv, repK_map rv r2⟩
    · have hk : keyIs q (kv q') = false := by rw [keyIs_kv]; exact decide_eq_false h
      simp only [hk, h, Bool.false_eq_true, if_false]
      rw [RepK]
      exact ⟨q', y, _, rfl, ⟨rfl, hb⟩, r1, repK_map rv r2⟩
theorem repK_app : ∀ {ds es : List (Val × Val)} {xs ys : List (Key × V)}, RepK w G ds xs → RepK w G es ys → RepK w G (ds ++ es) (xs ++ ys)
  | [], _, _, _, r, q => by rw [RepK] at r; subst r; simpa using q
  | (k, d) :: ds, _, _, _, r, q => by
    rw [RepK] at r
    obtain ⟨q', y, zs, rfl, hb, r1, r2⟩ := r
    rw [List.cons_append, List.cons_append, RepK]
    exact ⟨q', y, _, rfl, hb, r1, repK_app r2 q⟩
theorem repK_put {q : Key} {d : Val} {x : V} {ds : List (Val × Val)} {kvs : List (Key × V)} (r : RepK w G ds kvs) (hb : kb q) (rv : Rep w G d x) : RepK w G (dPut ds q d) (putK kvs q x) := by
  unfold dPut putK
  rw [repK_any q r]
  split
  · exact repK_map rv r
  · refine repK_app r ?_
    rw [RepK]
    exact ⟨q, x, [], rfl, ⟨rfl, hb⟩, rv, by rw [RepK]⟩
theorem repK_del {q : Key} : ∀ {ds : List (Val × Val)} {kvs : List (Key × V)}, RepK w G ds kvs → RepK w G (dDel ds q) (dropK kvs q)
  | [], _, r => by rw [RepK] at r; subst r; simp [dDel, dropK]; rw [RepK]
  | (k, e) :: ds, _, r => by
    rw [RepK] at r
    obtain ⟨q', y, ys, rfl, ⟨rfl, hb⟩, r1, r2⟩ := r
    have ih := repK_del (q := q) r2
    unfold dDel dropK at ih ⊢
    rw [List.filter_cons, List.filter_cons]
    by_cases h : q' = q
    · subst h
      have hk : keyIs q' (kv q') = true := by rw [keyIs_kv]; exact decide_eq_true rfl
      simp only [hk, Bool.not_true, Bool.false_eq_true, if_false, ne_eq, not_true, decide_false]
      simp only [ne_eq] at ih
      exact ih
    · have hk : keyIs q (kv q') = false := by rw [keyIs_kv]; exact decide_eq_false h
      simp only [hk, h, Bool.not_false, if_true, ne_eq, not_false_eq_true, decide_true]
      simp only [ne_eq] at ih
      rw [RepK]
      exact ⟨q', y, _, rfl, ⟨rfl, hb⟩, r1, ih⟩
theorem rrep_key {H : Hp} {v : Val} {x : V} {q : Key} (r : RRep w G H v x) (h : keyOf v = some q) : x = kV q ∧ kb q := by
  cases v <;> simp [keyOf] at h
  · subst h; exact ⟨rrep_int r, True.intro⟩
  · subst h; exact rrep_str r
end

/-! ### a[i] -/
def Pix : List Val → Option (Bool × Val)
  | [.lst ds, .int i] => (atI ds i).map fun d => (false, d)
  | [.tup ds, .int i] => (atI ds i).map fun d => (false, d)
  | [.str z, .int i] => (atI z.cps.toList i).map fun c => (false, .str ⟨#[c]⟩)
  | [.scr ns, .int i] => (atI ns i).map fun n => (false, .int n)
  | [.dct false kvs, k] => match keyOf k with
    | some q => (dGet kvs q).map fun d => (false, d)
    | none => none
  | _ => none
theorem atI_reps {w : Wd} {G : Hp} {ds : List Val} {xs : List V} {i : Int} {d : Val} (r : Reps w G ds xs) (h : atI ds i = some d) : ∃ x, atI xs i = some x ∧ Rep w G d x := by
  unfold atI at h ⊢
  rw [← reps_length r]
  cases e : ixN ds.length i with
  | none => rw [e] at h; cases h
  | some j => rw [e] at h; exact reps_get r h
theorem atI_map {α β : Type} (f : α → β) (xs : List α) (i : Int) : atI (xs.map f) i = (atI xs i).map f := by
  unfold atI
  rw [List.length_map]
  cases ixN xs.length i with
  | none => rfl
  | some j => simp
theorem ixr_ix {X : Cx} {w : Wd} (c : Cal X w) : IxR X (r2Of w Pix) := by
  intro value slice pins s σ H x y v u Q I rx ry ⟨G, vs, o, z, le, rr, hp, q⟩ hs
  have fz : ∀ {d : Val} {a : V}, Rep w G d a → (∀ u G' H', Grow G H G' H' → NRep w G H G' H' false d u → Q u H') → Q a H := fun r q => q _ G H (Grow.refl le) (nrep_f r)
  unfold Pix at hp
  split at hp
  · obtain ⟨_, _, e, r1, r2⟩ := rreps_two rr
    cases e
    rw [Option.map_eq_some_iff] at hp
    obtain ⟨d, hd, e⟩ := hp
    cases e
    obtain ⟨a, xs, rfl, h, rs⟩ := rrep_lst le r1
    obtain rfl := rrep_int r2
    obtain ⟨b, hb, rb⟩ := atI_reps rs hd
    exact ix_list value slice pins s σ H _ _ v u Q I rx ry ⟨a, xs, _, b, rfl, rfl, .inl (.inl h), hb, fz rb q⟩ hs
  · obtain ⟨_, _, e, r1, r2⟩ := rreps_two rr
    cases e
    rw [Option.map_eq_some_iff] at hp
    obtain ⟨d, hd, e⟩ := hp
    cases e
    obtain ⟨a, xs, rfl, h, rs⟩ := rrep_tup le r1
    obtain rfl := rrep_int r2
    obtain ⟨b, hb, rb⟩ := atI_reps rs hd
    rw [c.K] at h
    exact ix_tup value slice pins s σ H _ _ v u Q I rx ry ⟨a, xs, _, b, rfl, rfl, h, hb, fz rb q⟩ hs
  · obtain ⟨_, _, e, r1, r2⟩ := rreps_two rr
    cases e
    rw [Option.map_eq_some_iff] at hp
    obtain ⟨d, hd, e⟩ := hp
    cases e
    obtain ⟨rfl, hz⟩ := rrep_str r1
    obtain rfl := rrep_int r2
    exact ix_str value slice pins s σ H _ _ v u Q I rx ry ⟨_, _, _, rfl, rfl, hz, hd, fz (rep_str.mpr ⟨rfl, by show 1 ≤ sizeLine; rw [PySem.sizeLine_eq]; decide⟩) q⟩ hs
  · obtain ⟨_, _, e, r1, r2⟩ := rreps_two rr
    cases e
    rw [Option.map_eq_some_iff] at hp
    obtain ⟨d, hd, e⟩ := hp
    cases e
    obtain ⟨a, rfl, h⟩ := rrep_scr le r1
    obtain rfl := rrep_int r2
    rw [c.K] at h
    exact ix_list value slice pins s σ H _ _ v u Q I rx ry ⟨a, _, _, .int d, rfl, rfl, h, by rw [atI_map, hd]; rfl, fz (rep_int.mpr rfl) q⟩ hs
  · obtain ⟨_, _, e, r1, r2⟩ := rreps_two rr
    cases e
    split at hp
    · rename_i k hk
      rw [Option.map_eq_some_iff] at hp
      obtain ⟨d, hd, e⟩ := hp
      cases e
      obtain ⟨rfl, _⟩ := rrep_key r2 hk
      obtain ⟨a, rfl, ⟨_, kvs, h, rk⟩ | ⟨ht, _⟩⟩ := rrep_dct le r1
      · obtain ⟨b, hb, rb⟩ := (repK_get k rk).1 _ hd
        have g : DGet H a (kV k) (some b) := .inl ⟨kvs, k, h, rfl, hb.symm⟩
        cases (show v = Value.ref a from rx)
        exact PyProof.Rows.tail_any (dict_typeIs I g) PySem.F.slot_dict_getitem.lookup (d_getItem (by have := c.un; omega) I g ry fun w' s3 I3 rw' => ⟨b, H, I3, rw', fz rb q⟩) hs
      · cases ht
    · cases hp
  · cases hp

/-! ### a[lo:hi] -/
def cutA {α : Type} (xs : List α) (lo hi : Option Int) : List α := (xs.drop (HT.sIx xs.length 0 lo)).take (HT.sIx xs.length xs.length hi - HT.sIx xs.length 0 lo)
def Psl : Val → Option Int → Option Int → Option (Bool × Val)
  | .str z, lo, hi => some (false, .str (cutS z lo hi))
  | .lst ds, lo, hi => some (true, .lst (cutA ds lo hi))
  | .tup ds, lo, hi => some (false, .tup (cutA ds lo hi))
  | .scr ns, lo, hi => some (true, .lst ((cutA ns lo hi).map .int))
  | _, _, _ => none
inductive PR where
  | ok (i : Option Int) (r : Env) | ex (e : Val) (r : Env) | bad
abbrev PF := Env → PR
def pNo : PF := fun r => .ok none r
def pInt (f : EF) : PF := fun r => match f r with
  | .ok _ v r' => match v with
    | .int i => .ok (some i) r'
    | _ => .bad
  | .ex e r' => .ex e r'
  | .bad => .bad
def tP (A : Act) (W : WX) (f : PF) : TO := fun σ H Q => ∃ r G, Ok A G H σ r ∧ match f r with
  | .ok i r' => ∀ G' H', Ok A G' H' σ r' → Step σ r G H r' G' H' → Q i H'
  | .ex e r' => ExP A W G σ e r'
  | .bad => False
theorem PO.imp {X : Cx} {e : Option Expr} {t t' : TO} (h : PO X e t) (hi : ∀ σ H Q, t' σ H Q → t σ H Q) : PO X e t' := ⟨fun pins s σ H Q I q => h.run pins s σ H Q I (hi _ _ _ q)⟩
def slc (fo : OF) (fl fu : PF) : EF := fun r => match fo r with
  | .ok h r1 => match fl r1 with
    | .ok lo r2 => match fu r2 with
      | .ok hi r3 => match h.get r3 with
        | some v => match Psl v lo hi with
          | some (o, z) => .ok o z r3
          | none => .bad
        | none => .bad
      | .ex e r3 => .ex e r3
      | .bad => .bad
    | .ex e r2 => .ex e r2
    | .bad => .bad
  | .ex e r1 => .ex e r1
  | .bad => .bad
section
variable {X : Cx} {A : Act} {W : WX} {e : Expr} {f : EF} {fo : OF} {fl fu : PF} {lo hi : Option Expr} {p2 pos : Pos}
theorem po_pNo : PO X none (tP A W pNo) := PO.imp po_none fun σ H Q ⟨r, G, k, m⟩ => m G H k Step.refl
theorem po_pInt (h : PE X e (tE A W f)) : PO X (some e) (tP A W (pInt f)) := PO.imp (po_some h) fun σ H Q ⟨r, G, k, m⟩ => ⟨r, G, k, by
  unfold pInt at m
  cases hf : f r with
  | bad => rw [hf] at m; exact m.elim
  | ex e r' => rw [hf] at m; exact m
  | ok o v r' =>
    simp only [hf] at m
    intro x G1 H1 R
    cases v with
    | int i =>
      have ex : x = .int i := by
        have t := R.tr
        cases o with
        | true => obtain ⟨_, _, ro, _⟩ := t; exact ro.elim
        | false => exact rep_int.mp (show Rep A.w G1 (.int i) x from t)
      exact ⟨i, ex, m G1 H1 R.ok R.st⟩
    | _ => exact False.elim m⟩
theorem reps_cut {w : Wd} {G : Hp} {ds : List Val} {xs : List V} (r : Reps w G ds xs) (lo hi : Option Int) : Reps w G (cutA ds lo hi) (cutV xs lo hi) := by
  unfold cutA cutV
  rw [reps_length r]
  exact reps_take _ (reps_drop _ r)
theorem cut_whole {α : Type} (xs : List α) {lo hi : Option Int} (h : HT.sIx xs.length 0 lo = 0 ∧ HT.sIx xs.length xs.length hi = xs.length) : cutA xs lo hi = xs := by
  unfold cutA
  rw [h.1, h.2]
  simp
/-- HandS's reading of a slice, of values -/
def rSl (w : Wd) : V → Option Int → Option Int → Hp → VK → Prop := fun x lo hi H Q => ∃ G v o z, Le G H ∧ RRep w G H v x ∧ Psl v lo hi = some (o, z) ∧ ∀ u G' H', Grow G H G' H' → NRep w G H G' H' o z u → Q u H'
theorem sl_val {w : Wd} (c : Cal X w) : SlR X (rSl w) := by
  intro pins s σ H x v vl vu lo hi sl Q I rx hs pl pu ⟨G, a, o, z, le, r1, hp, q⟩
  unfold Psl at hp
  split at hp
  · cases hp
    obtain ⟨rfl, hz⟩ := rrep_str r1
    exact sl_str pins s σ H _ v vl vu lo hi sl Q I rx hs pl pu ⟨_, rfl, hz, q _ G H (Grow.refl le) (nrep_f (rep_str.mpr ⟨rfl, Nat.le_trans (cutS_length _ _ _) hz⟩))⟩
  · cases hp
    obtain ⟨a, xs, rfl, h, rs⟩ := rrep_lst le r1
    exact sl_list pins s σ H _ v vl vu lo hi sl Q I rx hs pl pu ⟨a, xs, rfl, .inl (.inl h), fun p hp => new_lst le hp (reps_cut rs lo hi) q⟩
  · cases hp
    have r0 := r1
    obtain ⟨a, xs, rfl, h, rs⟩ := rrep_tup le r1
    have hl := reps_length rs
    rw [c.K] at h
    refine sl_tupA pins s σ H _ v vl vu lo hi sl Q I rx hs pl pu ⟨a, xs, rfl, h, fun hw => ?_, fun hw p hp => ?_⟩
    · refine q _ G H (Grow.refl le) (nrep_f ?_)
      rw [← hl] at hw
      rw [cut_whole _ hw]
      rcases r0 with r0 | ⟨_, _, r0⟩
      · exact r0
      · exact r0.elim
    · have gr := Grow.laidG (o := .tup (cutV xs lo hi)) le hp
      exact q _ _ _ gr (nrep_f (rep_tup.mpr ⟨p, _, rfl, SqT.of upd_same, (reps_cut rs lo hi).mono gr.g⟩))
  · cases hp
    obtain ⟨a, rfl, h⟩ := rrep_scr le r1
    rw [c.K] at h
    rename_i ns
    refine sl_list pins s σ H _ v vl vu lo hi sl Q I rx hs pl pu ⟨a, _, rfl, h, fun p hp => new_lst le hp ?_ q⟩
    have e : cutV (ns.map V.int) lo hi = (cutA ns lo hi).map V.int := by
      unfold cutV cutA
      rw [List.length_map, ← List.map_drop, ← List.map_take]
    rw [e]
    exact reps_of_ints
  · cases hp
theorem pe_slc (c : Cal X A.w) (he : PE X e (tO A W fo)) (hl : PO X lo (tP A W fl)) (hu : PO X hi (tP A W fu)) : PE X (.Subscript e (.Slice lo hi none p2) pos) (tE A W (slc fo fl fu)) :=
  PE.imp (pe_slice (sl_val c) he hl hu) fun σ H Q ⟨r, G, k, m⟩ => ⟨r, G, k, by
    unfold slc at m
    cases hf : fo r with
    | bad => rw [hf] at m; exact m.elim
    | ex e r' => rw [hf] at m; exact m
    | ok h r1 =>
      simp only [hf] at m
      intro x G1 H1 k1 st1 t1
      refine ⟨r1, G1, k1, ?_⟩
      cases hg : fl r1 with
      | bad => simp only [hg] at m
      | ex e r2 => simp only [hg] at m ⊢; exact m.mono st1.ex
      | ok l r2 =>
        simp only [hg] at m ⊢
        intro G2 H2 k2 st2
        refine ⟨r2, G2, k2, ?_⟩
        cases hu' : fu r2 with
        | bad => simp only [hu'] at m
        | ex e r3 => simp only [hu'] at m ⊢; exact (m.mono st1.ex).mono st2.ex
        | ok u r3 =>
          simp only [hu'] at m ⊢
          intro G3 H3 k3 st3
          have st := (st1.trans st2).trans st3
          cases hv : h.get r3 with
          | none => simp only [hv] at m
          | some v =>
            simp only [hv] at m
            cases hp : Psl v l u with
            | none => simp only [hp] at m
            | some oz =>
              obtain ⟨o, z⟩ := oz
              simp only [hp] at m
              refine ⟨G3, v, o, z, k3.sub, ((t1.step st2).step st3).get k3 hv, hp, fun u' G4 H4 gr nr => ?_⟩
              refine m u' G4 H4 ⟨k3.grow gr, st.trans gr.step, nr.trep k3, fun eo a ea => ?_⟩
              subst eo
              obtain ⟨b, e1, _, _, n⟩ := nr
              rw [ea] at e1; cases e1
              exact st.fresh n⟩
end

/-! ### what is walked -/
def signs (z : Str) : List Val := z.cps.toList.map fun c => .str ⟨#[c]⟩
def itemsOf : Val → Option (List Val)
  | .lst ds => some ds
  | .tup ds => some ds
  | .scr ns => some (ns.map .int)
  | .str z => some (signs z)
  | .dct false kvs => some (kvs.map (·.1))
  | _ => none
def itV (f : EF) : IF := fun r => match frz f r with
  | .ok _ v r' => match itemsOf v with
    | some vs => .ok vs r'
    | none => .bad
  | .ex e r' => .ex e r'
  | .bad => .bad
def upTo (lo : Int) (n : Nat) : List Val := (List.range n).map fun (k : Nat) => Val.int (lo + (k : Int))
def rng1 : List Val → Option (List Val)
  | [.int j] => if smallI 4000000000000000000 j = true then some (upTo 0 j.toNat) else none
  | _ => none
def rng2 : List Val → Option (List Val)
  | [.int i, .int j] => if smallI 4000000000000000000 i = true ∧ smallI 4000000000000000000 j = true then some (upTo i (j - i).toNat) else none
  | _ => none
def itR (q : List Val → Option (List Val)) (g : AF) : IF := fun r => match g r with
  | .ok vs r' => match q vs with
    | some us => .ok us r'
    | none => .bad
  | .ex e r' => .ex e r'
  | .bad => .bad
section
variable {w : Wd} {K : PySem.W.Frag} {G : Hp}
theorem itok_list {a : Addr} {ds : List Val} {xs : List V} (h : SqL K G a xs) (r : Reps w G ds xs) : ItOk w (Itl K a) G ds where
  go := fun G' H i le le' hi => by
    have : i < xs.length := by rw [← reps_length r]; exact hi
    exact ⟨xs, xs[i], sql_mono (le.trans le') h, by simp [this]⟩
  stop := fun G' H i le le' hi => ⟨xs, sql_mono (le.trans le') h, by rw [← reps_length r]; exact hi⟩
  yld := fun G' H i v x H' le le' hv ⟨e, hx⟩ => by
    subst e
    obtain ⟨y, e1, e2⟩ := reps_get r hv
    have := hx xs (sql_mono (le.trans le') h)
    rw [e1] at this; cases this
    exact ⟨G', Grow.refl le', e2.mono le⟩
theorem itok_tup {a : Addr} {ds : List Val} {xs : List V} (h : SqT K G a xs) (r : Reps w G ds xs) : ItOk w (Itt K a) G ds where
  go := fun G' H i le le' hi => by
    have : i < xs.length := by rw [← reps_length r]; exact hi
    exact ⟨xs, xs[i], sqt_mono (le.trans le') h, by simp [this]⟩
  stop := fun G' H i le le' hi => ⟨xs, sqt_mono (le.trans le') h, by rw [← reps_length r]; exact hi⟩
  yld := fun G' H i v x H' le le' hv ⟨e, hx⟩ => by
    subst e
    obtain ⟨y, e1, e2⟩ := reps_get r hv
    have := hx xs (sqt_mono (le.trans le') h)
    rw [e1] at this; cases this
    exact ⟨G', Grow.refl le', e2.mono le⟩
theorem itok_str (z : Str) : ItOk w (Its z) G (signs z) where
  go := fun G' H i le le' hi => by show i < z.cps.size; simpa [signs] using hi
  stop := fun G' H i le le' hi => by show z.cps.size ≤ i; simpa [signs] using hi
  yld := fun G' H i v x H' le le' hv ⟨e, c, hc, hx⟩ => by
    subst e
    subst hx
    have : z.cps.toList[i]? = some c := by rw [Array.getElem?_toList]; exact hc
    simp only [signs, List.getElem?_map, this, Option.map_some, Option.some.injEq] at hv
    subst hv
    exact ⟨G', Grow.refl le', rep_str.mpr ⟨rfl, by show 1 ≤ sizeLine; rw [PySem.sizeLine_eq]; decide⟩⟩
theorem itok_rng (lo : Int) (n : Nat) : ItOk w (Itr lo n) G (upTo lo n) where
  go := fun G' H i le le' hi => by show i < n; simpa [upTo] using hi
  stop := fun G' H i le le' hi => by show n ≤ i; simpa [upTo] using hi
  yld := fun G' H i v x H' le le' hv ⟨e, hx⟩ => by
    subst e
    subst hx
    have hi : i < n := by
      have := (List.getElem?_eq_some_iff.mp hv).1
      simpa [upTo] using this
    simp only [upTo, List.getElem?_map, List.getElem?_range hi, Option.map_some, Option.some.injEq] at hv
    subst hv
    exact ⟨G', Grow.refl le', rep_int.mpr rfl⟩
theorem repK_at : ∀ {ds : List (Val × Val)} {kvs : List (Key × V)} {i : Nat} {q : Key} {x : V}, RepK w G ds kvs → kvs[i]? = some (q, x) → ∃ d, ds[i]? = some (kv q, d) ∧ kb q ∧ Rep w G d x
  | [], _, _, _, _, r, h => by rw [RepK] at r; subst r; simp at h
  | (k, d) :: ds, _, i, q, x, r, h => by
    rw [RepK] at r
    obtain ⟨q', y, ys, rfl, ⟨rfl, hb⟩, r1, r2⟩ := r
    cases i with
    | zero => simp at h; obtain ⟨rfl, rfl⟩ := h; exact ⟨d, rfl, hb, r1⟩
    | succ i => obtain ⟨d', h1, h2⟩ := repK_at r2 (i := i) (by simpa using h); exact ⟨d', by simpa using h1, h2⟩
theorem rep_kv {q : Key} (hb : kb q) : Rep w G (kv q) (kV q) := by
  cases q with
  | inl i => exact rep_int.mpr rfl
  | inr s => exact rep_str.mpr ⟨rfl, hb⟩
theorem itok_keys {a : Addr} {o : Obj} {ds : List (Val × Val)} {kvs : List (Key × V)} (h : G a = some (.frz o (.dK kvs))) (r : RepK w G ds kvs) : ItOk w (Itk a o kvs) G (ds.map (·.1)) where
  go := fun G' H i le le' hi => ⟨le' _ _ (le _ _ h), by rw [← repK_length r]; simpa using hi⟩
  stop := fun G' H i le le' hi => ⟨le' _ _ (le _ _ h), by rw [← repK_length r]; simpa using hi⟩
  yld := fun G' H i v x H' le le' hv ⟨e, q, y, hk, hx⟩ => by
    subst e
    subst hx
    obtain ⟨d, h1, h2, _⟩ := repK_at r hk
    simp only [List.getElem?_map, h1, Option.map_some, Option.some.injEq] at hv
    subst hv
    exact ⟨G', Grow.refl le', rep_kv h2⟩
end
section
variable {X : Cx} {A : Act} {W : WX} {tg e : Expr} {f : EF} {g : AF}
theorem pi_V (hw : A.w.K = X.K) (he : PE X e (tE A W f)) : PI X tg e (tIt A W (itV f)) := by
  refine ⟨fun pins s σ H R I h => ?_⟩
  obtain ⟨r, G, k, m⟩ := h
  have h2 : tE A W (frz f) σ H fun x H1 => ∃ J, R J H1 ∧ ((∃ a xs, x = .ref a ∧ J = Itl X.K a ∧ SqL X.K H1 a xs) ∨ (∃ a xs, x = .ref a ∧ J = Itt X.K a ∧ SqT X.K H1 a xs) ∨ (∃ z, x = .str z ∧ J = Its z) ∨ ∃ a o kvs, x = .ref a ∧ J = Itk a o kvs ∧ H1 a = some (.frz o (.dK kvs))) := by
    refine ⟨r, G, k, ?_⟩
    unfold itV at m
    cases hf : frz f r with
    | bad => simp only [hf] at m
    | ex e r' => simp only [hf] at m ⊢; exact m
    | ok o v r' =>
      have eo := frz_false hf
      subst eo
      simp only [hf] at m ⊢
      intro x G1 H1 R1
      cases hi : itemsOf v with
      | none => simp only [hi] at m
      | some vs =>
        simp only [hi] at m
        have fin : ∀ J, ItOk A.w J G1 vs → R J H1 := fun J io => m J G1 H1 R1.ok R1.st io
        have rp : Rep A.w G1 v x := R1.tr
        have le := R1.ok.sub
        unfold itemsOf at hi
        split at hi
        · cases hi
          obtain ⟨a, xs, rfl, h, rs⟩ := rep_lst.mp rp
          exact ⟨_, fin _ (itok_list (K := X.K) (.inl (.inl h)) rs), .inl ⟨a, xs, rfl, rfl, .inl (.inl (le _ _ h))⟩⟩
        · cases hi
          obtain ⟨a, xs, rfl, h, rs⟩ := rep_tup.mp rp
          rw [hw] at h
          exact ⟨_, fin _ (itok_tup h rs), .inr (.inl ⟨a, xs, rfl, rfl, sqt_mono le h⟩)⟩
        · cases hi
          rw [Rep] at rp
          obtain ⟨a, rfl, h⟩ := rp
          rw [hw] at h
          exact ⟨_, fin _ (itok_list h reps_of_ints), .inl ⟨a, _, rfl, rfl, sql_mono le h⟩⟩
        · cases hi
          obtain ⟨rfl, _⟩ := rep_str.mp rp
          exact ⟨_, fin _ (itok_str _), .inr (.inr (.inl ⟨_, rfl, rfl⟩))⟩
        · cases hi
          rw [Rep] at rp
          obtain ⟨a, rfl, ⟨_, kvs, o, h, rk⟩ | ⟨ht, _⟩⟩ := rp
          · exact ⟨_, fin _ (itok_keys h rk), .inr (.inr (.inr ⟨a, o, kvs, rfl, rfl, le _ _ h⟩))⟩
          · cases ht
        · cases hi
  refine wpAny_mono ((pe_frz he).run pins s σ H _ I h2) (fun v s1 ⟨x, H1, I1, rx, J, hR, hx⟩ => ?_) fun _ _ z => z
  rcases hx with ⟨a, xs, rfl, rfl, h⟩ | ⟨a, xs, rfl, rfl, h⟩ | ⟨z, rfl, rfl⟩ | ⟨a, o, kvs, rfl, rfl, h⟩
  · cases (show v = Value.ref a from rx)
    obtain ⟨its, _, pl, _⟩ := I1.list h
    exact wpAny_pyIter_list pl.isList (pi_one (tk := s1.toks) I1 _ (turn_list a _) ⟨_, Heap.get?_push_size _ rfl, rfl, rfl⟩ hR)
  · cases (show v = Value.ref a from rx)
    obtain ⟨its, _, pl, _⟩ := I1.tuple h
    exact wpAny_pyIter_tuple (show s1.heap.IsTuple a its.toArray from pl) (pi_one (tk := s1.toks) I1 _ (turn_tuple a _) ⟨_, Heap.get?_push_size _ rfl, rfl, rfl⟩ hR)
  · obtain ⟨t, rfl⟩ := rx
    cases ha : z.cps.all (· < 128) with
    | false => exact wpAny_pyIter_wide ha (pi_one (tk := s1.toks) I1 _ (turn_str _ z t "str_iterator" (.inr rfl)) ⟨_, Heap.get?_push_size _ rfl, rfl, rfl⟩ hR)
    | true => exact wpAny_pyIter_ascii ha (pi_one (tk := s1.toks) I1 _ (turn_str _ z t "str_ascii_iterator" (.inl rfl)) ⟨_, Heap.get?_push_size _ rfl, rfl, rfl⟩ hR)
  · cases (show v = Value.ref a from rx)
    obtain ⟨hs, hgd, hx, es, ep, vs, hdt, hsz, _, _⟩ := I1.frzK h
    refine iter_keys hs hgd hx hdt (pi_one (tk := s1.toks) I1 _ (turn_keys _ hdt) ⟨_, Heap.get?_push_size _ rfl, rfl, ?_⟩ hR)
    rw [hsz] <;> rfl
theorem pi_rng1 {a : Expr} {p pos : Pos} (hg : Gl X "range") (hm : X.mg "range" = none) (ha : PA X [a] (tAs A W g)) (hs : starEach [a] X.env = [(false, eval a X.env)] := by rfl) : PI X tg (.Call (.Name "range" p) [a] [] pos) (tIt A W (itR rng1 g)) :=
  PI.imp (pi_range1 hg hm ha hs) fun σ H R ⟨r, G, k, m⟩ => ⟨r, G, k, by
    unfold itR at m
    cases hf : g r with
    | bad => simp only [hf] at m
    | ex e r' => simp only [hf] at m ⊢; exact m
    | ok vs r' =>
      simp only [hf] at m ⊢
      intro xs G1 H1 k1 st1 rs
      cases hq : rng1 vs with
      | none => simp only [hq] at m
      | some us =>
        simp only [hq] at m
        unfold rng1 at hq
        split at hq
        · split at hq
          · rename_i hb
            cases hq
            have hb2 := smallI_iff.mp hb
            exact ⟨_, reps_ints (ns := [_]) rs, by omega, by omega, m _ G1 H1 k1 st1 (itok_rng 0 _)⟩
          · cases hq
        · cases hq⟩
theorem pi_rng2 {a b : Expr} {p pos : Pos} (hg : Gl X "range") (hm : X.mg "range" = none) (ha : PA X [a, b] (tAs A W g)) (hs : starEach [a, b] X.env = [(false, eval a X.env), (false, eval b X.env)] := by rfl) (hs2 : starEach [b] X.env = [(false, eval b X.env)] := by rfl) :
    PI X tg (.Call (.Name "range" p) [a, b] [] pos) (tIt A W (itR rng2 g)) :=
  PI.imp (pi_range2 hg hm ha hs hs2) fun σ H R ⟨r, G, k, m⟩ => ⟨r, G, k, by
    unfold itR at m
    cases hf : g r with
    | bad => simp only [hf] at m
    | ex e r' => simp only [hf] at m ⊢; exact m
    | ok vs r' =>
      simp only [hf] at m ⊢
      intro xs G1 H1 k1 st1 rs
      cases hq : rng2 vs with
      | none => simp only [hq] at m
      | some us =>
        simp only [hq] at m
        unfold rng2 at hq
        split at hq
        · split at hq
          · rename_i hb
            cases hq
            have hb2 := smallI_iff.mp hb.1
            have hb3 := smallI_iff.mp hb.2
            exact ⟨_, _, reps_ints (ns := [_, _]) rs, ⟨by omega, by omega, by omega, by omega⟩, m _ G1 H1 k1 st1 (itok_rng _ _)⟩
          · cases hq
        · cases hq⟩
end
end M
/-! MPE: rules of expressions in short, methods, containers changed in place, displays of dicts. -/
namespace M
open PySem L2

abbrev bin (P : List Val → Option (Bool × Val)) (fa fb : OF) : EF := prim P (osCons fa (osCons fb osNil))
section
variable {X : Cx} {A : Act} {W : WX} {x y e : Expr} {es : List Expr} {fa fb fc : OF} {g : OsF} {P P' : List Val → Option (Bool × Val)} {pos p : Pos}
theorem pe_bin {op : Operator} (ho : OpR X (binaryOp op) (r2Of A.w P)) (ha : PE X x (tO A W fa)) (hb : PE X y (tO A W fb)) : PE X (.BinOp x op y pos) (tE A W (bin P fa fb)) := PE.imp (pe_op ho ha hb) fun _ _ _ q => prim_os2 q
theorem pe_cmpV {op : CmpOp} (ho : OpR X (compareOp op) (r2Of A.w P)) (ha : PE X x (tO A W fa)) (hb : PE X y (tO A W fb)) (hm : behindInMarks op y = false := by first | exact nobehind _ (by decide) (by decide) | rfl) : PE X (.Compare x [op] [y] pos) (tE A W (bin P fa fb)) := PE.imp (pe_cmpR ho ha hb hm) fun _ _ _ q => prim_os2 q
theorem pt_cmpV {op : CmpOp} (ho : OpR X (compareOp op) (r2Of A.w P)) (ha : PE X x (tO A W fa)) (hb : PE X y (tO A W fb)) (hm : behindInMarks op y = false := by first | exact nobehind _ (by decide) (by decide) | rfl) : PT X (.Compare x [op] [y] pos) (tBo A W (tst (bin P fa fb))) := pt_cmp' ho ha hb hm
theorem pe_idx (c : Cal X A.w) (ha : PE X x (tO A W fa)) (hb : PE X y (tO A W fb)) (hs : PlainIx y := by intro _ _; rfl) : PE X (.Subscript x y pos) (tE A W (bin Pix fa fb)) := PE.imp (pe_ix (ixr_ix c) ha hb hs) fun _ _ _ q => prim_os2 q
/-- f(e, ..), f a built-in function -/
theorem pe_bi {x : Str} {id : String} (hc : CallR X (.builtin id) (rOf A.w P)) (hg : Gl X x) (hm : X.mg x = none) (hv : bootBuiltins x = some (.builtin id)) (ha : PA X (e :: es) (tOs A W g)) (hn : x ≠ "__name__" := by decide) (hdb : (x == ("__debug__" : Str)) = false := by decide)
    (he : starEach (e :: es) X.env = (false, eval e X.env) :: starEach es X.env := by rfl) (hpl : (backTo pos (starEach es X.env)).any (·.1) = false := by rfl) : PE X (.Call (.Name x p) (e :: es) [] pos) (tE A W (prim P g)) :=
  PE.imp (pe_callB hc hg hm hv ha hn hdb he hpl) fun _ _ _ q => prim_os (rok_rOf _ _) q
theorem pe_bt {x : Str} {T : String} (hc : CallR X (.type T) (rOf A.w P)) (hg : Gl X x) (hm : X.mg x = none) (hv : bootBuiltins x = some (.type T)) (ha : PA X (e :: es) (tOs A W g)) (hn : x ≠ "__name__" := by decide) (hdb : (x == ("__debug__" : Str)) = false := by decide)
    (he : starEach (e :: es) X.env = (false, eval e X.env) :: starEach es X.env := by rfl) (hpl : (backTo pos (starEach es X.env)).any (·.1) = false := by rfl) : PE X (.Call (.Name x p) (e :: es) [] pos) (tE A W (prim P g)) :=
  PE.imp (pe_callTy hc hg hm hv ha hn hdb he hpl) fun _ _ _ q => prim_os (rok_rOf _ _) q

/-! ### a op b op c -/
def chn (P P' : List Val → Option (Bool × Val)) (fa fb fc : OF) : EF := fun r => match fa r with
  | .ok h1 r1 => match fb r1 with
    | .ok h2 r2 => match getAll r2 [h1, h2] with
      | some vs => match P vs with
        | some (false, .bl true) => match fc r2 with
          | .ok h3 r3 => match getAll r3 [h2, h3] with
            | some us => match P' us with
              | some (false, .bl b) => .ok false (.bl b) r3
              | _ => .bad
            | none => .bad
          | .ex e r3 => .ex e r3
          | .bad => .bad
        | some (false, .bl false) => .ok false (.bl false) r2
        | _ => .bad
      | none => .bad
    | .ex e r2 => .ex e r2
    | .bad => .bad
  | .ex e r1 => .ex e r1
  | .bad => .bad
theorem chn_of {σ : L2.St} {H : Hp} {Q : VK} (h : tE A W (chn P P' fa fb fc) σ H Q) : tChain (r2Of A.w P) (r2Of A.w P') (tO A W fa) (tO A W fb) (tO A W fc) σ H Q := by
  obtain ⟨r, G, k, m⟩ := h
  refine ⟨r, G, k, ?_⟩
  unfold chn at m
  cases hf : fa r with
  | bad => rw [hf] at m; exact m.elim
  | ex e r' => rw [hf] at m; exact m
  | ok h1 r1 =>
    simp only [hf] at m
    intro x G1 H1 k1 st1 t1
    refine ⟨r1, G1, k1, ?_⟩
    cases hg : fb r1 with
    | bad => simp only [hg] at m
    | ex e r2 => simp only [hg] at m ⊢; exact m.mono st1.ex
    | ok h2 r2 =>
      simp only [hg] at m ⊢
      intro y G2 H2 k2 st2 t2
      cases hv : getAll r2 [h1, h2] with
      | none => simp only [hv] at m
      | some vs =>
        simp only [hv] at m
        have rr : RReps A.w G2 H2 vs [x, y] := HReps.get k2 (show HReps A G2 H2 σ r2 [h1, h2] [x, y] from ⟨x, [y], rfl, t1.step st2, y, [], rfl, t2, rfl⟩) hv
        cases hp : P vs with
        | none => simp only [hp] at m
        | some oz =>
          obtain ⟨o, d⟩ := oz
          cases o with
          | true => simp only [hp] at m
          | false =>
            cases d with
            | bl b =>
              cases b with
              | true =>
                simp only [hp] at m
                refine ⟨G2, vs, false, .bl true, k2.sub, rr, hp, fun u G3 H3 gr nr => ?_⟩
                refine ⟨true, rep_bl.mp (show Rep A.w G3 (.bl true) u from nr), ?_⟩
                simp only [if_true]
                refine ⟨r2, G3, k2.grow gr, ?_⟩
                have st3 : Step σ r G H r2 G3 H3 := (st1.trans st2).trans gr.step
                cases hc : fc r2 with
                | bad => simp only [hc] at m
                | ex e r3 => simp only [hc] at m ⊢; exact m.mono st3.ex
                | ok h3 r3 =>
                  simp only [hc] at m ⊢
                  intro z G4 H4 k4 st4 t4
                  cases hu : getAll r3 [h2, h3] with
                  | none => simp only [hu] at m
                  | some us =>
                    simp only [hu] at m
                    have rr2 : RReps A.w G4 H4 us [y, z] := HReps.get k4 (show HReps A G4 H4 σ r3 [h2, h3] [y, z] from ⟨y, [z], rfl, (t2.step gr.step).step st4, z, [], rfl, t4, rfl⟩) hu
                    cases hp' : P' us with
                    | none => simp only [hp'] at m
                    | some oz' =>
                      obtain ⟨o', d'⟩ := oz'
                      cases o' with
                      | true => simp only [hp'] at m
                      | false =>
                        cases d' with
                        | bl b =>
                          simp only [hp'] at m
                          exact ⟨G4, us, false, .bl b, k4.sub, rr2, hp', fun u' G5 H5 gr' nr' => m u' G5 H5 ⟨k4.grow gr', (st3.trans st4).trans gr'.step, nr', no_own⟩⟩
                        | _ => simp only [hp'] at m
              | false =>
                simp only [hp] at m
                refine ⟨G2, vs, false, .bl false, k2.sub, rr, hp, fun u G3 H3 gr nr => ?_⟩
                refine ⟨false, rep_bl.mp (show Rep A.w G3 (.bl false) u from nr), ?_⟩
                simp only [Bool.false_eq_true, if_false]
                exact m (.bl false) G3 H3 ⟨k2.grow gr, (st1.trans st2).trans gr.step, trep_f (rep_bl.mpr rfl), no_own⟩
            | _ => simp only [hp] at m
theorem pe_chn {z : Expr} {op op' : CmpOp} (ho : OpR X (compareOp op) (r2Of A.w P)) (ho' : OpR X (compareOp op') (r2Of A.w P')) (ha : PE X x (tO A W fa)) (hb : PE X y (tO A W fb)) (hc : PE X z (tO A W fc)) (hm : lastMarks [op, op'] [y, z] = false := by with_unfolding_all rfl) :
    PE X (.Compare x [op, op'] [y, z] pos) (tE A W (chn P P' fa fb fc)) := PE.imp (pe_chain ho ho' ha hb hc hm) fun _ _ _ q => chn_of q
theorem pt_chn {z : Expr} {op op' : CmpOp} (ho : OpR X (compareOp op) (r2Of A.w P)) (ho' : OpR X (compareOp op') (r2Of A.w P')) (ha : PE X x (tO A W fa)) (hb : PE X y (tO A W fb)) (hc : PE X z (tO A W fc)) (hm : lastMarks [op, op'] [y, z] = false := by with_unfolding_all rfl) :
    PT X (.Compare x [op, op'] [y, z] pos) (tBo A W (tst (chn P P' fa fb fc))) := PT.imp (pt_chain ho ho' ha hb hc hm) fun _ _ _ q => chn_of (tst_of q)
end

/-! ### o.m(e, ..) that changes nothing -/
def oTy (T : String) (fo : OF) : OF := fun r => match fo r with
  | .ok h r1 => match h.get r1 with
    | some v => if tyOf v = some T then .ok h r1 else .bad
    | none => .bad
  | .ex e r1 => .ex e r1
  | .bad => .bad
def TyAt (w : Wd) (T : String) (x : V) (H : Hp) : Prop := ∃ G v, Le G H ∧ RRep w G H v x ∧ tyOf v = some T
section
variable {X : Cx} {A : Act} {W : WX} {o e : Expr} {es : List Expr} {fo : OF} {g : OsF} {P : List Val → Option (Bool × Val)} {cpos apos : Pos} {T id : String} {name : Str}
theorem oTy_of {σ : L2.St} {H : Hp} {Q : V → Hp → Prop} (h : tO A W (oTy T fo) σ H Q) : tO A W fo σ H fun x H1 => TyAt A.w T x H1 ∧ Q x H1 := by
  obtain ⟨r, G, k, m⟩ := h
  refine ⟨r, G, k, ?_⟩
  unfold oTy at m
  cases hf : fo r with
  | bad => rw [hf] at m; exact m.elim
  | ex e r' => rw [hf] at m; exact m
  | ok h r1 =>
    simp only [hf] at m
    intro x G1 H1 k1 st1 t1
    cases hv : h.get r1 with
    | none => simp only [hv] at m
    | some v =>
      simp only [hv] at m
      by_cases ht : tyOf v = some T
      · simp only [if_pos ht] at m
        exact ⟨⟨G1, v, k1.sub, t1.get k1 hv, ht⟩, m x G1 H1 k1 st1 t1⟩
      · simp only [if_neg ht] at m
theorem ty_run (c : Cal X A.w) {pins : List (Addr × Obj)} {s : Shared} {σ : L2.St} {H : Hp} {x : V} {u : Value} (I : Inv X pins σ H s) (rx : RelV x u) (t : TyAt A.w T x H) (hT : T = "str" ∨ T = "list" ∨ T = "dict") :
    s.TypeIs u T ∧ ∀ a, u = .ref a → ∃ ob, s.heap.get? a = some ob ∧ ob.dict = none := by
  obtain ⟨G, v, le, r, ht⟩ := t
  have ls : ∀ {a : Addr} {xs : List V}, x = .ref a → SqL X.K H a xs → s.TypeIs u "list" ∧ ∀ a, u = .ref a → ∃ ob, s.heap.get? a = some ob ∧ ob.dict = none := fun {a xs} e h => by
    subst e
    exact tyV_is I rx (show tyV X.K "list" (.ref a) H from .inl ⟨rfl, xs, h⟩)
  cases v with
  | str z => cases ht; obtain ⟨rfl, _⟩ := rrep_str r; exact tyV_is I rx (show tyV X.K "str" (.str z) H from rfl)
  | lst ds => cases ht; obtain ⟨a, xs, e, h, _⟩ := rrep_lst le r; exact ls e (.inl (.inl h))
  | scr ns => cases ht; obtain ⟨a, e, h⟩ := rrep_scr le r; rw [c.K] at h; exact ls e h
  | dct t kvs =>
    cases ht
    obtain ⟨a, rfl, q⟩ := rrep_dct le r
    cases (show u = Value.ref a from rx)
    have dK : ∀ {kvs : List (Key × V)}, ObjOk X.prog X.w H s.heap a (.dK kvs) → ∃ o, s.heap.get? a = some o ∧ o.ExactDict := fun {kvs} h => by
      obtain ⟨_, _, vs, _, o, es, ep, h1, h2, _⟩ := h
      exact ⟨o, h1, h2⟩
    have dT : ∀ {kvs : List (List Key × V)}, ObjOk X.prog X.w H s.heap a (.dT kvs) → ∃ o, s.heap.get? a = some o ∧ o.ExactDict := fun {kvs} h => by
      obtain ⟨_, _, xs, _, o, es, ep, h1, h2, _⟩ := h
      exact ⟨o, h1, h2⟩
    have : ∃ o, s.heap.get? a = some o ∧ o.ExactDict := by
      rcases q with ⟨_, kvs, q | ⟨ob, q⟩, _⟩ | ⟨_, kvs, q | ⟨ob, q⟩, _⟩
      · exact dK (I.hok a _ q)
      · exact dK (I.hok a _ q).2
      · exact dT (I.hok a _ q)
      · exact dT (I.hok a _ q).2
    obtain ⟨ob, h1, h2⟩ := this
    exact ⟨⟨ob, h1, h2.1⟩, fun b e => by cases e; exact ⟨ob, h1, h2.2.1⟩⟩
  | non => cases ht; rcases hT with h | h | h <;> exact absurd h (by decide)
  | bl b => cases ht; rcases hT with h | h | h <;> exact absurd h (by decide)
  | int i => cases ht; rcases hT with h | h | h <;> exact absurd h (by decide)
  | tup ds => cases ht; rcases hT with h | h | h <;> exact absurd h (by decide)
  | _ => cases ht
/-- a method's meaning by values -/
def MtP (X : Cx) (w : Wd) (id : String) (P : List Val → Option (Bool × Val)) : Prop := MtR X id fun x xs H Q => rOf w P (x :: xs) H Q
theorem pe_mt (c : Cal X A.w) (hT : T = "str" ∨ T = "list" ∨ T = "dict") (pa : PlainAttrs T) (slot : PySem.Slot T name id) (hty : typeOf (.builtin id) = pure (.type "method_descriptor")) (hm : MtP X A.w id P) (ho : PE X o (tO A W fo)) (ha : PA X (e :: es) (tOs A W g))
    (hbase : attributeBase o name X.env (eval o X.env) = eval o X.env := by rfl)
    (hfew : ((backTo cpos (starEach (e :: es) X.env)).all (fun x => !x.1) && (backToKw cpos (keywordEach [] X.env)).all (fun x => x.1.isSome)
      && decide ((e :: es).length + ([] : List Keyword).length + (if ([] : List Keyword).isEmpty then 0 else 1) < 30)) = true := by rfl)
    (hline : (apos.endLine == cpos.line) = true := by rfl) (hs : starEach (e :: es) X.env = (false, eval e X.env) :: starEach es X.env := by rfl) (hplain : (backTo cpos (starEach es X.env)).any (·.1) = false := by rfl) :
    PE X (.Call (.Attribute o name apos) (e :: es) [] cpos) (tE A W (prim P (osCons (oTy T fo) g))) := by
  refine ⟨fun pins s σ H Q I h => ?_⟩
  have q0 := oTy_of (os_cons (prim_os (rok_rOf A.w P) h))
  refine wpAny_Call_method_late hbase hfew hline rfl (wpAny_mono (ho.run pins s σ H _ I q0) (fun v s1 ⟨x, H1, I1, r1, ty, q1⟩ => ?_) fun _ _ z => z)
  obtain ⟨t1, t2⟩ := ty_run c I1 r1 ty hT
  refine ⟨T, id, pa, slot, hty, t1, t2, ?_⟩
  have run := ha.run cpos pins s1 σ H1 _ I1 q1
  rw [hs] at run ⊢
  refine Calls.callWith_builtin (by show (false || (backTo cpos (starEach es X.env)).any (·.1)) = false; rw [hplain] <;> rfl) (Calls.evalArgs_plain (wpAny_mono run (fun us s2 ⟨vs, H2, I2, r2, q2⟩ => ?_) fun _ _ z => z))
  exact hm pins s2 σ H2 x vs v us Q I2 r1 r2 q2
end
def Pjoin : List Val → Option (Bool × Val)
  | [.str a, .lst ds] => match asStrs ds with
    | some ys => if (ys.map (·.length)).sum + ys.length * a.length ≤ 16777216 ∧ (Txt.join a ys).length ≤ sizeLine then some (false, .str (Txt.join a ys)) else none
    | none => none
  | _ => none
theorem mtp_join {X : Cx} {w : Wd} : MtP X w "str.join" Pjoin := by
  intro pins s σ H x xs v us Q I rx rxs ⟨G, vs, o, z, le, rr, hp, q⟩
  unfold Pjoin at hp
  split at hp
  · split at hp
    · rename_i ys hy
      split at hp
      · rename_i hb
        cases hp
        obtain ⟨_, _, e, r1, r2⟩ := rreps_two rr
        cases e
        obtain ⟨rfl, _⟩ := rrep_str r1
        obtain ⟨a, zs, rfl, h, rs⟩ := rrep_lst le r2
        rw [asStrs_some hy] at rs
        rw [reps_strs rs] at h
        exact mt_join pins s σ H _ _ v us Q I rx rxs ⟨_, a, ys, rfl, rfl, .inl (.inl (.inl h)), hb.1, str_new le hb.2 q⟩
      · cases hp
    · cases hp
  · cases hp
end M
/-! MPF: containers changed in place, displays of dicts. -/
namespace M
open PySem L2

section
variable {A : Act} {G H : Hp} {σ : L2.St} {r : Env} {i : Nat} {v v' : Val} {a : Addr}
/-- slot i's container is rewritten -/
theorem Ok.mut {u : HO} (k : Ok A G H σ r) (h : r[i]? = some (some (true, v))) (hσ : σ[i]? = some (some (.ref a))) (hr : Root A.w G (upd H a u) v' a) : Ok A G (upd H a u) σ (r.set i (some (true, v'))) := by
  obtain ⟨a', e, ro, n, l⟩ := k.ow i v h
  rw [hσ] at e; cases e
  have il : i < r.length := (List.getElem?_eq_some_iff.mp h).1
  refine ⟨k.ex0, k.gr0, fun b o hb nl => ?_, fun b o hb => ?_, by rw [List.length_set]; exact k.len, fun j w h1 => ?_, fun j w h1 => ?_, fun p q v1 v2 b h1 h2 h3 h4 => ?_, k.fx⟩
  · have ne : b ≠ a := fun z => by
      subst z
      rcases l with l | l
      · exact nl l
      · rw [l] at hb; cases hb
    rw [upd_ne ne]; exact k.fr0 b o hb nl
  · have ne : b ≠ a := ne_of_none hb n
    rw [upd_ne ne]; exact k.sub b o hb
  · rcases set_some h1 rfl with ⟨e1, e2⟩ | ⟨e1, e2⟩
    · cases e2
    · exact k.fz j w e2
  · rcases set_some h1 rfl with ⟨e1, e2⟩ | ⟨e1, e2⟩
    · subst e1; cases e2; exact ⟨a, hσ, hr, n, l⟩
    · obtain ⟨b, e, q, nb, lb⟩ := k.ow j w e2
      have ne : b ≠ a := fun z => e1 (k.sep j i w v a e2 h (by rw [e, z]) hσ)
      exact ⟨b, e, q.mono (Le.refl _) (fun o ho => by rw [upd_ne ne]; exact ho), nb, lb⟩
  · have own : ∀ {j : Nat} {w : Val}, (r.set i (some (true, v')))[j]? = some (some (true, w)) → ∃ w', r[j]? = some (some (true, w')) := fun {j w} h1 => by
      rcases set_some h1 rfl with ⟨e1, e2⟩ | ⟨e1, e2⟩
      · subst e1; exact ⟨v, h⟩
      · exact ⟨w, e2⟩
    obtain ⟨w1, o1⟩ := own h1
    obtain ⟨w2, o2⟩ := own h2
    exact k.sep p q w1 w2 b o1 o2 h3 h4
theorem step_mut {u : HO} (h : r[i]? = some (some (true, v))) (hσ : σ[i]? = some (some (.ref a))) : Step σ r G H (r.set i (some (true, v'))) G (upd H a u) :=
  ⟨Le.refl _, fun b o hb nb => by
    have ne : b ≠ a := fun z => nb (by subst z; exact ⟨i, v, h, hσ⟩)
    rw [upd_ne ne]; exact hb, fun b hb hb' => absurd hb hb', fun b ⟨j, w, h1, h2⟩ => by
    rcases set_some h1 rfl with ⟨e1, e2⟩ | ⟨e1, e2⟩
    · subst e1; exact ⟨j, v, h, h2⟩
    · exact ⟨j, w, e2, h2⟩⟩
end

/-! ### x.m(e, ..) that changes x -/
/-- by values: the container v, the arguments, then the container and the answer (frozen) -/
abbrev MutF := Val → List Val → Option (Val × Val)
def mutE (T : String) (i : Nat) (P : MutF) (g : AF) : EF := fun r => match r[i]? with
  | some (some (true, v0)) => if tyOf v0 = some T then match g r with
      | .ok vs r1 => match r1[i]? with
        | some (some (true, v)) => match P v vs with
          | some (v', z) => .ok false z (r1.set i (some (true, v')))
          | none => .bad
        | _ => .bad
      | .ex e r1 => .ex e r1
      | .bad => .bad
    else .bad
  | _ => .bad
def rMut (w : Wd) (P : MutF) : V → List V → Hp → VK → Prop := fun x xs H Q => ∃ a v vs v' z G, x = .ref a ∧ Le G H ∧ G a = none ∧ Root w G H v a ∧ Reps w G vs xs ∧ P v vs = some (v', z) ∧ ∀ u y, Root w G (upd H a u) v' a → Rep w G z y → Q y (upd H a u)
def MutP (X : Cx) (w : Wd) (id : String) (P : MutF) : Prop := MtR X id (rMut w P)
theorem root_ty {X : Cx} {w : Wd} {G H : Hp} {v : Val} {a : Addr} {T : String} (r : Root w G H v a) (h : tyOf v = some T) : tyV X.K T (.ref a) H := by
  cases v with
  | lst ds => cases h; obtain ⟨xs, e, _⟩ := r; exact .inl ⟨rfl, xs, .inl (.inl e)⟩
  | dct t ds =>
    cases h
    obtain ⟨_, kvs, e, _⟩ | ⟨_, kvs, e, _⟩ := r
    · exact .inr (.inr (.inl ⟨rfl, .inl ⟨kvs, e⟩⟩))
    · exact .inr (.inr (.inl ⟨rfl, .inr ⟨kvs, e⟩⟩))
  | obj c fs => cases h
  | _ => exact r.elim
section
variable {X : Cx} {A : Act} {W : WX} {o e : Expr} {es : List Expr} {g : AF} {P : MutF} {cpos apos : Pos} {T id : String} {name : Str} {i : Nat}
theorem mut_of {σ : L2.St} {H : Hp} {Q : VK} (h : tE A W (mutE T i P g) σ H Q) : tVar i σ H fun x H1 => tyV X.K T x H1 ∧ tAs A W g σ H1 fun xs H2 => rMut A.w P x xs H2 Q := by
  obtain ⟨r, G, k, m⟩ := h
  rcases q : r[i]? with _ | _ | ⟨_ | _, v0⟩
  · simp only [mutE, q] at m
  · simp only [mutE, q] at m
  · simp only [mutE, q] at m
  · simp only [mutE, q] at m
    by_cases ht : tyOf v0 = some T
    · simp only [if_pos ht] at m
      obtain ⟨a, e1, ro, n, l⟩ := k.ow i v0 q
      refine ⟨.ref a, e1, root_ty ro ht, r, G, k, ?_⟩
      cases hg : g r with
      | bad => simp only [hg] at m
      | ex e r1 => simp only [hg] at m ⊢; exact m
      | ok vs r1 =>
        simp only [hg] at m ⊢
        intro xs G1 H1 k1 st1 rs
        rcases q1 : r1[i]? with _ | _ | ⟨_ | _, v⟩
        · simp only [q1] at m
        · simp only [q1] at m
        · simp only [q1] at m
        · simp only [q1] at m
          cases hp : P v vs with
          | none => simp only [hp] at m
          | some vz =>
            obtain ⟨v', z⟩ := vz
            simp only [hp] at m
            obtain ⟨b, e2, ro1, n1, l1⟩ := k1.ow i v q1
            rw [e1] at e2; cases e2
            exact ⟨a, v, vs, v', z, G1, rfl, k1.sub, n1, ro1, rs, hp, fun u y hr hy => m y G1 _ ⟨k1.mut q1 e1 hr, st1.trans (step_mut q1 e1), trep_f hy, no_own⟩⟩
    · simp only [if_neg ht] at m
theorem pe_mut (pa : PlainAttrs T) (slot : PySem.Slot T name id) (hty : typeOf (.builtin id) = pure (.type "method_descriptor")) (hm : MutP X A.w id P) (ho : PE X o (tVar i)) (ha : PA X (e :: es) (tAs A W g))
    (hbase : attributeBase o name X.env (eval o X.env) = eval o X.env := by rfl)
    (hfew : ((backTo cpos (starEach (e :: es) X.env)).all (fun x => !x.1) && (backToKw cpos (keywordEach [] X.env)).all (fun x => x.1.isSome)
      && decide ((e :: es).length + ([] : List Keyword).length + (if ([] : List Keyword).isEmpty then 0 else 1) < 30)) = true := by rfl)
    (hline : (apos.endLine == cpos.line) = true := by rfl) (hs : starEach (e :: es) X.env = (false, eval e X.env) :: starEach es X.env := by rfl) (hplain : (backTo cpos (starEach es X.env)).any (·.1) = false := by rfl) :
    PE X (.Call (.Attribute o name apos) (e :: es) [] cpos) (tE A W (mutE T i P g)) := PE.imp (pe_bm pa slot hty hm ho ha hbase hfew hline hs hplain) fun _ _ _ q => mut_of q
theorem pe_mut0 (pa : PlainAttrs T) (slot : PySem.Slot T name id) (hty : typeOf (.builtin id) = pure (.type "method_descriptor")) (hm : MutP X A.w id P) (ho : PE X o (tVar i))
    (hbase : attributeBase o name X.env (eval o X.env) = eval o X.env := by rfl) (hline : (apos.endLine == cpos.line) = true := by rfl) : PE X (.Call (.Attribute o name apos) [] [] cpos) (tE A W (mutE T i P asNil)) :=
  PE.imp (pe_bm0 pa slot hty hm ho hbase hline) fun _ _ _ q => by
    obtain ⟨x, e, t, r, G, k, m⟩ := mut_of (X := X) q
    exact ⟨x, e, t, m [] G _ k Step.refl (reps_nil.mpr rfl)⟩
end
def Mappend : MutF
  | .lst ds, [v] => if ds.length < 100000 then some (.lst (ds ++ [v]), .non) else none
  | _, _ => none
def Mextend : MutF
  | .lst ds, [.lst es] => if ds.length + es.length ≤ 100000 then some (.lst (ds ++ es), .non) else none
  | _, _ => none
def Mpop : MutF
  | .lst ds, [] => match ds[ds.length - 1]? with
    | some d => some (.lst ds.dropLast, d)
    | none => none
  | _, _ => none
def MpopAt : MutF
  | .lst ds, [.int i] => match ixN ds.length i with
    | some j => match ds[j]? with
      | some d => if ds.length ≤ 100000 then some (.lst (ds.eraseIdx j), d) else none
      | none => none
    | none => none
  | _, _ => none
theorem reps_dropLast {w : Wd} {G : Hp} {ds : List Val} {xs : List V} (r : Reps w G ds xs) : Reps w G ds.dropLast xs.dropLast := by
  rw [List.dropLast_eq_take, List.dropLast_eq_take, reps_length r]
  exact reps_take _ r
section
variable {X : Cx} {w : Wd}
theorem root_l {G H : Hp} {ds : List Val} {a : Addr} {xs : List V} (r : Reps w G ds xs) : Root w G (upd H a (.lst xs)) (.lst ds) a := ⟨xs, upd_same, r⟩
theorem mutp_append : MutP X w "list.append" Mappend := by
  intro pins s σ H x xs v us Q I rx rxs ⟨a, d, vs, d', z, G, ex, le, n, ro, rs, hp, q⟩
  subst ex
  unfold Mappend at hp
  split at hp
  · split at hp
    · rename_i hl
      cases hp
      obtain ⟨ys, e, r⟩ := ro
      obtain ⟨y, _, rfl, r1, r2⟩ := reps_cons.mp rs
      rw [reps_nil] at r2; subst r2
      exact mt_append pins s σ H _ _ v us Q I rx rxs ⟨a, ys, y, rfl, rfl, e, by rw [← reps_length r]; exact Nat.lt_of_lt_of_le hl (by decide), q _ _ (root_l (reps_append r (reps_one r1))) (rep_non.mpr rfl)⟩
    · cases hp
  · cases hp
theorem mutp_extend : MutP X w "list.extend" Mextend := by
  intro pins s σ H x xs v us Q I rx rxs ⟨a, d, vs, d', z, G, ex, le, n, ro, rs, hp, q⟩
  subst ex
  unfold Mextend at hp
  split at hp
  · split at hp
    · rename_i hl
      cases hp
      obtain ⟨ys, e, r⟩ := ro
      obtain ⟨y, _, rfl, r1, r2⟩ := reps_cons.mp rs
      rw [reps_nil] at r2; subst r2
      obtain ⟨b, zs, rfl, hb, rz⟩ := rep_lst.mp r1
      exact mt_extend pins s σ H _ _ v us Q I rx rxs ⟨a, b, ys, zs, rfl, rfl, e, le _ _ hb, by rw [← reps_length r, ← reps_length rz]; exact Nat.le_trans hl (by decide), q _ _ (root_l (reps_append r rz)) (rep_non.mpr rfl)⟩
    · cases hp
  · cases hp
theorem mutp_pop : MutP X w "list.pop" Mpop := by
  intro pins s σ H x xs v us Q I rx rxs ⟨a, d, vs, d', z, G, ex, le, n, ro, rs, hp, q⟩
  subst ex
  unfold Mpop at hp
  split at hp
  · split at hp
    · rename_i d0 hd
      cases hp
      obtain ⟨ys, e, r⟩ := ro
      rw [reps_nil] at rs; subst rs
      obtain ⟨y, hy, ry⟩ := reps_get r hd
      rw [reps_length r] at hy
      exact mt_pop pins s σ H _ _ v us Q I rx rxs ⟨a, ys, y, rfl, rfl, e, hy, q _ _ (root_l (reps_dropLast r)) ry⟩
    · cases hp
  · cases hp
theorem mutp_popAt : MutP X w "list.pop" MpopAt := by
  intro pins s σ H x xs v us Q I rx rxs ⟨a, d, vs, d', z, G, ex, le, n, ro, rs, hp, q⟩
  subst ex
  unfold MpopAt at hp
  split at hp
  · split at hp
    · rename_i j hj
      split at hp
      · rename_i d0 hd
        split at hp
        · rename_i hl
          cases hp
          obtain ⟨ys, e, r⟩ := ro
          have ei := reps_ints (ns := [_]) rs
          subst ei
          obtain ⟨y, hy, ry⟩ := reps_get r hd
          obtain ⟨h1, h2, h3, h4⟩ := ixN_seq hj
          have hlen := reps_length r
          exact mt_popAt pins s σ H _ _ v us Q I rx rxs ⟨a, ys, _, j, y, rfl, rfl, e, by omega, by omega, by rw [← hlen]; exact h1, hy, q _ _ (root_l (reps_erase j r)) ry⟩
        · cases hp
      · cases hp
    · cases hp
  · cases hp
end

/-! ### x[i] = e, del x[i] -/
def putIx : Val → Val → Val → Option Val
  | .lst ds, .int k, v => (ixN ds.length k).map fun j => .lst (ds.set j v)
  | .dct false kvs, k, v => match keyOf k with
    | some q => if kvs.length < 100000 then some (.dct false (dPut kvs q v)) else none
    | none => none
  | _, _, _ => none
def setIx (i : Nat) (fk fe : EF) : SF := fun r => match frz fe r with
  | .ok _ v r1 => match r1[i]? with
    | some (some (true, _)) => match frz fk r1 with
      | .ok _ k r2 => match r2[i]? with
        | some (some (true, d)) => match putIx d k v with
          | some d' => .nx (r2.set i (some (true, d')))
          | none => .bad
        | _ => .bad
      | .ex e r2 => .ex e r2
      | .bad => .bad
    | _ => .bad
  | .ex e r1 => .ex e r1
  | .bad => .bad
def rPut (w : Wd) : V → V → V → Hp → (Hp → Prop) → Prop := fun o k x H Q => ∃ a d kd v d' G, o = .ref a ∧ Le G H ∧ G a = none ∧ Root w G H d a ∧ Rep w G kd k ∧ Rep w G v x ∧ putIx d kd v = some d' ∧ ∀ u, Root w G (upd H a u) d' a → Q (upd H a u)
theorem set_put {X : Cx} {w : Wd} (c : Cal X w) : PSet X (rPut w) := by
  intro pins s σ H o k x ov kvv u Q I ro rk rx ⟨a, d, kd, v, d', G, eo, le, n, rt, rpk, rpx, hp, q⟩
  subst eo
  unfold putIx at hp
  split at hp
  · rw [Option.map_eq_some_iff] at hp
    obtain ⟨j, hj, e⟩ := hp
    subst e
    obtain ⟨ys, e, r⟩ := rt
    obtain rfl := rep_int.mp rpk
    exact set_list pins s σ H _ _ _ ov kvv u Q I ro rk rx ⟨a, ys, _, j, rfl, rfl, e, by rw [← reps_length r]; exact hj, q _ (root_l (reps_set rpx j r))⟩
  · split at hp
    · rename_i qk hk
      split at hp
      · rename_i hl
        cases hp
        obtain ⟨_, kvs, e, r⟩ | ⟨ht, _⟩ := rt
        · obtain ⟨rfl, hb⟩ := rrep_key (H := H) (.inl rpk) hk
          have g : DPut H a (kV qk) x (upd H a (.dK (putK kvs qk x))) := DPut.k e (by rw [← repK_length r]; exact Nat.lt_of_lt_of_le hl (by decide))
          cases (show ov = Value.ref a from ro)
          exact d_setItem (by have := c.un; omega) I g rk rx fun s' I' => ⟨_, I', q _ (.inl ⟨rfl, _, upd_same, repK_put r hb rpx⟩)⟩
        · cases ht
      · cases hp
    · cases hp
  · cases hp
theorem ps_setIx {X : Cx} {A : Act} {W : WX} {o ke e : Expr} {i : Nat} {fk fe : EF} {pos pos' : Pos} (c : Cal X A.w) (ho : PE X o (tVar i)) (hk : PE X ke (tE A W fk)) (he : PE X e (tE A W fe))
    (hs : swapsWithSole [.Subscript o ke pos'] e pos.line X.env = pure false := by rfl) (hw : swappedStores [.Subscript o ke pos'] e X.env = pure none := by rfl)
    (h1 : (assignEach [.Subscript o ke pos'] X.env).map (·.2) = [assign (.Subscript o ke pos') X.env] := by rfl)
    (ha : ∀ v, assign (.Subscript o ke pos') X.env v = (do
      let ov ← holding [v] (eval o X.env)
      let iv ← holding [v, ov] (eval ke X.env)
      standAt pos'
      holding [v, ov, iv] (setItem ov iv v)
      release [v, ov, iv] []) := by intro _; rfl) : PS X (.Assign [.Subscript o ke pos'] e pos) (tSt A W (setIx i fk fe)) := by
  refine PS.imp (ps_asg (pe_frz he) (pg_sub ho (pe_frz hk) (set_put c) ha) hs hw h1) fun D σ H h => ?_
  obtain ⟨r, G, k, m⟩ := tSt_iff.mp h
  refine ⟨r, G, k, ?_⟩
  unfold setIx at m
  cases hf : frz fe r with
  | bad => rw [hf] at m; exact m.elim
  | ex e r' => rw [hf] at m; exact m σ
  | ok o0 v r1 =>
    have eo := frz_false hf
    subst eo
    simp only [hf] at m ⊢
    intro x G1 H1 R1
    have k1 := R1.ok
    rcases q1 : r1[i]? with _ | _ | ⟨_ | _, d0⟩
    · simp only [q1] at m; exact m.elim
    · simp only [q1] at m; exact m.elim
    · simp only [q1] at m; exact m.elim
    · simp only [q1] at m
      obtain ⟨a, e1, ro, n, l⟩ := k1.ow i d0 q1
      refine ⟨.ref a, e1, r1, G1, k1, ?_⟩
      cases hk' : frz fk r1 with
      | bad => simp only [hk'] at m; exact m.elim
      | ex e r2 => simp only [hk'] at m ⊢; exact (show ExP A W G σ e r2 from m σ).mono R1.st.ex
      | ok o1 kd r2 =>
        have eo := frz_false hk'
        subst eo
        simp only [hk'] at m ⊢
        intro y G2 H2 R2
        have k2 := R2.ok
        rcases q2 : r2[i]? with _ | _ | ⟨_ | _, d⟩
        · simp only [q2] at m; exact m.elim
        · simp only [q2] at m; exact m.elim
        · simp only [q2] at m; exact m.elim
        · simp only [q2] at m
          cases hp : putIx d kd v with
          | none => simp only [hp] at m; exact m.elim
          | some d' =>
            simp only [hp] at m
            obtain ⟨b, e2, ro2, n2, l2⟩ := k2.ow i d q2
            rw [e1] at e2; cases e2
            exact ⟨a, d, kd, v, d', G2, rfl, k2.sub, n2, ro2, R2.tr, Rep.mono R2.st.ex R1.tr, hp, fun u hr => m σ G2 _ (k2.mut q2 e1 hr) (R1.st.ex.trans R2.st.ex)⟩

/-! ### displays of dicts -/
inductive DR where
  | ok (kvs : List (Val × Val)) (r : Env) | ex (e : Val) (r : Env) | bad
def dspL : List (EF × EF) → Env → DR
  | [], r => .ok [] r
  | (fk, fv) :: l, r => match frz fk r with
    | .ok _ k r1 => match frz fv r1 with
      | .ok _ v r2 => match dspL l r2 with
        | .ok kvs r3 => .ok ((k, v) :: kvs) r3
        | x => x
      | .ex e r2 => .ex e r2
      | .bad => .bad
    | .ex e r1 => .ex e r1
    | .bad => .bad
def putAll (acc : List (Val × Val)) : List (Val × Val) → Option (List (Val × Val))
  | [] => some acc
  | (k, v) :: kvs => match keyOf k with
    | some q => putAll (dPut acc q v) kvs
    | none => none
def dsp (l : List (EF × EF)) : EF := fun r => match dspL l r with
  | .ok kvs r1 => if kvs.length ≤ 15 then match putAll [] kvs with
      | some ds => .ok true (.dct false ds) r1
      | none => .bad
    else .bad
  | .ex e r1 => .ex e r1
  | .bad => .bad
def dNew (t : Bool) : EF := fun r => .ok true (.dct t []) r
theorem reps_pairs {w : Wd} {G : Hp} : ∀ {kvs ds : List (Val × Val)} {acc : List (Val × Val)} {ks : List (Key × V)} {ps : List (V × V)}, putAll acc kvs = some ds → RepK w G acc ks → (Paired (fun (p : Val × Val) (q : V × V) => Rep w G p.1 q.1 ∧ Rep w G p.2 q.2) kvs ps) →
    ∃ qs : List (Key × V), ps = qs.map (fun kv => (kV kv.1, kv.2)) ∧ qs.length = kvs.length ∧ RepK w G ds (mergeK ks qs)
  | [], ds, acc, ks, _, h, r, .nil => by
    simp only [putAll, Option.some.injEq] at h
    subst h
    exact ⟨[], rfl, rfl, r⟩
  | (k, v) :: kvs, ds, acc, ks, _ :: _, h, r, .cons (b := b) hb t => by
    simp only [putAll] at h
    split at h
    · rename_i q hq
      obtain ⟨e1, e2⟩ := rrep_key (H := G) (.inl hb.1) hq
      obtain ⟨qs, e3, e4, e5⟩ := reps_pairs h (repK_put r e2 hb.2) t
      refine ⟨(q, b.2) :: qs, ?_, by simp [e4], e5⟩
      rw [List.map_cons, e3, ← e1]
    · cases h
section
variable {X : Cx} {A : Act} {W : WX} {pos : Pos}
def trs (A : Act) (W : WX) (l : List (EF × EF)) : List (TE × TE) := l.map fun p => (tE A W (frz p.1), tE A W (frz p.2))
theorem pps_Nil : PPs X pos [] [] (trs A W []) := pps_nil
theorem pps_Cons {k v : Expr} {ks : List (Option Expr)} {vs : List Expr} {fk fv : EF} {l : List (EF × EF)} (hk : PE X k (tE A W fk)) (hv : PE X v (tE A W fv)) (hr : PPs X pos ks vs (trs A W l)) : PPs X pos (some k :: ks) (v :: vs) (trs A W ((fk, fv) :: l)) :=
  pps_cons (pe_frz hk) (pe_frz hv) hr
theorem dsp_pairs {σ : L2.St} : ∀ {l : List (EF × EF)} {r : Env} {G H : Hp} {Q : List (V × V) → Hp → Prop}, Ok A G H σ r →
    (match dspL l r with
      | .ok kvs r' => ∀ ps G' H', Ok A G' H' σ r' → Step σ r G H r' G' H' → Paired (fun (p : Val × Val) (q : V × V) => Rep A.w G' p.1 q.1 ∧ Rep A.w G' p.2 q.2) kvs ps → Q ps H'
      | .ex e r' => ExP A W G σ e r'
      | .bad => False) → tPairs (trs A W l) σ H Q
  | [], r, G, H, Q, k, m => m [] G H k Step.refl .nil
  | (fk, fv) :: l, r, G, H, Q, k, m => by
    show tE A W (frz fk) σ H fun x H1 => tE A W (frz fv) σ H1 fun y H2 => tPairs (trs A W l) σ H2 fun ps H3 => Q ((x, y) :: ps) H3
    refine ⟨r, G, k, ?_⟩
    simp only [dspL] at m
    cases h1 : frz fk r with
    | bad => simp only [h1] at m
    | ex e r1 => simp only [h1] at m ⊢; exact m
    | ok o1 kd r1 =>
      have eo := frz_false h1
      subst eo
      simp only [h1] at m ⊢
      intro x G1 H1 R1
      refine ⟨r1, G1, R1.ok, ?_⟩
      cases h2 : frz fv r1 with
      | bad => simp only [h2] at m
      | ex e r2 => simp only [h2] at m ⊢; exact m.mono R1.st.ex
      | ok o2 vd r2 =>
        have eo := frz_false h2
        subst eo
        simp only [h2] at m ⊢
        intro y G2 H2 R2
        refine dsp_pairs (l := l) R2.ok ?_
        have st := R1.st.trans R2.st
        cases h3 : dspL l r2 with
        | bad => simp only [h3] at m
        | ex e r3 => simp only [h3] at m ⊢; exact m.mono st.ex
        | ok kvs r3 =>
          simp only [h3] at m ⊢
          intro ps G3 H3 k3 st3 pr
          exact m _ G3 H3 k3 (st.trans st3) (.cons ⟨Rep.mono (R2.st.ex.trans st3.ex) R1.tr, Rep.mono st3.ex R2.tr⟩ pr)
theorem Ok.other {G H : Hp} {σ : L2.St} {r : Env} {p : Addr} {u : HO} (k : Ok A G H σ r) (n : G p = none) (nr : ¬ Rt r σ p) (l : A.L p ∨ A.H0 p = none) : Ok A G (upd H p u) σ r := by
  refine ⟨k.ex0, k.gr0, fun b o hb nl => ?_, fun b o hb => ?_, k.len, k.fz, fun j w h1 => ?_, k.sep, k.fx⟩
  · have ne : b ≠ p := fun z => by
      subst z
      rcases l with l | l
      · exact nl l
      · rw [l] at hb; cases hb
    rw [upd_ne ne]; exact k.fr0 b o hb nl
  · rw [upd_ne (ne_of_none hb n)]; exact k.sub b o hb
  · obtain ⟨b, e, q, nb, lb⟩ := k.ow j w h1
    have ne : b ≠ p := fun z => nr ⟨j, w, h1, by rw [e, z]⟩
    exact ⟨b, e, q.mono (Le.refl _) (fun o ho => by rw [upd_ne ne]; exact ho), nb, lb⟩
theorem pe_dsp {keys : List (Option Expr)} {values : List Expr} {l : List (EF × EF)} (h : PPs X pos keys values (trs A W l)) (hall : keys.all (·.isSome) = true := by rfl) (hl : keys.length = values.length := by rfl) (h0 : keys ≠ [] := by simp) (h15 : keys.length ≤ 15 := by decide) :
    PE X (.Dict keys values pos) (tE A W (dsp l)) := by
  refine PE.imp (pe_disp h hall hl h0 h15) fun σ H Q ⟨r, G, k, m⟩ p hp => ?_
  have gr0 := Grow.laidH (o := .dK []) k.sub hp
  have k0 := k.grow gr0
  refine dsp_pairs k0 ?_
  unfold dsp at m
  cases hd : dspL l r with
  | bad => simp only [hd] at m
  | ex e r1 => simp only [hd] at m ⊢; exact m
  | ok kvs r1 =>
    simp only [hd] at m ⊢
    intro ps G1 H1 k1 st1 pr
    by_cases hlen : kvs.length ≤ 15
    · simp only [if_pos hlen] at m
      cases hpa : putAll [] kvs with
      | none => simp only [hpa] at m
      | some ds =>
        simp only [hpa] at m
        have nr := k.notRt hp
        have there : H1 p = some (.dK []) := st1.keep p _ upd_same nr
        obtain ⟨qs, e1, e2, e3⟩ := reps_pairs (ks := []) hpa (by rw [RepK]) pr
        have n1 : G1 p = none := by
          cases z : G1 p with
          | none => rfl
          | some u =>
            rcases st1.grow p (k.sub.back hp) (by rw [z]; simp) with y | y
            · rw [upd_same] at y; cases y
            · exact absurd y nr
        have nr1 : ¬ Rt r1 σ p := fun z => nr (st1.rts p z)
        refine ⟨there, qs, e1, by rw [e2]; exact hlen, ?_⟩
        refine m _ G1 _ ⟨k1.other n1 nr1 (k.fresh hp), ⟨st1.ex, fun b o hb nb => ?_, fun b hb hb' => ?_, st1.rts⟩, trep_t (.inl ⟨rfl, _, upd_same, e3⟩) n1 nr1 (k.fresh hp), fun _ a e => by cases e; exact .inl hp⟩
        · have ne : b ≠ p := ne_of_none hb hp
          rw [upd_ne ne]
          exact st1.keep b o (by rw [upd_ne ne]; exact hb) nb
        · have ne : b ≠ p := fun z => hb' (by rw [z]; exact n1)
          have := st1.grow b hb hb'
          rw [upd_ne ne] at this
          exact this
    · simp only [if_neg hlen] at m
theorem pe_dNewK : PE X (.Dict [] [] pos) (tE A W (dNew false)) := PE.imp pe_dnewK fun σ H Q ⟨r, G, k, m⟩ p hp => by
  have gr := Grow.laidH (o := .dK []) k.sub hp
  exact m _ G _ ⟨k.grow gr, gr.step, trep_t (.inl ⟨rfl, _, upd_same, by rw [RepK]⟩) (k.sub.back hp) (k.notRt hp) (k.fresh hp), fun _ a e => by cases e; exact .inl hp⟩
end
end M
/-! MPS: set(t), t a tuple of texts, and how many it holds. -/
namespace M
open PySem PySem.Spec PyProof.Rows L2

/-! ### each text once, the first i looked at -/
def metS (ss : List Str) : Nat → List Str
  | 0 => []
  | i + 1 => match ss[i]? with
    | some x => if (metS ss i).any (· == x) = true then metS ss i else metS ss i ++ [x]
    | none => metS ss i
theorem metS_le (ss : List Str) : ∀ i, (metS ss i).length ≤ i
  | 0 => Nat.le_refl _
  | i + 1 => by
    have ih := metS_le ss i
    rw [metS]
    split
    · split
      · omega
      · simp; omega
    · omega
theorem metS_any {ss : List Str} {i : Nat} {x : Str} (h : ss[i]? = some x) (k : Str) : (metS ss (i + 1)).any (· == k) = ((metS ss i).any (· == k) || decide (k = x)) := by
  rw [metS, h]
  simp only
  by_cases hx : (metS ss i).any (· == x) = true
  · rw [if_pos hx]
    by_cases e : k = x
    · rw [e, hx]; simp
    · simp [e]
  · rw [if_neg hx, List.any_append]
    by_cases e : k = x
    · rw [e]; simp
    · have : (x == k) = false := beq_eq_false_iff_ne.mpr fun z => e z.symm
      simp [this, e]
theorem metS_len {ss : List Str} {i : Nat} {x : Str} (h : ss[i]? = some x) : (metS ss (i + 1)).length = if (metS ss i).any (· == x) = true then (metS ss i).length else (metS ss i).length + 1 := by
  rw [metS, h]
  simp only
  split <;> simp

section
variable {P : Program} {w : World} {A : Around} {J : Addr} {fp wr : List Addr} {G : Array GenState → Array GenState → Prop} {items : Array Value} {St : Nat → Shared → Prop} {ss : List Str}
theorem set_grow {R : Result → Shared → Prop} (W : WalksS P w A.in1 J fp wr G items.size (fun i v => items[i]? = some v) St) (S : Addr) (out : S ∉ fp) (hz : items.size = ss.length)
    (tx : ∀ (i : Nat) (v : Value), items[i]? = some v → ∃ x t, ss[i]? = some x ∧ v = .str x t) (few : ss.length + 1 < scanBound) :
    ∀ (left i : Nat) (s : Shared), items.size - i = left → i ≤ items.size → St i s → s.heap.SetOf (PySem.strKind P w) S (fun k => (metS ss i).any (· == k)) (metS ss i).length →
      (∀ s', Moved (S :: wr) G s s' → s'.heap.SetOf (PySem.strKind P w) S (fun k => (metS ss ss.length).any (· == k)) (metS ss ss.length).length → R (.ok (.ret .none)) s') →
      codeAny (model P w) A (.builtin "set.update.loop" ⟨[.ref S, .ref J], []⟩) R s := by
  have sw : S ∉ wr := fun z => out (W.sub _ z)
  have wide : ∀ b ∈ wr, b ∈ S :: wr := fun b z => List.mem_cons_of_mem _ z
  have same : ∀ {s1 s2 : Shared} {T : Str → Bool} {n : Nat}, Moved wr G s1 s2 → s1.heap.SetOf (PySem.strKind P w) S T n → s2.heap.SetOf (PySem.strKind P w) S T n := by
    rintro s1 s2 T n mv ⟨o, es, ep, tb, ho, rest⟩
    exact ⟨o, es, ep, tb, mv.heap S _ sw ho, rest⟩
  intro left
  induction left with
  | zero =>
    intro i s hk hi st hS fin
    have hin : i = items.size := by omega
    subst hin
    refine codeAny_builtin F.entry_set_update_loop ?_
    rw [Around.under_plainId F.plain_set_update_loop _]
    show wpAny _ A.in1 (pyNext (.ref J) >>= _) _ _ s
    refine wpAny_bind (W.done s _ _ st fun s' mv => ?_)
    show wpAny _ A.in1 (PySem.ret Value.none) _ _ s'
    rw [hz] at hS
    exact wpAny_pure (fin s' (mv.mono wide) (same mv hS))
  | succ left ih =>
    intro i s hk hi st hS fin
    have lt : i < items.size := by omega
    refine codeAny_builtin F.entry_set_update_loop ?_
    rw [Around.under_plainId F.plain_set_update_loop _]
    show wpAny _ A.in1 (pyNext (.ref J) >>= _) _ _ s
    refine wpAny_bind (W.item i s _ _ lt st fun v s' hv st' mv => ?_)
    obtain ⟨x, t, hx, rfl⟩ := tx i v hv
    have hS' := same mv hS
    show wpAny _ A.in1 (holding [Value.str x t] (setAdd S (.str x t)) >>= _) _ _ s'
    refine wpAny_bind (wpAny_holding ?_)
    unfold setAdd
    refine wpAny_holding ?_
    refine wpAny_bind ((PySem.strKind P w).pyHash (k := x) (strKind_is _ _ _ _) ?_)
    have room : (metS ss i).length + 1 < scanBound := by
      have := metS_le ss i
      omega
    refine wpAny_setAddHashed_of (knd := PySem.strKind P w) (s := { s' with toks := s'.toks + 1 }) (strKind_is _ _ _ _) rfl hS' room fun h' sb hS2 => ?_
    have hS3 : h'.SetOf (PySem.strKind P w) S (fun k => (metS ss (i + 1)).any (· == k)) (metS ss (i + 1)).length :=
      SetOf_congr hS2 (fun k => (metS_any hx k).symm) (metS_len hx).symm
    refine wpAny_pure ⟨plainId_quiet F.plain_set_update_loop _, ih (i + 1) _ (by omega) lt (W.frame _ s' _ _ st' (Nat.le_succ _) fun b hb o e => ?_) hS3 fun s2 mv2 hS4 => ?_⟩
    · rw [sb.2 b (fun z : b = S => out (by rw [← z]; exact hb))]
      exact e
    · refine fin s2 (Moved.trans W.gtrans ((mv.mono wide).then_heap (Nat.le_succ _) fun b o hb e => ?_) mv2) hS4
      rw [sb.2 b (fun z : b = S => hb (by rw [z]; exact List.mem_cons_self))]
      exact e
end
end M
namespace PySem
set_option maxHeartbeats 8000000 in
/-- set(t) -/
theorem set_tupTexts {prog : Program} {w : World} {A : Around} {E : Value → Shared → Prop} {s : Shared} {t : Addr} {items : Array Value} {ss : List Str} {Q : Value → Shared → Prop}
    (calm : A.handled = none) (ht : s.heap.IsTuple t items) (hz : items.size = ss.length) (tx : ∀ (i : Nat) (v : Value), items[i]? = some v → ∃ x k, ss[i]? = some x ∧ v = .str x k) (few : ss.length + 1 < scanBound)
    (fin : ∀ (h' : Heap) (tk : Nat), h'.SetOf (PySem.strKind prog w) s.heap.objs.size (fun k => (M.metS ss ss.length).any (· == k)) (M.metS ss ss.length).length →
      (∀ b o, b < s.heap.objs.size → s.heap.get? b = some o → h'.get? b = some o) → Q (.ref s.heap.objs.size) { s with heap := h', toks := tk }) :
    wpAny (model prog w) A (call (.type "set") [.ref t]) Q E s := by
  obtain ⟨c, tl, hmro⟩ := F.called_set.mro
  have made := F.called_set.made
  have subs := F.called_set.sub
  refine wpAny_call (codeAny_of_tree ?_)
  show wpAny _ _ (callAny (.type "set") _) _ _ _
  refine wpAny_pure ⟨Code.quiet_builtin _ (by decide +kernel), codeAny_builtin F.entry_type_call ?_⟩
  rw [Around.under_plain (weight_type_call_type "set" [.ref t] []) rfl]
  have nt := F.called_set.notType
  have cc := F.called_set.canCreate
  have tc := F.typeCall_set_1 (.ref t)
  repeat (any_goals (first | assumption | wp_step))
  let fresh : Bool → Obj := fun led => { cls := .type "set", dict := none, data := .set #[] 0 (.fresh 0 0 led) }
  refine codeAny_mono (code_set_new_1 (.ref t) (E := E) (Q₁ := fun ob s₁ => ∃ led : Bool, ob = .ref s.heap.objs.size ∧ s₁ = { s with heap := s.heap.push (fresh led) }) fun led => ⟨led, rfl, rfl⟩) fun r s₁ hr => ?_
  cases r with
  | error e => exact hr
  | ok fl =>
    cases fl with
    | ret ob =>
      obtain ⟨led, rfl, rfl⟩ := hr
      have hS : (s.heap.push (fresh led)).get? s.heap.objs.size = some (fresh led) := Heap.get?_push_size _ rfl
      have hT : Shared.TypeIs { s with heap := s.heap.push (fresh led) } (.ref s.heap.objs.size) "set" := ⟨_, hS, rfl⟩
      have il := F.called_set.init.lookup
      have ib := F.called_set.init.bind (.ref s.heap.objs.size)
      repeat (any_goals (first | assumption | wp_step))
      refine codeAny_mono (codeAny_call_builtin (R := wants (fun r s₂ => r = .none ∧ ∃ h' tk, s₂ = { s with heap := h', toks := tk } ∧
          h'.SetOf (PySem.strKind prog w) s.heap.objs.size (fun k => (M.metS ss ss.length).any (· == k)) (M.metS ss ss.length).length ∧
          (∀ b o, b < s.heap.objs.size → s.heap.get? b = some o → h'.get? b = some o)) E) F.called_set.init.plain F.entry_set_init (check_set_init_1 hT ?_)) fun r₂ s₂ hr₂ => ?_
      · obtain ⟨ot, hot, hct, nt', hdt⟩ := ht
        obtain ⟨ocls, odict, odata, oslots⟩ := ot
        simp only at hct hdt
        subst hct; subst hdt
        have tt : (s.heap.push (fresh led)).get? t = some { cls := .type "tuple", dict := odict, data := .seq items nt', slots := oslots } := Heap.get?_push_of_some _ hot
        have u1 := F.sub_tuple_set
        have u2 := F.sub_tuple_frozenset
        have ne : (Value.type "tuple" == Value.type "dict") = false := by decide
        have tup1 : (s.heap.push (fresh led)).IsTuple t items := ⟨_, tt, rfl, nt', rfl⟩
        unfold Builtin.«set.__init__» noKeywords Builtin.Frozenset.updateFrom
        generalize hPI : pyIter = PI
        wp_walk
        subst hPI
        refine wpAny_pyIter_tuple tup1 ?_
        refine wpAny_bind (wpAny_runValue ?_)
        have below : t < s.heap.objs.size := Heap.lt_size hot
        have calm3 : A.in1.in1.in1.handled = none := by simp [calm]
        have z1 : (s.heap.push (fresh led)).objs.size = s.heap.objs.size + 1 := Heap.size_push ..
        have away : t ≠ (s.heap.push (fresh led)).objs.size := by
          rw [z1]
          exact Nat.ne_of_lt (Nat.lt_succ_of_lt below)
        have out : s.heap.objs.size ∉ [(s.heap.push (fresh led)).objs.size, t] := by
          rw [z1]
          simp only [List.mem_cons, List.not_mem_nil, or_false, not_or]
          exact ⟨Nat.ne_of_lt (Nat.lt_succ_self _), Nat.ne_of_gt below⟩
        refine M.set_grow ((Walks.tuple calm3 _ t away items).toS) s.heap.objs.size out hz tx few (items.size - 0) 0 _ (by omega) (Nat.zero_le _) ⟨⟨_, Heap.get?_push_size _ rfl, rfl, rfl⟩, (tup1.push _)⟩ ?start ?stop
        case start =>
          have got : ((s.heap.push (fresh led)).push { cls := .type "tuple_iterator", data := .fields #[.ref t, .int 0 0] }).get? s.heap.objs.size = some (fresh led) := Heap.get?_push_of_some _ hS
          exact PyProof.Rows.SetOf_congr ((PyProof.Rows.setObjOf_fresh (knd := PySem.strKind prog w) led).setOf got (by unfold scanBound; omega)) (fun _ => rfl) rfl
        case stop =>
          intro s' mv hS'
          obtain ⟨h', g', d', tk', os'⟩ := s'
          have e1 : g' = s.gens := mv.gens
          have e2 : d' = s.drawn := mv.drawn
          have e3 : os' = s.os := mv.os
          subst e1 e2 e3
          show wpAny _ _ _ _ _ _
          refine wpAny_pure ?_
          show wpAny _ _ (ret Value.none) _ _ _
          refine wpAny_pure ⟨rfl, h', tk', rfl, hS', fun b o hb e => ?_⟩
          refine mv.heap b o ?_ (Heap.get?_push_of_some _ (Heap.get?_push_of_some _ e))
          simp only [List.mem_cons, List.not_mem_nil, or_false, not_or]
          rw [z1]
          exact ⟨Nat.ne_of_lt hb, Nat.ne_of_lt (Nat.lt_succ_of_lt hb)⟩
      · cases r₂ with
        | error e => exact hr₂
        | ok fl₂ =>
          cases fl₂ with
          | ret r =>
            obtain ⟨rfl, h', tk, rfl, hS', hk'⟩ := hr₂
            repeat (any_goals (first | assumption | wp_step))
            exact fin _ _ hS' hk'
          | _ => exact hr₂.elim
    | _ => exact hr.elim
end PySem
namespace M
open PySem L2
/-! ### len(set(t)) as one operation -/
def lenSet (f : EF) : EF := fun r => match frz f r with
  | .ok _ v r' => match v with
    | .tup ds => match asStrs ds with
      | some ss => if ss.length ≤ 1000 then .ok false (.int (metS ss ss.length).length) r' else .bad
      | none => .bad
    | _ => .bad
  | .ex e r' => .ex e r'
  | .bad => .bad
section
variable {X : Cx} {A : Act} {W : WX} {a : Expr} {f : EF} {p p2 q pos : Pos}
theorem vals_texts : ∀ {ss : List Str} {us : List Value}, Vals (ss.map V.str) us → ∀ (i : Nat) (v : Value), us[i]? = some v → ∃ x k, ss[i]? = some x ∧ v = .str x k
  | [], _, .nil, i, v, h => by simp at h
  | s :: ss, _ :: _, .cons r rs, 0, v, h => by
    obtain ⟨t, rfl⟩ := r
    simp at h
    exact ⟨s, t, rfl, h.symm⟩
  | s :: ss, _ :: _, .cons r rs, i + 1, v, h => by
    obtain ⟨x, k, h1, h2⟩ := vals_texts rs i v (by simpa using h)
    exact ⟨x, k, by simpa using h1, h2⟩
theorem pe_lenSet (c : Cal X A.w) (hg : Gl X "len") (hm : X.mg "len" = none) (hg2 : Gl X "set") (hm2 : X.mg "set" = none) (ha : PE X a (tE A W f)) (na : starEach [a] X.env = (false, eval a X.env) :: starEach [] X.env := by rfl) :
    PE X (.Call (.Name "len" p) [.Call (.Name "set" p2) [a] [] q] [] pos) (tE A W (lenSet f)) := by
  refine ⟨fun pins s σ H Q I h => ?_⟩
  have h2 : tE A W (frz f) σ H fun x H1 => ∃ (t : Addr) (ss : List Str), x = .ref t ∧ SqT X.K H1 t (ss.map V.str) ∧ ss.length ≤ 1000 ∧ Q (.int ((metS ss ss.length).length : Nat)) H1 := by
    obtain ⟨r, G, k, m⟩ := h
    refine ⟨r, G, k, ?_⟩
    unfold lenSet at m
    cases hf : frz f r with
    | bad => simp only [hf] at m
    | ex e r' => simp only [hf] at m ⊢; exact m
    | ok o v r' =>
      have eo := frz_false hf
      subst eo
      simp only [hf] at m ⊢
      intro x G1 H1 R
      cases v with
      | tup ds =>
        simp only at m
        cases hs : asStrs ds with
        | none => simp only [hs] at m
        | some ss =>
          simp only [hs] at m
          by_cases hl : ss.length ≤ 1000
          · simp only [if_pos hl] at m
            obtain ⟨t, xs, rfl, sq, rs⟩ := rep_tup.mp (show Rep A.w G1 (.tup ds) x from R.tr)
            rw [asStrs_some hs] at rs
            rw [reps_strs rs, c.K] at sq
            exact ⟨t, ss, rfl, sqt_mono R.ok.sub sq, hl, m _ G1 H1 ⟨R.ok, R.st, trep_f (rep_int.mpr rfl), no_own⟩⟩
          · simp only [if_neg hl] at m
      | _ => exact m.elim
  refine PyProof.Rows.Call_ (ld_blt I hg hm PySem.boot_len ?_)
  refine PyProof.Rows.callWith_builtin1 (PyProof.Rows.args_cons ?_ rfl) rfl rfl
  refine PyProof.Rows.Call_ (ld_blt I hg2 hm2 PyProof.Rows.boot_set ?_)
  refine PyProof.Rows.callWith_type1 (PyProof.Rows.args_cons (wpAny_mono ((pe_frz ha).run pins s σ H _ I h2) (fun v s1 ⟨x, H1, I1, r1, t, ss, ex, sq, hl, q1⟩ => PyProof.Rows.args_nil ?_) fun _ _ z => z) na) na rfl
  subst ex
  cases r1
  obtain ⟨its, rv, pl, _⟩ := I1.tuple sq
  have hz : its.toArray.size = ss.length := by
    rw [List.size_toArray, ← rv.length, List.length_map]
  refine PySem.set_tupTexts (ss := ss) (I1.ok.hd c.calm) (show s1.heap.IsTuple t its.toArray from pl) hz (fun i v hv => vals_texts rv i v (by simpa using hv)) (by unfold scanBound; omega) fun h' tk hS hk => ?_
  refine PyProof.Rows.args_nil ?_
  obtain ⟨o, es, ep, tb, ho, hex, hd, _, _, _, hfr, hn⟩ := hS
  have I2 : Inv X pins σ H1 { s1 with heap := h', toks := tk } := I1.kept fun b o e => hk b o (Heap.lt_size e) e
  have le := metS_le ss ss.length
  exact call_len_set ho hex hd hfr (by rw [hn]; omega) ⟨.int _, H1, I2.tok _, ⟨_, by rw [hn]⟩, q1⟩
end
end M
/-! MPI: in of a dict, index, reversed lists, several targets, zip, star, repr of a dict. -/
namespace M
open PySem L2

/-! ### one operation or another -/
def orP (P P' : List Val → Option (Bool × Val)) : List Val → Option (Bool × Val) := fun vs => match P vs with
  | some r => some r
  | none => P' vs
theorem rOf_or {w : Wd} {P P' : List Val → Option (Bool × Val)} {xs : List V} {H : Hp} {Q : VK} (h : rOf w (orP P P') xs H Q) : rOf w P xs H Q ∨ rOf w P' xs H Q := by
  obtain ⟨G, vs, o, z, le, rr, hp, q⟩ := h
  unfold orP at hp
  cases e : P vs with
  | none => rw [e] at hp; exact .inr ⟨G, vs, o, z, le, rr, hp, q⟩
  | some r => rw [e] at hp; exact .inl ⟨G, vs, o, z, le, rr, by rw [e]; exact hp, q⟩
section
variable {X : Cx} {w : Wd}
theorem opr_or {f : Value → Value → Sem Value} {P P' : List Val → Option (Bool × Val)} (h : OpR X f (r2Of w P)) (h' : OpR X f (r2Of w P')) : OpR X f (r2Of w (orP P P')) := fun pins s σ H x y v u Q I rx ry q =>
  (rOf_or (xs := [x, y]) q).elim (fun q => h pins s σ H x y v u Q I rx ry q) fun q => h' pins s σ H x y v u Q I rx ry q
theorem cr_or {f : Value} {P P' : List Val → Option (Bool × Val)} (h : CallR X f (rOf w P)) (h' : CallR X f (rOf w P')) : CallR X f (rOf w (orP P P')) := fun pins s σ H xs us Q I r q =>
  (rOf_or q).elim (fun q => h pins s σ H xs us Q I r q) fun q => h' pins s σ H xs us Q I r q

/-! ### k in d -/
def PinD : List Val → Option (Bool × Val)
  | [k, .dct false kvs] => match keyOf k with
    | some q => some (false, .bl (dGet kvs q).isSome)
    | none => none
  | _ => none
def PnotInD : List Val → Option (Bool × Val)
  | [k, .dct false kvs] => match keyOf k with
    | some q => some (false, .bl (!(dGet kvs q).isSome))
    | none => none
  | _ => none
theorem dget_rel {G H : Hp} {a : Addr} {q : Key} {ds : List (Val × Val)} {kvs : List (Key × V)} (h : Rd H a (.dK kvs)) (rk : RepK w G ds kvs) : ∃ o, DGet H a (kV q) o ∧ o.isSome = (dGet ds q).isSome := by
  obtain ⟨g1, g2⟩ := repK_get (w := w) (G := G) q rk
  refine ⟨valV kvs q, .inl ⟨kvs, q, h, rfl, rfl⟩, ?_⟩
  cases e : dGet ds q with
  | none => rw [g2 e]; rfl
  | some d => obtain ⟨x, e1, _⟩ := g1 d e; rw [e1]; rfl
theorem opr_inD (c : Cal X w) : OpR X (compareOp .In) (r2Of w PinD) := by
  intro pins s σ H x y v u Q I rx ry ⟨G, vs, o, z, le, rr, hp, q⟩
  unfold PinD at hp
  split at hp
  · obtain ⟨_, _, e, r1, r2⟩ := rreps_two rr
    cases e
    split at hp
    · rename_i qk hk
      cases hp
      obtain ⟨rfl, _⟩ := rrep_key r1 hk
      obtain ⟨a, rfl, ⟨_, kvs, h, rk⟩ | ⟨ht, _⟩⟩ := rrep_dct le r2
      · obtain ⟨ov, g, e⟩ := dget_rel (q := qk) h rk
        cases (show u = Value.ref a from ry)
        exact d_in (by have := c.un; omega) I g rx fun s3 I3 => ⟨.bl ov.isSome, H, I3, rfl, by rw [e]; exact bl_new le q⟩
      · cases ht
    · cases hp
  · cases hp
theorem opr_notInD (c : Cal X w) : OpR X (compareOp .NotIn) (r2Of w PnotInD) := by
  intro pins s σ H x y v u Q I rx ry ⟨G, vs, o, z, le, rr, hp, q⟩
  unfold PnotInD at hp
  split at hp
  · obtain ⟨_, _, e, r1, r2⟩ := rreps_two rr
    cases e
    split at hp
    · rename_i qk hk
      cases hp
      obtain ⟨rfl, _⟩ := rrep_key r1 hk
      obtain ⟨a, rfl, ⟨_, kvs, h, rk⟩ | ⟨ht, _⟩⟩ := rrep_dct le r2
      · obtain ⟨ov, g, e⟩ := dget_rel (q := qk) h rk
        cases (show u = Value.ref a from ry)
        exact d_notIn (by have := c.un; omega) I g rx fun s3 I3 => ⟨.bl (!ov.isSome), H, I3, rfl, by rw [e]; exact bl_new le q⟩
      · cases ht
    · cases hp
  · cases hp
def PinX := orP PinD Pin
def PnotInX := orP PnotInD PnotIn
theorem opr_inX (c : Cal X w) : OpR X (compareOp .In) (r2Of w PinX) := opr_or (opr_inD c) (opr_in c)
theorem opr_notInX (c : Cal X w) : OpR X (compareOp .NotIn) (r2Of w PnotInX) := opr_or (opr_notInD c) (opr_notIn c)

/-! ### xs.index(v) -/
def Pindex : List Val → Option (Bool × Val)
  | [.lst ds, v] => match toDs ds, toD v with
    | some es, some d => if shp (.list es) = true ∧ shp d = true then (es.findIdx? fun z => PyData.eqv z d).map fun j => (false, .int (j : Nat)) else none
    | _, _ => none
  | _ => none
theorem mtp_index (c : Cal X w) : MtP X w "list.index" Pindex := by
  intro pins s σ H x xs v us Q I rx rxs ⟨G, vs, o, z, le, rr, hp, q⟩
  unfold Pindex at hp
  split at hp
  · obtain ⟨_, _, e, r1, r2⟩ := rreps_two rr
    cases e
    split at hp
    · rename_i es d h1 h2
      split at hp
      · rename_i hs
        rw [Option.map_eq_some_iff] at hp
        obtain ⟨j, hj, e⟩ := hp
        cases e
        obtain ⟨a, ys, rfl, h, rs⟩ := rrep_lst le r1
        have hl : Dp X.K H (.ref a) (.list es) := .lst (.inl (.inl h)) (dps_of c.K le rs h1)
        obtain ⟨jl, e1, e2⟩ := List.findIdx?_eq_some_iff_getElem.mp hj
        exact mt_indexD (by have := c.un; omega) pins s σ H _ _ v us Q I rx rxs ⟨a, _, d, es, j, es[j], rfl, rfl, hl, dp_rrep c.K le r2 h2, hs.1, hs.2, by simp [jl], e1, fun m z' hm hz => by
          have hm' : m < es.length := Nat.lt_trans hm jl
          rw [List.getElem?_eq_getElem hm'] at hz
          cases hz
          exact Bool.eq_false_iff.mpr (e2 m hm), int_new le q⟩
      · cases hp
    · cases hp
  · cases hp
end

/-! ### xs[::-1] -/
def Prev : List Val → Option (Bool × Val)
  | [.lst ds] => some (true, .lst ds.reverse)
  | _ => none
section
variable {X : Cx} {A : Act} {W : WX} {x : Expr} {fo : OF} {k0 : Nat} {p1 p2 p3 pos : Pos}
theorem pe_rev (c : Cal X A.w) (h : PE X x (tO A W fo)) : PE X (.Subscript x (.Slice none none (some (.UnaryOp .USub (.Constant (.int 1) k0 p1) p2)) p3) pos) (tE A W (prim Prev (osCons fo osNil))) :=
  PE.imp (pe_revL h) fun σ H Q q => by
    obtain ⟨r, G, k, m⟩ := prim_os1 q
    refine ⟨r, G, k, ?_⟩
    cases hf : fo r with
    | bad => simp only [hf] at m
    | ex e r' => simp only [hf] at m ⊢; exact m
    | ok h r1 =>
      simp only [hf] at m ⊢
      intro x G1 H1 k1 st1 t1
      obtain ⟨G2, vs, o, z, le, rr, hp, q2⟩ := m x G1 H1 k1 st1 t1
      unfold Prev at hp
      split at hp
      · obtain ⟨y, e, r1⟩ := rreps_one rr
        cases e; cases hp
        obtain ⟨a, xs, rfl, h, rs⟩ := rrep_lst le r1
        exact ⟨a, xs, rfl, .inl (.inl h), fun p hp => new_lst le hp (reps_reverse rs) q2⟩
      · cases hp
end

/-! ### a, b = x, y; a, b = e -/
def asg2 (i j : Nat) (g : AF) : SF := fun r => match g r with
  | .ok [v, u] r1 => .nx ((r1.set i (some (false, v))).set j (some (false, u)))
  | .ok _ _ => .bad
  | .ex e r1 => .ex e r1
  | .bad => .bad
def asgT (t : TF) (f : EF) : SF := fun r => match frz f r with
  | .ok _ v r1 => match t v r1 with
    | some r2 => .nx r2
    | none => .bad
  | .ex e r1 => .ex e r1
  | .bad => .bad
section
variable {X : Cx} {A : Act} {W : WX} {e tg a b : Expr} {f : EF} {g : AF} {t : TF} {sl : List Nat} {pos px py pt : Pos} {i j : Nat} {x y : Str} {kt k2 : Nat} {pt2 : Pos}
theorem ps_asgT (he : PE X e (tE A W f)) (hg : PG X tg (tTg A sl t)) (hs : swapsWithSole [tg] e pos.line X.env = pure false := by rfl) (hw : swappedStores [tg] e X.env = pure none := by rfl) (h1 : (assignEach [tg] X.env).map (·.2) = [assign tg X.env] := by rfl) :
    PS X (.Assign [tg] e pos) (tSt A W (asgT t f)) :=
  PS.imp (ps_asg (pe_frz he) hg hs hw h1) fun D σ H h => by
    obtain ⟨r, G, k, m⟩ := tSt_iff.mp h
    refine ⟨r, G, k, ?_⟩
    unfold asgT at m
    cases hf : frz f r with
    | bad => rw [hf] at m; exact m.elim
    | ex e r' => rw [hf] at m; exact m σ
    | ok o v r1 =>
      have eo := frz_false hf
      subst eo
      simp only [hf] at m ⊢
      intro x G1 H1 R
      refine ⟨r1, G1, v, R.ok, R.tr, ?_⟩
      cases ht : t v r1 with
      | none => simp only [ht] at m; exact m.elim
      | some r2 => simp only [ht] at m ⊢; exact fun σ' k' _ _ => m σ' G1 H1 k' R.st.ex
theorem ps_asg2 (hc : X.calm = true) (hN : X.N.Nodup) (hi : X.N[i]? = some x) (hj : X.N[j]? = some y) (hij : i ≠ j) (hx : X.env.scope.names.lookup x = some .local) (hy : X.env.scope.names.lookup y = some .local) (hii : i ∉ A.io) (hjj : j ∉ A.io) (ha : PA X [a, b] (tAs A W g))
    (hw : swappedStores [.Tuple [.Name x px, .Name y py] kt pt] (.Tuple [a, b] k2 pt2) X.env = pure (some [x, y]) := by rfl)
    (hs : swapsWithSole [.Tuple [.Name x px, .Name y py] kt pt] (.Tuple [a, b] k2 pt2) pos.line X.env = pure false := by rfl) :
    PS X (.Assign [.Tuple [.Name x px, .Name y py] kt pt] (.Tuple [a, b] k2 pt2) pos) (tSt A W (asg2 i j g)) :=
  PS.imp (ps_par hc hN hi hj hij hx hy ha hw hs) fun D σ H h => by
    obtain ⟨r, G, k, m⟩ := tSt_iff.mp h
    refine ⟨r, G, k, ?_⟩
    unfold asg2 at m
    cases hf : g r with
    | bad => simp only [hf] at m; exact m.elim
    | ex e r' => simp only [hf] at m ⊢; exact m σ
    | ok vs r1 =>
      simp only [hf] at m ⊢
      intro xs G1 H1 k1 st1 rs
      split at m
      · rename_i v u r2 e
        cases e
        obtain ⟨x1, ys, rfl, q1, rs⟩ := reps_cons.mp rs
        obtain ⟨x2, zs, rfl, q2, rs⟩ := reps_cons.mp rs
        rw [reps_nil] at rs; subst rs
        refine ⟨x1, x2, rfl, m _ G1 H1 ?_ st1.ex⟩
        exact (k1.store (o := false) q1 hii).store (o := false) q2 hjj
      · exact m.elim
      · rename_i e; cases e
      · exact m.elim
end

/-! ### *xs in a display -/
def asStar (f : EF) (g : AF) : AF := fun r => match frz f r with
  | .ok _ v r1 => match Plist [v] with
    | some (true, .lst ds) => match g r1 with
      | .ok vs r2 => .ok (ds ++ vs) r2
      | .ex e r2 => .ex e r2
      | .bad => .bad
    | _ => .bad
  | .ex e r1 => .ex e r1
  | .bad => .bad
section
variable {X : Cx} {A : Act} {W : WX} {e : Expr} {es : List Expr} {f : EF} {g : AF} {p : Pos}
theorem pa_asStar (c : Cal X A.w) (he : PE X e (tE A W f)) (hr : PA X es (tAs A W g)) (hs : starEach (.Starred e p :: es) X.env = (true, eval e X.env) :: starEach es X.env := by rfl) : PA X (.Starred e p :: es) (tAs A W (asStar f g)) :=
  PA.imp (StX.pa_star (pe_frz he) hr hs) fun σ H Q ⟨r, G, k, m⟩ => ⟨r, G, k, by
    unfold asStar at m
    cases hf : frz f r with
    | bad => simp only [hf] at m
    | ex e r' => simp only [hf] at m ⊢; exact m
    | ok o v r1 =>
      have eo := frz_false hf
      subst eo
      simp only [hf] at m ⊢
      intro x G1 H1 R1
      cases hp : Plist [v] with
      | none => simp only [hp] at m
      | some oz =>
        obtain ⟨o, z⟩ := oz
        cases o with
        | false => simp only [hp] at m
        | true =>
          cases z with
          | lst ds =>
            simp only [hp] at m
            obtain ⟨a, xs, rfl, hsq, rs⟩ := rrep_seq c R1.ok.sub (.inl R1.tr) hp
            refine ⟨a, xs, rfl, hsq.symm, r1, G1, R1.ok, ?_⟩
            cases hg : g r1 with
            | bad => simp only [hg] at m
            | ex e r2 => simp only [hg] at m ⊢; exact m.mono R1.st.ex
            | ok vs r2 =>
              simp only [hg] at m ⊢
              intro ys G2 H2 k2 st2 rs2
              exact m (xs ++ ys) G2 H2 k2 (R1.st.trans st2) (reps_append (rs.mono st2.ex) rs2)
          | _ => simp only [hp] at m⟩
end

/-! ### zip -/
def zipV : List Val → List Val → List Val
  | u :: us, v :: vs => .tup [u, v] :: zipV us vs
  | _, _ => []
def zipOf : List Val → Option (List Val)
  | [.tup us, .tup vs] => some (zipV us vs)
  | [.lst us, .lst vs] => some (zipV us vs)
  | _ => none
def itZip (g : AF) : IF := itR zipOf g
theorem zipV_length : ∀ us vs : List Val, (zipV us vs).length = min us.length vs.length
  | [], vs => by simp [zipV]
  | u :: us, [] => by simp [zipV]
  | u :: us, v :: vs => by simp [zipV, zipV_length us vs]
theorem zipV_get : ∀ {us vs : List Val} {i : Nat} {z : Val}, (zipV us vs)[i]? = some z → ∃ u v, us[i]? = some u ∧ vs[i]? = some v ∧ z = .tup [u, v]
  | [], vs, i, z, h => by simp [zipV] at h
  | u :: us, [], i, z, h => by simp [zipV] at h
  | u :: us, v :: vs, 0, z, h => by simp [zipV] at h; exact ⟨u, v, rfl, rfl, h.symm⟩
  | u :: us, v :: vs, i + 1, z, h => by
    obtain ⟨u', v', e1, e2, e3⟩ := zipV_get (us := us) (vs := vs) (i := i) (by simpa [zipV] using h)
    exact ⟨u', v', by simpa using e1, by simpa using e2, e3⟩
section
variable {w : Wd} {K : PySem.W.Frag} {G : Hp} {us vs : List Val} {xs ys : List V} {a b : Addr}
theorem pair_laid {G' H : Hp} {T : Addr} {u v : Val} {x y : V} (le : Le G' H) (hT : H T = none) (r1 : Rep w G' u x) (r2 : Rep w G' v y) : Grow G' H (upd G' T (.tup [x, y])) (upd H T (.tup [x, y])) ∧ Rep w (upd G' T (.tup [x, y])) (.tup [u, v]) (.ref T) := by
  have gr := Grow.laidG (o := .tup [x, y]) le hT
  exact ⟨gr, rep_tup.mpr ⟨T, _, rfl, SqT.of upd_same, reps_cons.mpr ⟨_, _, rfl, r1.mono gr.g, reps_one (r2.mono gr.g)⟩⟩⟩
theorem itok_zipT (ha : SqT K G a xs) (hb : SqT K G b ys) (r1 : Reps w G us xs) (r2 : Reps w G vs ys) : ItOk w (RZ.ItzT K a b) G (zipV us vs) where
  go := fun G' H i le le' hi => by
    rw [zipV_length] at hi
    have l1 : i < xs.length := by rw [← reps_length r1]; omega
    have l2 : i < ys.length := by rw [← reps_length r2]; omega
    exact ⟨xs, ys, xs[i], ys[i], sqt_mono (le.trans le') ha, sqt_mono (le.trans le') hb, by simp [l1], by simp [l2]⟩
  stop := fun G' H i le le' hi => by
    rw [zipV_length, reps_length r1, reps_length r2] at hi
    exact ⟨xs, ys, sqt_mono (le.trans le') ha, sqt_mono (le.trans le') hb, by omega⟩
  yld := fun G' H i z x H' le le' hv ⟨T, p, q, ex, hT, eH, f1, f2⟩ => by
    obtain ⟨u, v, e1, e2, rfl⟩ := zipV_get hv
    obtain ⟨p', g1, g2⟩ := reps_get r1 e1
    obtain ⟨q', g3, g4⟩ := reps_get r2 e2
    rw [f1 xs (sqt_mono (le.trans le') ha)] at g1
    rw [f2 ys (sqt_mono (le.trans le') hb)] at g3
    cases g1; cases g3
    subst ex eH
    exact ⟨_, pair_laid le' hT (g2.mono le) (g4.mono le)⟩
theorem itok_zipL (ha : SqL K G a xs) (hb : SqL K G b ys) (r1 : Reps w G us xs) (r2 : Reps w G vs ys) : ItOk w (Itz K a b) G (zipV us vs) where
  go := fun G' H i le le' hi => by
    rw [zipV_length] at hi
    have l1 : i < xs.length := by rw [← reps_length r1]; omega
    have l2 : i < ys.length := by rw [← reps_length r2]; omega
    exact ⟨xs, ys, xs[i], ys[i], sql_mono (le.trans le') ha, sql_mono (le.trans le') hb, by simp [l1], by simp [l2]⟩
  stop := fun G' H i le le' hi => by
    rw [zipV_length, reps_length r1, reps_length r2] at hi
    exact ⟨xs, ys, sql_mono (le.trans le') ha, sql_mono (le.trans le') hb, by omega⟩
  yld := fun G' H i z x H' le le' hv ⟨T, p, q, ex, hT, eH, f1, f2⟩ => by
    obtain ⟨u, v, e1, e2, rfl⟩ := zipV_get hv
    obtain ⟨p', g1, g2⟩ := reps_get r1 e1
    obtain ⟨q', g3, g4⟩ := reps_get r2 e2
    rw [f1 xs (sql_mono (le.trans le') ha)] at g1
    rw [f2 ys (sql_mono (le.trans le') hb)] at g3
    cases g1; cases g3
    subst ex eH
    exact ⟨_, pair_laid le' hT (g2.mono le) (g4.mono le)⟩
end
section
variable {X : Cx} {A : Act} {W : WX} {e e2 : Expr} {g : AF} {p pos tpos : Pos} {elts : List Expr} {kk : Nat}
theorem pi_zip2 (hw : A.w.K = X.K) (hg : Gl X "zip") (hm : X.mg "zip" = none) (ha : PA X [e, e2] (tAs A W g)) (hs : starEach [e, e2] X.env = (false, eval e X.env) :: starEach [e2] X.env := by rfl) (hpl : (backTo pos (starEach [e2] X.env)).any (·.1) = false := by rfl) :
    PI X (.Tuple elts kk tpos) (.Call (.Name "zip" p) [e, e2] [] pos) (tIt A W (itZip g)) :=
  PI.imp (RZ.pi_zipA hg hm ha hs hpl) fun σ H R ⟨r, G, k, m⟩ => ⟨r, G, k, by
    unfold itZip itR at m
    cases hf : g r with
    | bad => simp only [hf] at m
    | ex e r' => simp only [hf] at m ⊢; exact m
    | ok vs r' =>
      simp only [hf] at m ⊢
      intro xs G1 H1 k1 st1 rs
      have le := k1.sub
      cases hz : zipOf vs with
      | none => simp only [hz] at m
      | some zs =>
        simp only [hz] at m
        unfold zipOf at hz
        split at hz
        · cases hz
          obtain ⟨x1, ys, rfl, q1, rs⟩ := reps_cons.mp rs
          obtain ⟨x2, zs, rfl, q2, rs⟩ := reps_cons.mp rs
          rw [reps_nil] at rs; subst rs
          obtain ⟨a, xs, rfl, sa, ra⟩ := rep_tup.mp q1
          obtain ⟨b, ys, rfl, sb, rb⟩ := rep_tup.mp q2
          rw [hw] at sa sb
          exact ⟨a, b, xs, ys, rfl, .inr ⟨sqt_mono le sa, sqt_mono le sb, m _ G1 H1 k1 st1 (itok_zipT sa sb ra rb)⟩⟩
        · cases hz
          obtain ⟨x1, ys, rfl, q1, rs⟩ := reps_cons.mp rs
          obtain ⟨x2, zs, rfl, q2, rs⟩ := reps_cons.mp rs
          rw [reps_nil] at rs; subst rs
          obtain ⟨a, xs, rfl, sa, ra⟩ := rep_lst.mp q1
          obtain ⟨b, ys, rfl, sb, rb⟩ := rep_lst.mp q2
          exact ⟨a, b, xs, ys, rfl, .inl ⟨.inl (.inl (le _ _ sa)), .inl (.inl (le _ _ sb)), m _ G1 H1 k1 st1 (itok_zipL (K := X.K) (.inl (.inl sa)) (.inl (.inl sb)) ra rb)⟩⟩
        · cases hz⟩
end

/-! ### repr of a dict of scalars and tuples of them -/
mutual
def noLst : PyData → Bool
  | .none => true
  | .bool _ => true
  | .int _ => true
  | .str _ => true
  | .tuple xs => noLsts xs
  | _ => false
def noLsts : List PyData → Bool
  | [] => true
  | x :: xs => noLst x && noLsts xs
end
mutual
theorem reads_free {h : Heap} : ∀ {d : PyData} {u : Value} {as : List Addr}, noLst d = true → Reads h u d as → as = []
  | .none, _, _, _, r => by cases r; rfl
  | .bool _, _, _, _, r => by cases r; rfl
  | .int _, _, _, _, r => by cases r; rfl
  | .str _, _, _, _, r => by cases r; rfl
  | .tuple xs, _, _, f, r => by
    cases r with
    | tuple _ _ _ ra => exact reads_frees (by simpa [noLst] using f) ra
  | .list _, _, _, f, _ => by simp [noLst] at f
  | .dict _, _, _, f, _ => by simp [noLst] at f
theorem reads_frees {h : Heap} : ∀ {ds : List PyData} {us : List Value} {as : List Addr}, noLsts ds = true → ReadsAll h us ds as → as = []
  | [], _, _, _, r => by cases r; rfl
  | d :: ds, _, _, f, r => by
    rw [noLsts, Bool.and_eq_true] at f
    cases r with
    | cons r1 r2 => rw [reads_free f.1 r1, reads_frees f.2 r2]; rfl
end
def keyD : Val → Option PyData
  | .int i => some (.int i)
  | .str s => some (.str s)
  | _ => none
def toDkv : List (Val × Val) → Option (List (PyData × PyData))
  | [] => some []
  | (k, v) :: kvs => match keyD k, toD v, toDkv kvs with
    | some a, some b, some r => some ((a, b) :: r)
    | _, _, _ => none
def PreprD : List Val → Option (Bool × Val)
  | [.dct false kvs] => match toDkv kvs with
    | some ds => if (ds.all fun p => noLst p.2) = true ∧ PyData.showable (.dict ds) = true ∧ (PyData.dict ds).depth ≤ 60 ∧ (PyData.dict ds).shown.length ≤ sizeLine then some (false, .str (PyData.dict ds).shown) else none
    | none => none
  | _ => none
theorem kv_reads {X : Cx} {w : Wd} (c : Cal X w) {pins : List (Addr × Obj)} {s : Shared} {σ : L2.St} {G H : Hp} (I : Inv X pins σ H s) (le : Le G H) : ∀ {kvs : List (Val × Val)} {ds : List (PyData × PyData)} {ks : List (Key × V)} {vs : List (Key × Value)} {es : List DictEntry},
    toDkv kvs = some ds → (ds.all fun p => noLst p.2) = true → RepK w G kvs ks → KV ks vs → PySem.Pairs (mixKind X.prog X.w) es vs → ReadsAll s.heap (es.map (·.key)) (ds.map (·.1)) [] ∧ ReadsAll s.heap (es.map (·.val)) (ds.map (·.2)) []
  | [], ds, ks, vs, es, h, _, r, rel, pr => by
    simp only [toDkv, Option.some.injEq] at h
    subst h
    rw [RepK] at r
    subst r
    cases rel
    cases pr
    exact ⟨.nil, .nil⟩
  | (k, v) :: kvs, ds, ks, vs, es, h, f, r, rel, pr => by
    simp only [toDkv] at h
    split at h
    · rename_i a b rest h1 h2 h3
      cases h
      rw [RepK] at r
      obtain ⟨q, y, ys, rfl, ⟨rfl, _⟩, r1, r2⟩ := r
      rw [List.all_cons, Bool.and_eq_true] at f
      cases rel with
      | @cons _ kvp _ vs' h4 t =>
        cases pr with
        | @cons e _ es' _ hk hv pr' =>
          obtain ⟨i1, i2⟩ := kv_reads c I le h3 f.2 r2 t pr'
          obtain ⟨e4, e5⟩ := h4
          have hk' : L2.keyIs kvp.1 e.key = true := hk
          have rk : Reads s.heap e.key a [] := by
            have e4' : q = kvp.1 := e4
            rw [← e4'] at hk'
            rcases keyIs_shape hk' with ⟨i, t, rfl, e6⟩ | ⟨x, t, rfl, e6⟩
            · rw [e6]
              simp only [kv, keyD, Option.some.injEq] at h1
              subst h1
              exact .int i t
            · rw [e6]
              simp only [kv, keyD, Option.some.injEq] at h1
              subst h1
              exact .str x t
          obtain ⟨as, rv⟩ := Dp.reads I b y e.val (dp_of c.K le r1 h2) (by rw [hv]; exact e5)
          have ea := reads_free f.1 rv
          subst ea
          exact ⟨.cons rk i1, .cons rv i2⟩
    · cases h
theorem bi_reprD {X : Cx} {w : Wd} (c : Cal X w) : CallR X (.builtin "repr") (rOf w PreprD) := by
  intro pins s σ H xs us Q I r ⟨G, vs, o, z, le, rr, hp, q⟩
  unfold PreprD at hp
  split at hp
  · obtain ⟨x, e, r1⟩ := rreps_one rr
    subst e
    split at hp
    · rename_i ds hd
      split at hp
      · rename_i hc
        cases hp
        obtain ⟨h1, h2, h3, h4⟩ := hc
        obtain ⟨a, rfl, ⟨_, ks, hks, rk⟩ | ⟨ht, _⟩⟩ := rrep_dct le r1
        · obtain ⟨u, rfl, ru⟩ := vals1 r
          cases (show u = Value.ref a from ru)
          obtain ⟨_, hsys, vs, rel, ob, es, ep, ho, hx, hdat, _, pr, _⟩ := dk_rd I.hok hks
          obtain ⟨i1, i2⟩ := kv_reads c I le hd h1 rk rel pr
          have rd : Reads s.heap (.ref a) (.dict ds) (a :: [] ++ []) := .dict ho hx.1 hdat i1 i2
          refine PySem.repr_of_reads' rd h2 (fun _ hm => ?_) c.gs (by have := c.un; omega) (fun b o e => e) (fun h' u tk hk => ⟨.str _, H, I.kept (t' := tk) hk, ⟨_, rfl⟩, str_new le h4 q⟩) h4
          have e : sysModules = a := by simpa using hm
          subst e
          simp at hsys
        · cases ht
      · cases hp
    · cases hp
  · cases hp
def PreprX := orP PreprD Prepr
theorem bi_reprX {X : Cx} {w : Wd} (c : Cal X w) : CallR X (.builtin "repr") (rOf w PreprX) := cr_or (bi_reprD c) (bi_repr c)

/-! ### == of two texts, of two numbers: no condition -/
def PeqS : List Val → Option (Bool × Val)
  | [.str a, .str b] => some (false, .bl (a == b))
  | [.int a, .int b] => some (false, .bl (a == b))
  | _ => none
def PneS : List Val → Option (Bool × Val)
  | [.str a, .str b] => some (false, .bl (!(a == b)))
  | [.int a, .int b] => some (false, .bl (!(a == b)))
  | _ => none
section
variable {X : Cx} {w : Wd}
theorem opr_eqS : OpR X (compareOp .Eq) (r2Of w PeqS) := by
  intro pins s σ H x y v u Q I rx ry ⟨G, vs, o, z, le, rr, hp, q⟩
  unfold PeqS at hp
  split at hp
  · obtain ⟨_, _, e, r1, r2⟩ := rreps_two rr
    cases e; cases hp
    obtain ⟨rfl, _⟩ := rrep_str r1; obtain ⟨rfl, _⟩ := rrep_str r2
    exact op_eq pins s σ H _ _ v u Q I rx ry ⟨rfl, by rw [dec_str]; exact bl_new le q⟩
  · obtain ⟨_, _, e, r1, r2⟩ := rreps_two rr
    cases e; cases hp
    obtain rfl := rrep_int r1; obtain rfl := rrep_int r2
    exact op_eq pins s σ H _ _ v u Q I rx ry ⟨rfl, by rw [dec_int]; exact bl_new le q⟩
  · cases hp
theorem opr_neS : OpR X (compareOp .NotEq) (r2Of w PneS) := by
  intro pins s σ H x y v u Q I rx ry ⟨G, vs, o, z, le, rr, hp, q⟩
  unfold PneS at hp
  split at hp
  · obtain ⟨_, _, e, r1, r2⟩ := rreps_two rr
    cases e; cases hp
    obtain ⟨rfl, _⟩ := rrep_str r1; obtain ⟨rfl, _⟩ := rrep_str r2
    exact op_ne pins s σ H _ _ v u Q I rx ry ⟨rfl, by rw [dec_str]; exact bl_new le q⟩
  · obtain ⟨_, _, e, r1, r2⟩ := rreps_two rr
    cases e; cases hp
    obtain rfl := rrep_int r1; obtain rfl := rrep_int r2
    exact op_ne pins s σ H _ _ v u Q I rx ry ⟨rfl, by rw [dec_int]; exact bl_new le q⟩
  · cases hp
def PeqX := orP PeqS Peq
def PneX := orP PneS Pne
theorem opr_eqX (c : Cal X w) : OpR X (compareOp .Eq) (r2Of w PeqX) := opr_or opr_eqS (opr_eq c)
theorem opr_neX (c : Cal X w) : OpR X (compareOp .NotEq) (r2Of w PneX) := opr_or opr_neS (opr_ne c)
end
end M
/-! MPL: plain lemmas over values. -/
namespace M
open PySem L2
theorem toDs_ints : ∀ cs : List Int, toDs (cs.map .int) = some (cs.map .int)
  | [] => rfl
  | c :: cs => by rw [List.map_cons, toDs, toDs_ints cs]; rfl
theorem shp_ints (cs : List Int) : shp (.list (cs.map .int)) = true := by
  have h1 : ∀ cs : List Int, PyData.canLayAll0 (cs.map .int) = true := fun cs => by
    induction cs with
    | nil => simp [PyData.canLayAll0]
    | cons c cs ih => simp [PyData.canLayAll0, PyData.canLay0]; simpa using ih
  have h2 : ∀ cs : List Int, PyData.depthAll (cs.map .int) = 0 := fun cs => by
    induction cs with
    | nil => simp [PyData.depthAll]
    | cons c cs ih => simp [PyData.depthAll, PyData.depth]; simpa using ih
  show SeqAt.shaped _ = true
  unfold SeqAt.shaped
  simp only [PyData.canLay0, PyData.depth, h1, h2]
  decide
theorem pne_nil (cs : List Int) : Pne [.lst (cs.map .int), .lst []] = some (false, .bl (decide (cs ≠ []))) := by
  have h1 := shp_ints cs
  have h2 := shp_ints []
  simp only [List.map_nil] at h2
  cases cs with
  | nil => simp [Pne, toD, toDs, h2, PyData.eqv, PyData.eqvAll]
  | cons c cs =>
    simp only [List.map_cons] at h1
    simp [Pne, toD, toDs, toDs_ints, h1, h2, PyData.eqv, PyData.eqvAll]
theorem ix_mod (cs : List Int) (t : Int) (h : cs ≠ []) (ht : 0 ≤ t) : ∃ c, Pix [.lst (cs.map .int), .int (t % (cs.length : Int))] = some (false, .int c) := by
  have hl : 0 < cs.length := List.length_pos_iff.mpr h
  have h1 : 0 ≤ t % (cs.length : Int) := Int.emod_nonneg _ (by omega)
  have h2 : t % (cs.length : Int) < cs.length := Int.emod_lt_of_pos _ (by omega)
  have h3 : (t % (cs.length : Int)).toNat < cs.length := by omega
  exact ⟨cs[(t % (cs.length : Int)).toNat], by simp [Pix, atI, ixN, h1, h2, h3]⟩
theorem mul_ok {i j : Int} (h0 : 0 ≤ j) (h : j < 2 ^ 64 - 1) : mulOk i j = true := mulOk_iff.mpr (.inr ⟨by omega, h⟩)
theorem mul_okL {i j : Int} (h0 : 0 ≤ i) (h : i < 2 ^ 64 - 1) : mulOk i j = true := mulOk_iff.mpr (.inl ⟨by omega, h⟩)
theorem small_ok {n : Nat} {j : Int} (h0 : 0 ≤ j) (h : j ≤ (n : Int)) : smallI n j = true := smallI_iff.mpr ⟨by omega, h⟩
def good (s : Str) : Prop := s.length ≤ 100000 ∧ ∀ c ∈ s.cps.toList, c < 0x110000
def one (c : Nat) : Str := ⟨#[c]⟩
theorem len_list (s : Str) : s.cps.toList.length = s.length := by rw [Array.length_toList]; rfl
/-- a comprehension whose turns leave the slots as they were -/
theorem lcL_map {α : Type} {t : TF} {c : BF} {f : EF} {sl : List Nat} {env : M.Env} (y z : α → Val) (p : α → Bool) : ∀ (xs : List α) (acc : List Val),
    (∀ x ∈ xs, ∃ r1, t (y x) env = some r1 ∧ c r1 = .ok (p x) r1 ∧ wipeR r1 sl = env ∧ (p x = true → ∃ o r3, frz f r1 = .ok o (z x) r3 ∧ wipeR r3 sl = env)) → acc.length + xs.length ≤ 100000 →
    lcL t c f sl (xs.map y) acc env = .ok (acc ++ (xs.filter p).map z) env
  | [], acc, _, _ => by simp [lcL]
  | x :: xs, acc, h, hl => by
    obtain ⟨r1, e1, e2, e3, e4⟩ := h x (by simp)
    have hx := fun x' hx' => h x' (List.mem_cons_of_mem _ hx')
    rw [List.length_cons] at hl
    rw [List.map_cons, lcL]
    cases hp : p x with
    | false =>
      rw [hp] at e2
      simp only [e1, e2, e3]
      rw [lcL_map y z p xs acc hx (by omega), List.filter_cons_of_neg (by simp [hp])]
    | true =>
      rw [hp] at e2
      obtain ⟨o, r3, e5, e6⟩ := e4 hp
      have ha : acc.length < 100000 := by omega
      simp only [e1, e2, e5, e6, if_pos ha]
      rw [lcL_map y z p xs (acc ++ [z x]) hx (by simp; omega), List.filter_cons_of_pos (by simp [hp])]
      simp
theorem asBls_map : ∀ bs : List Bool, asBls (bs.map Val.bl) = some bs
  | [] => rfl
  | b :: bs => by simp [asBls, asBls_map bs]
theorem asBls_comp {α : Type} (f : α → Bool) (xs : List α) : asBls (xs.map (Val.bl ∘ f)) = some (xs.map f) := by
  rw [← List.map_map, asBls_map]
theorem toDs_strs : ∀ ss : List Str, toDs (ss.map Val.str) = some (ss.map PyData.str)
  | [] => rfl
  | s :: ss => by simp [toDs, toD, toDs_strs ss]
theorem shp_strs (ss : List Str) (h : ∀ s ∈ ss, ∀ c ∈ s.cps.toList, c < 0x110000) : shp (.list (ss.map .str)) = true := by
  have h1 : ∀ ss : List Str, (∀ s ∈ ss, ∀ c ∈ s.cps.toList, c < 0x110000) → PyData.canLayAll0 (ss.map .str) = true := fun ss => by
    induction ss with
    | nil => intro _; simp [PyData.canLayAll0]
    | cons s ss ih =>
      intro h
      have hs : PyData.strOk s = true := by
        unfold PyData.strOk
        rw [Array.all_eq_true_iff_forall_mem]
        intro c hc
        exact decide_eq_true (h s (by simp) c (by simpa using hc))
      simp [PyData.canLayAll0, PyData.canLay0, hs, ih fun s' hs' => h s' (by simp [hs'])]
  have h2 : ∀ ss : List Str, PyData.depthAll (ss.map .str) = 0 := fun ss => by
    induction ss with
    | nil => simp [PyData.depthAll]
    | cons s ss ih => simp [PyData.depthAll, PyData.depth, ih]
  show SeqAt.shaped _ = true
  unfold SeqAt.shaped
  simp only [PyData.canLay0, PyData.depth, h1 ss h, h2]
  decide
theorem peq_nil (ss : List Str) (h : ∀ s ∈ ss, ∀ c ∈ s.cps.toList, c < 0x110000) : Peq [.lst (ss.map .str), .lst []] = some (false, .bl (decide (ss = []))) := by
  have h1 := shp_strs ss h
  have h2 := shp_strs [] (by simp)
  simp only [List.map_nil] at h2
  cases ss with
  | nil => simp [Peq, toD, toDs, h2, PyData.eqv, PyData.eqvAll]
  | cons c cs =>
    simp only [List.map_cons] at h1
    simp [Peq, toD, toDs, toDs_strs, h1, h2, PyData.eqv, PyData.eqvAll]
theorem shp_int (i : Int) : shp (.int i) = true := by
  show SeqAt.shaped _ = true
  simp [SeqAt.shaped, PyData.canLay0, PyData.depth]
theorem peq_int (i j : Int) : Peq [.int i, .int j] = some (false, .bl (i == j)) := by simp [Peq, toD, shp_int, PyData.eqv]
theorem signs_one (s : Str) : signs s = s.cps.toList.map fun c => .str (one c) := rfl
theorem toDs_strsC {α : Type} (f : α → Str) (xs : List α) : toDs (xs.map (Val.str ∘ f)) = some (xs.map (PyData.str ∘ f)) := by
  rw [← List.map_map, toDs_strs, List.map_map]
theorem good_of {s : Str} (h : (decide (s.length ≤ 100000) && s.cps.toList.all fun c => decide (c < 0x110000)) = true) : good s := by
  rw [Bool.and_eq_true, List.all_eq_true] at h
  exact ⟨of_decide_eq_true h.1, fun c hc => of_decide_eq_true (h.2 c hc)⟩
theorem good_app {s t : Str} (hs : good s) (ht : good t) (h : s.length + t.length ≤ 100000) : good (s ++ t) := by
  refine ⟨by rw [str_len_app]; exact h, fun c hc => ?_⟩
  have : (s ++ t).cps.toList = s.cps.toList ++ t.cps.toList := by
    show (s.cps ++ t.cps).toList = _
    simp
  rw [this, List.mem_append] at hc
  exact hc.elim (hs.2 c) (ht.2 c)
theorem good_cut {s : Str} (lo hi : Option Int) (hs : good s) : good (cutS s lo hi) := by
  refine ⟨Nat.le_trans (cutS_length s lo hi) hs.1, fun c hc => hs.2 c ?_⟩
  have hc' : c ∈ (s.cps.toList.drop (HT.sIx s.length 0 lo)).take (HT.sIx s.length s.length hi - HT.sIx s.length 0 lo) := hc
  exact List.mem_of_mem_drop (List.mem_of_mem_take hc')
theorem good_one {c : Nat} (h : c < 0x110000) : good (one c) := ⟨by show 1 ≤ 100000; decide, fun d hd => by
  have : d = c := by simpa [one] using hd
  rw [this]; exact h⟩
theorem good_rep {s : Str} (n : Nat) (hs : good s) (h : s.length * n ≤ 100000) : good (repS s n) := by
  refine ⟨by rw [repS_length]; exact h, fun c hc => ?_⟩
  have hc' : c ∈ (List.replicate n s.cps.toList).flatten := by simpa [repS] using hc
  obtain ⟨l, hl, hcl⟩ := List.mem_flatten.mp hc'
  rw [List.eq_of_mem_replicate hl] at hcl
  exact hs.2 c hcl
theorem joinL_nil : ∀ l : List (List Nat), TL.joinL [] l = l.flatten
  | [] => rfl
  | [p] => by simp [TL.joinL]
  | p :: q :: r => by
    have ih := joinL_nil (q :: r)
    rw [TL.joinL, ih]; simp
theorem join_tl (ys : List Str) : (Txt.join "" ys).cps.toList = (ys.map fun y => y.cps.toList).flatten := by
  have e : Txt.join "" ys = Str.join "" ys := PySem.StrLaws.glued_eq_join "" ys
  rw [e]
  have := TL.tl_join "" ys
  rw [← joinL_nil]
  exact this

theorem pix_str (A : Str) (d : Int) (h0 : 0 ≤ d) (h1 : d < A.length) (hA : ∀ c ∈ A.cps.toList, c < 0x110000) : ∃ c, Pix [.str A, .int d] = some (false, .str (one c)) ∧ c < 0x110000 := by
  have hl := len_list A
  have h2 : d.toNat < A.cps.toList.length := by omega
  have h3 : d < (A.cps.toList.length : Int) := by omega
  refine ⟨A.cps.toList[d.toNat], ?_, hA _ (List.getElem_mem h2)⟩
  show Option.map _ (atI A.cps.toList d) = _
  unfold atI ixN
  rw [if_pos h0, if_pos h3]
  simp only [Option.bind_some, List.getElem?_eq_getElem h2, Option.map_some]
  rfl
theorem shown_bl (b : Bool) : ∃ x : Str, Prepr [.bl b] = some (false, .str x) ∧ Pne [.str x, .str x] = some (false, .bl false) := by
  have key : ∀ x : Str, PyData.strOk x = true → Pne [.str x, .str x] = some (false, .bl false) := fun x hx => by
    have : shp (.str x) = true := by
      show SeqAt.shaped _ = true
      simp [SeqAt.shaped, PyData.canLay0, PyData.depth, hx]
    simp [Pne, toD, this, PyData.eqv]
  cases b with
  | true => exact ⟨"True", by simp [Prepr, toD, PyData.showable, PyData.hasDict, PyData.depth, PyData.shown]; decide +kernel, key _ (by decide +kernel)⟩
  | false => exact ⟨"False", by simp [Prepr, toD, PyData.showable, PyData.hasDict, PyData.depth, PyData.shown]; decide +kernel, key _ (by decide +kernel)⟩
theorem asStrs_one (ys : List Nat) : asStrs (ys.map fun c => .str (one c)) = some (ys.map one) := by
  induction ys with
  | nil => rfl
  | cons c ys ih => rw [List.map_cons, asStrs, ih]; rfl
theorem flat_one (ys : List Nat) : ((ys.map one).map fun y => y.cps.toList).flatten = ys := by
  induction ys with
  | nil => rfl
  | cons c ys ih => simp only [List.map_cons, List.flatten_cons, ih]; rfl
theorem pjoin_ok (ys : List Nat) (h : ys.length ≤ 10) (hc : ∀ c ∈ ys, c < 0x110000) : ∃ w : Str, Pjoin [.str "", .lst (ys.map fun c => .str (one c))] = some (false, .str w) ∧ w.length = ys.length ∧ good w := by
  have e := join_tl (ys.map one)
  rw [flat_one] at e
  have l1 : (Txt.join "" (ys.map one)).length = ys.length := by rw [← len_list, e]
  have l2 : ((ys.map one).map (·.length)).sum = ys.length := by
    clear e l1 h hc
    induction ys with
    | nil => rfl
    | cons c ys ih => simp only [List.map_cons, List.sum_cons, ih, List.length_cons]; show 1 + ys.length = _; omega
  have l3 : ("" : Str).length = 0 := by decide
  refine ⟨_, ?_, l1, by rw [l1]; omega, fun c hc' => hc c (by rw [e] at hc'; exact hc')⟩
  unfold Pjoin
  simp only [asStrs_one]
  rw [if_pos]
  refine ⟨by rw [l2, l3]; omega, by rw [l1]; exact Nat.le_trans h (by decide)⟩
theorem padd_str (a b : Str) (h : a.length + b.length ≤ 100000) : Padd [.str a, .str b] = some (false, .str (a ++ b)) := by
  have : a.length + b.length ≤ sizeLine := line_of h
  simp [Padd, this]
end M
/-! MPC: calls of the program's own defs, with keywords too. -/
namespace M
open PySem L2

/-! ### operands behind operands, in another order -/
def osApp (f g : OsF) : OsF := fun r => match f r with
  | .ok hs r1 => match g r1 with
    | .ok ks r2 => .ok (hs ++ ks) r2
    | .ex e r2 => .ex e r2
    | .bad => .bad
  | .ex e r1 => .ex e r1
  | .bad => .bad
/-- the places ix of a list -/
def pick {α : Type} (ix : List Nat) (l : List α) : Option (List α) := match ix with
  | [] => some []
  | i :: ix => match l[i]?, pick ix l with
    | some x, some xs => some (x :: xs)
    | _, _ => none
def osN (n : Nat) (f : OsF) : OsF := fun r => match f r with
  | .ok hs r1 => if hs.length = n then .ok hs r1 else .bad
  | .ex e r1 => .ex e r1
  | .bad => .bad
def osPick (ix : List Nat) (f : OsF) : OsF := fun r => match f r with
  | .ok hs r1 => match pick ix hs with
    | some ks => .ok ks r1
    | none => .bad
  | .ex e r1 => .ex e r1
  | .bad => .bad
section
variable {A : Act} {W : WX} {G H : Hp} {σ : L2.St} {r : Env} {f g : OsF}
theorem hreps_app : ∀ {hs ks : List Hd} {xs ys : List V}, HReps A G H σ r hs xs → HReps A G H σ r ks ys → HReps A G H σ r (hs ++ ks) (xs ++ ys)
  | [], _, _, _, h, q => by have h' : _ = [] := h; subst h'; exact q
  | h :: hs, ks, _, ys, ⟨y, zs, e, a, b⟩, q => by subst e; exact ⟨y, zs ++ ys, rfl, a, hreps_app b q⟩
theorem hreps_get : ∀ {hs : List Hd} {xs : List V} {i : Nat} {h : Hd}, HReps A G H σ r hs xs → hs[i]? = some h → ∃ x, xs[i]? = some x ∧ HRep A G H σ r h x
  | [], _, _, _, _, e => by simp at e
  | h :: hs, _, 0, _, ⟨y, zs, e, a, b⟩, q => by subst e; simp at q; subst q; exact ⟨y, rfl, a⟩
  | h :: hs, _, i + 1, _, ⟨y, zs, e, a, b⟩, q => by subst e; obtain ⟨x, h1, h2⟩ := hreps_get b (i := i) (by simpa using q); exact ⟨x, by simpa using h1, h2⟩
theorem hreps_pick {hs : List Hd} {xs : List V} (q : HReps A G H σ r hs xs) : ∀ {ix : List Nat} {ks : List Hd}, pick ix hs = some ks → ∃ ys, pick ix xs = some ys ∧ HReps A G H σ r ks ys
  | [], ks, e => by simp only [pick, Option.some.injEq] at e; subst e; exact ⟨[], rfl, rfl⟩
  | i :: ix, ks, e => by
    simp only [pick] at e
    split at e
    · rename_i h hs' h1 h2
      cases e
      obtain ⟨x, e1, e2⟩ := hreps_get q h1
      obtain ⟨ys, e3, e4⟩ := hreps_pick q h2
      exact ⟨x :: ys, by simp only [pick, e1, e3], x, ys, rfl, e2, e4⟩
    · cases e
theorem os_app {H : Hp} {Q : List V → Hp → Prop} (h : tOs A W (osApp f g) σ H Q) : tOs A W f σ H fun xs H1 => tOs A W g σ H1 fun ys H2 => Q (xs ++ ys) H2 := by
  obtain ⟨r, G, k, m⟩ := h
  refine ⟨r, G, k, ?_⟩
  unfold osApp at m
  cases hf : f r with
  | bad => rw [hf] at m; exact m.elim
  | ex e r' => rw [hf] at m; exact m
  | ok hs r1 =>
    simp only [hf] at m
    intro xs G1 H1 k1 st1 t1
    refine ⟨r1, G1, k1, ?_⟩
    cases hg : g r1 with
    | bad => simp only [hg] at m
    | ex e r2 => simp only [hg] at m ⊢; exact m.mono st1.ex
    | ok ks r2 =>
      simp only [hg] at m ⊢
      intro ys G2 H2 k2 st2 t2
      exact m (xs ++ ys) G2 H2 k2 (st1.trans st2) (hreps_app (t1.step st2) t2)
theorem hreps_len : ∀ {hs : List Hd} {xs : List V}, HReps A G H σ r hs xs → xs.length = hs.length
  | [], _, h => by have h' : _ = [] := h; subst h'; rfl
  | h :: hs, _, ⟨y, zs, e, a, b⟩ => by subst e; simp [hreps_len b]
theorem os_N {n : Nat} {H : Hp} {Q : List V → Hp → Prop} (h : tOs A W (osN n f) σ H Q) : tOs A W f σ H fun xs H1 => xs.length = n ∧ Q xs H1 := by
  obtain ⟨r, G, k, m⟩ := h
  refine ⟨r, G, k, ?_⟩
  unfold osN at m
  cases hf : f r with
  | bad => rw [hf] at m; exact m.elim
  | ex e r' => rw [hf] at m; exact m
  | ok hs r1 =>
    simp only [hf] at m
    by_cases hn : hs.length = n
    · simp only [if_pos hn] at m
      intro xs G1 H1 k1 st1 t1
      exact ⟨(hreps_len t1).trans hn, m xs G1 H1 k1 st1 t1⟩
    · simp only [if_neg hn] at m
theorem os_pick {ix : List Nat} {H : Hp} {Q : List V → Hp → Prop} (h : tOs A W (osPick ix f) σ H Q) : tOs A W f σ H fun xs H1 => ∃ ys, pick ix xs = some ys ∧ Q ys H1 := by
  obtain ⟨r, G, k, m⟩ := h
  refine ⟨r, G, k, ?_⟩
  unfold osPick at m
  cases hf : f r with
  | bad => rw [hf] at m; exact m.elim
  | ex e r' => rw [hf] at m; exact m
  | ok hs r1 =>
    simp only [hf] at m
    intro xs G1 H1 k1 st1 t1
    cases hp : pick ix hs with
    | none => simp only [hp] at m
    | some ks =>
      simp only [hp] at m
      obtain ⟨ys, e, q⟩ := hreps_pick t1 hp
      exact ⟨ys, e, m ys G1 H1 k1 st1 q⟩
end

/-- how the keywords ks go to the parameters: the values us of the positional ones and ws of the keywords, picked by ix -/
structure BindK (K : PySem.W.Frag) (fd : FuncData) (ps ks : List Str) (ix : List Nat) (n : Nat) : Prop where
  to : ∀ (s : Shared) (us ws zs : List Value), K.In s.heap → us.length = n → pick ix (us ++ ws) = some zs → zs.length = ps.length → ws.length = ks.length → BindsTo s fd ⟨us, ks.zip ws⟩ (ps.zip zs)

theorem vals_pick : ∀ {ix : List Nat} {xs ys : List V} {us : List Value}, Vals xs us → pick ix xs = some ys → ∃ zs, pick ix us = some zs ∧ Vals ys zs
  | [], _, _, _, _, e => by simp only [pick, Option.some.injEq] at e; subst e; exact ⟨[], rfl, .nil⟩
  | i :: ix, xs, ys, us, r, e => by
    simp only [pick] at e
    split at e
    · rename_i x xs' h1 h2
      cases e
      obtain ⟨zs, e1, e2⟩ := vals_pick r h2
      have : ∀ {xs : List V} {us : List Value} {i : Nat} {x : V}, Vals xs us → xs[i]? = some x → ∃ u, us[i]? = some u ∧ RelV x u := by
        intro xs
        induction xs with
        | nil => intro us i x _ h; simp at h
        | cons y ys ih =>
          intro us i x r h
          cases r with
          | cons a b =>
            cases i with
            | zero => simp at h; subst h; exact ⟨_, rfl, a⟩
            | succ i => obtain ⟨u, e, q⟩ := ih b (i := i) (by simpa using h); exact ⟨u, by simpa using e, q⟩
      obtain ⟨u, e3, e4⟩ := this r h1
      exact ⟨u :: zs, by simp only [pick, e3, e1], .cons e4 e2⟩
    · cases e

section
variable {X : Cx} {A : Act} {W : WX} {k n : Nat} {f : Addr} {fd : FuncData} {ps ks : List Str} {g : GF} {x : Str} {p pos kpos : Pos} {e : Expr} {es : List Expr} {kws : List Keyword} {fo fk : OsF} {fe : OF} {nm : Option Str}
theorem pk_osNil : PK X [] (tOs A W osNil) := ⟨fun pos pins s σ H Q I ⟨r, G, kk, m⟩ => pk_nil.run pos pins s σ H Q I (m [] G H kk Step.refl rfl)⟩
theorem pk_osCons (he : PE X e (tO A W fe)) (hr : PK X kws (tOs A W fk)) : PK X (⟨nm, e, kpos⟩ :: kws) (tOs A W (osCons fe fk)) :=
  ⟨fun pos pins s σ H Q I h => (pk_cons he hr).run pos pins s σ H Q I (os_cons h)⟩
/-- f(e, ..) -/
theorem pe_cG (F : FnG X.prog X.w X.K X.mg X.base (L2.CX X.prog X.w) k f fd ps (spF A.w n g)) (hr : RoomG k X.A) (hg : Gl X x) (hm : X.mg x = some (.ref f)) (hk : PySem.W.keepIn X.K (.ref f) = true) (hb : Binds X.K fd ps []) (tk : Takes X W)
    (ha : PA X (e :: es) (tOs A W fo)) (hdb : (x == ("__debug__" : Str)) = false := by decide) (he : starEach (e :: es) X.env = (false, eval e X.env) :: starEach es X.env := by rfl) (hpl : (backTo pos (starEach es X.env)).any (·.1) = false := by rfl) :
    PE X (.Call (.Name x p) (e :: es) [] pos) (tE A W (callG n g fo)) := by
  refine ⟨fun pins s σ H Q I h => ?_⟩
  have h2 := call_of h
  refine wpAny_Call_Name_kw (ld_glob I hg hm ?_ hdb)
  refine PySem.W.callWith_K (h₀ := X.base) I.ok.mod.kin hk (wpAny_mono (ha.run pos pins s σ H _ I h2) (fun us s1 ⟨vs, H1, I1, r, q⟩ => ⟨I1.kIn, ?_⟩) fun _ _ z => z) he hpl
  have hl : us.length = ps.length := by rw [← r.length]; exact F.len _ _ _ _ q
  have b0 := hb s1 us I1.kIn (by simpa using hl)
  simp only [List.append_nil] at b0
  exact run_G F hr (fun e s' z => tk e s' (XE.of_call I1 (fun _ _ _ y => y) z)) I1 (args := ⟨us, []⟩) b0 r q
/-- f() -/
theorem pe_cG0 (F : FnG X.prog X.w X.K X.mg X.base (L2.CX X.prog X.w) k f fd ps (spF A.w n g)) (hr : RoomG k X.A) (hg : Gl X x) (hm : X.mg x = some (.ref f)) (hk : PySem.W.keepIn X.K (.ref f) = true) (hb : Binds X.K fd ps []) (tk : Takes X W)
    (hdb : (x == ("__debug__" : Str)) = false := by decide) : PE X (.Call (.Name x p) [] [] pos) (tE A W (callG n g osNil)) := by
  refine ⟨fun pins s σ H Q I h => ?_⟩
  obtain ⟨r, G, kk, m⟩ := call_of h
  have q := m [] G H kk Step.refl rfl
  refine wpAny_Call_Name_kw (ld_glob I hg hm ?_ hdb)
  have b0 := hb s [] I.kIn (by have := F.len _ _ _ _ q; simpa using this)
  exact PySem.W.callWith_K0 I.kIn hk (run_G F hr (fun e s' z => tk e s' (XE.of_call I (fun _ _ _ y => y) z)) I (args := ⟨[], []⟩) b0 .nil q)
/-- the values of positional arguments and of keywords, bound -/
theorem run_GK {pins : List (Addr × Obj)} {σ : L2.St} {H : Hp} {s : Shared} {Q : VK} {us ws : List Value} {vs zs ys : List V} {ix : List Nat} {m : Nat} (F : FnG X.prog X.w X.K X.mg X.base (L2.CX X.prog X.w) k f fd ps (spF A.w n g)) (hr : RoomG k X.A)
    (hb : BindK X.K fd ps ks ix m) (tk : Takes X W) (I : Inv X pins σ H s) (r : Vals vs us) (rz : Vals zs ws) (hm : us.length = m) (hw : ws.length = ks.length) (hp : pick ix (vs ++ zs) = some ys) (h : spF A.w n g ys H Q fun cls d H2 => W cls d σ H2) :
    wpAny (model X.prog X.w) X.A (call (.ref f) us (ks.zip ws)) (EP X pins σ Q) X.xe s := by
  obtain ⟨us', e, rv⟩ := vals_pick (r.append rz) hp
  have hl : us'.length = ps.length := by rw [← rv.length]; exact F.len _ _ _ _ h
  exact run_G F hr (fun e s' z => tk e s' (XE.of_call I (fun _ _ _ y => y) z)) I (args := ⟨us, ks.zip ws⟩) (hb.to s us ws us' I.kIn hm e hl hw) rv h
/-- f(e, .., k = v, ..) -/
theorem pe_cGK {ix : List Nat} (F : FnG X.prog X.w X.K X.mg X.base (L2.CX X.prog X.w) k f fd ps (spF A.w n g)) (hr : RoomG k X.A) (hg : Gl X x) (hm : X.mg x = some (.ref f)) (hk : PySem.W.keepIn X.K (.ref f) = true)
    (hb : BindK X.K fd ps ks ix (es.length + 1)) (tk : Takes X W)
    (ha : PA X (e :: es) (tOs A W fo)) (hkw : PK X kws (tOs A W fk)) (hall : (backToKw pos (keywordEach kws X.env)).all (·.1.isSome) = true := by rfl) (hks : (backToKw pos (keywordEach kws X.env)).filterMap (·.1) = ks := by rfl)
    (hdb : (x == ("__debug__" : Str)) = false := by decide) (he : starEach (e :: es) X.env = (false, eval e X.env) :: starEach es X.env := by rfl)
    (hpl : ((backTo pos (starEach (e :: es) X.env)).any (·.1) || (backToKw pos (keywordEach kws X.env)).any (·.1.isNone)) = false := by rfl) :
    PE X (.Call (.Name x p) (e :: es) kws pos) (tE A W (callG n g (osPick ix (osApp (osN (es.length + 1) fo) (osN ks.length fk))))) := by
  refine ⟨fun pins s σ H Q I h => ?_⟩
  have h2 := os_N (os_app (os_pick (call_of h)))
  refine wpAny_Call_Name_kw (ld_glob I hg hm ?_ hdb)
  refine PySem.W.callWith_KW (h₀ := X.base) I.ok.mod.kin hk hall (wpAny_mono (ha.run pos pins s σ H _ I h2) (fun us s1 ⟨vs, H1, I1, r, l1, q⟩ => ?_) fun _ _ z => z) hpl he
  refine wpAny_mono (hkw.run pos pins s1 σ H1 _ I1 (os_N q)) (fun ws s2 ⟨zs, H2, I2, rz, l2, ys, hp, q2⟩ => ⟨I2.kIn, ?_⟩) fun _ _ z => z
  rw [hks]
  exact run_GK (us := us) F hr hb tk I2 r rz (by rw [← r.length]; exact l1) (by rw [← rz.length]; exact l2) hp q2
/-- f(k = v, ..) -/
theorem pe_cGK0 {ix : List Nat} (F : FnG X.prog X.w X.K X.mg X.base (L2.CX X.prog X.w) k f fd ps (spF A.w n g)) (hr : RoomG k X.A) (hg : Gl X x) (hm : X.mg x = some (.ref f)) (hk : PySem.W.keepIn X.K (.ref f) = true)
    (hb : BindK X.K fd ps ks ix 0) (tk : Takes X W)
    (hkw : PK X kws (tOs A W fk)) (hall : (backToKw pos (keywordEach kws X.env)).all (·.1.isSome) = true := by rfl) (hks : (backToKw pos (keywordEach kws X.env)).filterMap (·.1) = ks := by rfl)
    (hdb : (x == ("__debug__" : Str)) = false := by decide)
    (hpl : ((backTo pos (starEach [] X.env)).any (·.1) || (backToKw pos (keywordEach kws X.env)).any (·.1.isNone)) = false := by rfl) (hne : eval (.Call (.Name x p) [] kws pos) X.env = (do
      let f ← eval (.Name x p) X.env
      callWith pos f [] (backTo pos (starEach [] X.env)) (backToKw pos (keywordEach kws X.env))) := by rfl) :
    PE X (.Call (.Name x p) [] kws pos) (tE A W (callG n g (osPick ix (osN ks.length fk)))) := by
  refine ⟨fun pins s σ H Q I h => ?_⟩
  have h2 := os_N (os_pick (call_of h))
  rw [hne]
  refine wpAny_bind (ld_glob I hg hm ?_ hdb)
  refine PySem.W.callWith_KW0 (h₀ := X.base) I.ok.mod.kin hk hall (wpAny_mono (hkw.run pos pins s σ H _ I h2) (fun ws s2 ⟨zs, H2, I2, rz, l2, ys, hp, q2⟩ => ⟨I2.kIn, ?_⟩) fun _ _ z => z) hpl
  rw [hks]
  exact run_GK F hr hb tk I2 .nil rz rfl (by rw [← rz.length]; exact l2) hp q2
end
end M
/-! MPH: a law's end: what stands behind the top, the call of the law with its script. -/
namespace M
open PySem L2 PyProof.Rows

/-- the heap that tracks the script at a, where the written part doesn't hold it -/
def onlyAt (K : PySem.W.Frag) (a : Addr) (o : Obj) (xs : List V) : Hp := fun b => if b = a ∧ K.lookup a = none then some (.frz o (.lst xs)) else none
theorem onlyAt_some {K : PySem.W.Frag} {a b : Addr} {o : Obj} {xs : List V} {u : HO} (h : onlyAt K a o xs b = some u) : b = a ∧ K.lookup a = none ∧ u = .frz o (.lst xs) := by
  unfold onlyAt at h
  split at h
  · rename_i c; cases h; exact ⟨c.1, c.2, rfl⟩
  · cases h
theorem onlyAt_none {K : PySem.W.Frag} {a b : Addr} {o : Obj} {xs : List V} (h : b ≠ a ∨ K.lookup a ≠ none) : onlyAt K a o xs b = none := by
  unfold onlyAt
  rw [if_neg]
  rintro ⟨h1, h2⟩
  exact h.elim (fun z => z h1) fun z => z h2

section
variable {P : Program} {w : World} {K : PySem.W.Frag} {mg mb : Str → Option Value} {CM : Str → Option Addr} {k : Nat} {fa a : Addr} {fd : FuncData} {x : Str} {g : GF} {st : Shared} {us : List Value} {ns : List Int}
theorem law_run (kin : K.In st.heap) (gl : st.heap.Ns mainGlobals mg) (bl : st.heap.Ns builtinsNs mb) (bb : ∀ y : Str, y ≠ "__name__" → mb y = bootBuiltins y) (nl : st.heap.NoLimit) (hg : st.gens = #[])
    (ha : st.heap.get? a = some { cls := .type "list", data := .seq us.toArray }) (hi : IntsAre us ns) (sz : ns.length ≤ sizeLine) (hr : RoomG k callerA)
    (F : ∀ base : Heap, K.In base → base.Ns mainGlobals mg → FnG P w K mg base (L2.CX P w) k fa fd [x] (spF ⟨K, CM⟩ 1 g)) (hbind : ∀ (s : Shared) (u : Value), BindsTo s fd ⟨[u], []⟩ [(x, u)])
    (hv : g [(false, .scr ns)] = .ok false (.bl true) none) :
    codeAny (model P w) callerA (.call (.ref fa) ⟨[.ref a], []⟩) (fun r s' => r = .ok (.ret (.bool true)) ∧ OldK st.heap s'.heap ∧ s'.os = st.os ∧ AllBare s'.gens) st := by
  have ln := hi.length
  have rv := vals_ints hi
  obtain ⟨ob, hob⟩ : ∃ ob : Obj, ob = { cls := .type "list", data := .seq us.toArray } := ⟨_, rfl⟩
  obtain ⟨H, hH⟩ : ∃ H : Hp, H = onlyAt K a ob (ns.map V.int) := ⟨_, rfl⟩
  have tracked : ∀ {b : Addr} {u : HO}, H b = some u → b = a ∧ K.lookup a = none ∧ u = .frz ob (.lst (ns.map V.int)) := fun {b u} e => by rw [hH] at e; exact onlyAt_some e
  have untracked : ∀ {b : Addr}, (b ≠ a ∨ K.lookup a ≠ none) → H b = none := fun {b} e => by rw [hH]; exact onlyAt_none e
  have hok : HOk P w H st.heap := fun b u e => by
    obtain ⟨rfl, _, rfl⟩ := tracked e
    rw [hob]
    exact ⟨ha, by rw [List.length_map]; exact sz, us, _, rv, ha⟩
  have sq : SqL K H a (ns.map V.int) := by
    cases hk : K.lookup a with
    | none => exact .inl (.inr ⟨ob, by rw [hH]; unfold onlyAt; rw [if_pos ⟨rfl, hk⟩]⟩)
    | some o =>
      have e := kin a o hk
      rw [ha] at e
      cases e
      exact .inr ⟨_, us.toArray, _, hk, rfl, rfl, rfl, by rw [List.size_toArray, ln]; exact sz, by simpa using rv⟩
  -- what isn't tracked stands in the base
  have nodict : ∀ {b : Addr} {o : Obj} {es : Array DictEntry} {ep : Nat}, st.heap.get? b = some o → o.data = .dict es ep → H b = none := fun {b o es ep} e d => by
    cases q : H b with
    | none => rfl
    | some u =>
      obtain ⟨rfl, _, _⟩ := tracked q
      rw [ha] at e; cases e
      have d' : Data.seq us.toArray _ = Data.dict es ep := d
      cases d'
  have ns' : ∀ {b : Addr} {m : Str → Option Value}, st.heap.Ns b m → (hidT st.heap H).Ns b m := fun {b m} ⟨o, es, ep, e, d, r⟩ => ⟨o, es, ep, hidT_get e (nodict e d), d, r⟩
  have kb : K.In (hidT st.heap H) := fun b o e => hidT_get (kin b o e) (by
    cases q : H b with
    | none => rfl
    | some u =>
      obtain ⟨rfl, z, _⟩ := tracked q
      rw [z] at e; cases e)
  have md : Mod K mg (hidT st.heap H) := ⟨kb, ns' gl, ⟨mb, ns' bl, bb⟩, let ⟨mc, h1, h2⟩ := nl; ⟨mc, ns' h1, h2⟩⟩
  have nof : ∀ {b : Addr}, b ∉ frs [] := fun {b} z => absurd (show b ∈ ([] : List Addr) from z) (by simp)
  have e0 : Env0 P w K mg (hidT st.heap H) callerA [] st H := ⟨rfl, md, fun b o e => of_hidT e, Nat.le_of_eq (hidT_size _ _), trivial, fun b hb => absurd hb nof, hok, .of_eq hg⟩
  have pre : spF ⟨K, CM⟩ 1 g [.ref a] H (fun v _ => v = .bl true) (fun _ _ _ => False) := by
    refine ⟨H, [(false, .scr ns)], rfl, Le.refl _, ⟨_, [], rfl, ?_, rfl⟩, by simp [lents], ?_⟩
    · rw [Rep]; exact ⟨a, rfl, sq⟩
    · rw [hv]; exact fun u G' H' _ nr => rep_bl.mp (show Rep ⟨K, CM⟩ G' (.bl true) u from nr)
  refine codeAny_mono ((F _ kb (ns' gl)).go callerA [] st H ⟨[.ref a], []⟩ [.ref a] [.ref a] _ _ hr e0 (hbind st (.ref a)) (.cons rfl .nil) pre) fun r s' h => ?_
  match r, h with
  | .error e, h =>
    obtain ⟨_, _, _, _, _, _, _, _, _, _, _, _, z⟩ := h
    exact z.elim
  | .ok .next, h => exact False.elim h
  | .ok .brk, h => exact False.elim h
  | .ok .cont, h => exact False.elim h
  | .ok (.ret u), h =>
    obtain ⟨v, H', os, bare, un, hok', r', q⟩ := h
    obtain rfl : v = .bl true := q
    obtain rfl : u = Value.bool true := r'
    refine ⟨rfl, OldK.of_keep fun b o e => ?_, os, bare⟩
    cases q : H b with
    | none => exact un.keep b o e q nof (by simp)
    | some t =>
      obtain ⟨rfl, _, rfl⟩ := tracked q
      have z := (hok b _ q).1
      rw [e] at z; cases z
      exact (hok' b _ (un.frzs b ob _ q)).1
end

/-- the goal that a head leaves, from the law's promise -/
theorem walk_end {l : PySem.W.OpenLaw} {n k : Nat} {q : Program} {loose : List Str} {XP : (Str → Option Value) → Heap → Prop} {YP : World → Heap → Prop} {d : DefRec} {x : Str}
    (hn : l.most = some n) (hn2 : n ≤ sizeLine) (hdf : d.params.defaults = []) (hr : RoomG k callerA)
    (F : ∀ (w : World) (mg : Str → Option Value) (fa : Addr) (h : Heap), YP w h → h.Ns mainGlobals mg → mg d.name = some (.ref fa) →
      ∃ (K : PySem.W.Frag) (CM : Str → Option Addr) (fd : FuncData) (g : GF), K.In h ∧ (∀ (s : Shared) (u : Value), BindsTo s fd ⟨[u], []⟩ [(x, u)]) ∧ (∀ ns : List Int, ns.length ≤ n → g [(false, .scr ns)] = .ok false (.bl true) none) ∧
        ∀ base : Heap, K.In base → base.Ns mainGlobals mg → FnG l.prog w K mg base (L2.CX l.prog w) k fa fd [x] (spF ⟨K, CM⟩ 1 g)) :
    PySem.W.WalkO q loose XP YP l.row.toRowW d [] (fun f vs => PySem.call f vs) := by
  refine Att.attach_call hn hdf fun w s₀ st mg mb fa o pm cd doc a us ns G Y ho hd hcd hmg hobj hints hlen hg => ?_
  obtain ⟨K, CM, fd, g, kin, hb, hv, hF⟩ := F w mg fa _ Y G.T.g hmg
  exact law_run kin G.T.g G.T.b G.T.builtins G.T.nolimit hg hobj hints (Nat.le_trans hlen hn2) hr hF hb (hv ns hlen)
theorem roomG_top : RoomG 12 callerA := ⟨⟨rfl, by decide, by decide⟩, rfl⟩
end M
/-! MPX: comprehensions in short, defs as they stand behind the top. -/
namespace M
open PySem L2

section
variable {X : Cx} {A : Act} {W : WX} {elt tg iter : Expr} {ifs : List Expr} {scope : Scope} {own : List (Str × Nat)} {pos spos : Pos} {fi : IF} {t : TF} {c : BF} {f : EF} {st' sl : List Nat}
abbrev W0 : WX := fun _ _ _ _ => False
theorem PTs.imp {ifs : List Expr} {t t' : TT} (h : PTs X ifs t) (hi : ∀ σ H Q, t' σ H Q → t σ H Q) : PTs X ifs t' := ⟨fun pins s σ H Q I q => h.run pins s σ H Q I (hi _ _ _ q)⟩
theorem pts_no : PTs X [] (tBo A W yesB) := PTs.imp pts_nil fun σ H Q ⟨r, G, k, m⟩ => m G H k Step.refl
theorem pts_1 {x : Expr} (h : PT X x (tBo A W c)) : PTs X [x] (tBo A W c) := pts_one h
theorem pe_lcM (hc : X.calm = true) (hN : X.N.Nodup) (hi : PI X tg iter (tIt A W fi)) (ok : BlkOk X.N X.env.scope scope own)
    (hg : ∀ (s : Shared) (H : Hp) (C : Addr) (cl : List (Str × Addr)) (fp : List Addr), PG (X.blk s H scope (compEnvC scope cl C X.env) fp) tg (tTg A st' t))
    (ht : ∀ (s : Shared) (H : Hp) (C : Addr) (cl : List (Str × Addr)) (fp : List Addr), PTs (X.blk s H scope (compEnvC scope cl C X.env) fp) ifs (tBo A W0 c))
    (he : ∀ (s : Shared) (H : Hp) (C : Addr) (cl : List (Str × Addr)) (fp : List Addr), PE (X.blk s H scope (compEnvC scope cl C X.env) fp) elt (tE A W0 f))
    (tok : TOk st' t) (hs' : ∀ j ∈ st', j ∈ sl) (hio : ∀ i ∈ A.io, i ∉ sl) (hsl : own.map (·.2) = sl := by rfl) (hs : ∀ x, foldedSetIterable iter X.env x = pure x := by intro _; rfl) :
    PE X (.ListComp elt [⟨tg, iter, ifs, 0⟩] scope pos) (tE A W (lc fi t c f sl)) := by
  subst hsl
  exact PE.imp (pe_lc hc hN hi ok hg ht (fun s H C cl fp => pe_frz (he s H C cl fp)) hs) fun _ _ _ q => lc_of tok hs' hio q
/-- name = [..] on one line -/
theorem ps_asgLc {i : Nat} {y : Str} {py : Pos} (hc : X.calm = true) (hN : X.N.Nodup) (hy : X.N[i]? = some y) (hyl : X.env.scope.names.lookup y = some .local) (hyi : i ∉ A.io)
    (hsw : swapsWith (.ListComp elt [⟨tg, iter, ifs, 0⟩] scope pos) (some (.Name y py)) spos.line X.env = pure true) (hi : PI X tg iter (tIt A W fi)) (ok : BlkOk X.N X.env.scope scope own)
    (hg : ∀ (s : Shared) (H : Hp) (C : Addr) (cl : List (Str × Addr)) (fp : List Addr), PG (X.blk s H scope (compEnvC scope cl C X.env) fp) tg (tTg A st' t))
    (ht : ∀ (s : Shared) (H : Hp) (C : Addr) (cl : List (Str × Addr)) (fp : List Addr), PTs (X.blk s H scope (compEnvC scope cl C X.env) fp) ifs (tBo A W0 c))
    (he : ∀ (s : Shared) (H : Hp) (C : Addr) (cl : List (Str × Addr)) (fp : List Addr), PE (X.blk s H scope (compEnvC scope cl C X.env) fp) elt (tE A W0 f))
    (tok : TOk st' t) (hs' : ∀ j ∈ st', j ∈ sl) (hio : ∀ i ∈ A.io, i ∉ sl) (hsl : own.map (·.2) = sl := by rfl) (hs : ∀ x, foldedSetIterable iter X.env x = pure x := by intro _; rfl) :
    PS X (.Assign [.Name y py] (.ListComp elt [⟨tg, iter, ifs, 0⟩] scope pos) spos) (tSt A W (asg i (lc fi t c f sl))) := by
  subst hsl
  exact PS.imp (ps_setLc hc hN hy hyl hsw hi ok hg ht (fun s H C cl fp => pe_frz (he s H C cl fp)) hs) fun D σ H h => by
    obtain ⟨r, G, k, m⟩ := tSt_iff.mp h
    refine lc_of tok hs' hio ⟨r, G, k, ?_⟩
    unfold asg at m
    cases hf : lc fi t c f (own.map (·.2)) r with
    | bad => rw [hf] at m; exact m.elim
    | ex e r' => simp only [hf] at m ⊢; exact m σ
    | ok o v r' => simp only [hf] at m ⊢; exact fun x G' H' R => m _ G' H' (R.ok.store R.tr hyi) R.st.ex
end

/-! ### defs -/
section
variable {P : Program} {w : World} {K : PySem.W.Frag} {mg : Str → Option Value} {base : Heap}
abbrev FunP (K : PySem.W.Frag) (x : Str) (st : Stmt) (f : Addr) (fd : FuncData) : Prop := FunD K x x (defArgs st) (defBody st) (defScope st) [] [] f fd
/-- the def of the module named x keeps its promise g -/
structure DefP (P : Program) (w : World) (K : PySem.W.Frag) (mg : Str → Option Value) (base : Heap) (wd : Wd) (lvl : Nat) (x : Str) (st : Stmt) (ps : List Str) (g : GF) : Prop where
  ex : ∃ f fd, mg x = some (.ref f) ∧ FunP K x st f fd ∧ Binds K fd ps [] ∧ FnG P w K mg base (L2.CX P w) lvl f fd ps (spF wd ps.length g)
theorem def_mk {x : Str} {st : Stmt} {f : Addr} {fd : FuncData} {N ps : List Str} {k : Nat} {wd : Wd} {ios : List Nat} {body : SF} (hm : mg x = some (.ref f)) (F : FunP K x st f fd) (S : FnScope N ps (defScope st))
    (hb : ∀ (cdv : Value) (A : Around) (outer : List PySem.Env) (s : Shared) (H : Hp) (E : XK), RoomG k (A.deeper (PyProof.Rows.envOfC x (defScope st) s.heap.objs.size f cdv)) →
      SV (cxOf (L2.CX P w) P w K mg base N x (defScope st) f cdv A outer s H E) wd ios (defBody st) body)
    (hbind : ∀ (kV doc pm : Value) (an : Option Addr) (cdv ct : Value) (us : List Value), us.length = ps.length → bindArgs (PySem.W.fnOf x x (defArgs st) (defBody st) (defScope st) .none kV doc pm an cdv ct) ⟨us, []⟩ = pure (ps.zip us)) :
    DefP P w K mg base wd (k + 1) x st ps (runDef ios ps.length N.length body) := by
  refine ⟨f, fd, hm, F, FunD.bindsN F hbind, ?_⟩
  obtain ⟨oc, od, dV, kV, doc, pm, an, cdv, ct, osl, e, lk, hcd, hD, _⟩ := F.ex
  have F' : Fun K x x st f fd := by
    refine ⟨⟨oc, od, kV, doc, pm, an, cdv, ct, osl, ?_, lk, hcd⟩, F.kp⟩
    rcases hD with ⟨_, rfl⟩ | ⟨z, _⟩
    · exact e
    · exact absurd rfl z
  exact def_ok F' S hb fun as => .inr rfl
theorem DefP.eqg {wd : Wd} {lvl : Nat} {x : Str} {st : Stmt} {ps : List Str} {g g' : GF} (d : DefP P w K mg base wd lvl x st ps g) (h : ∀ as, g' as = .bad ∨ g' as = g as) : DefP P w K mg base wd lvl x st ps g' := by
  obtain ⟨f, fd, h1, h2, h3, F⟩ := d.ex
  refine ⟨f, fd, h1, h2, h3, F.weak fun vs H Q E ⟨G, as, a1, a2, a3, a4, m⟩ => ⟨G, as, a1, a2, a3, a4, ?_⟩⟩
  rcases h as with e | e
  · rw [e] at m; exact m.elim
  · rw [e] at m; exact m
end
section
variable {X : Cx} {A : Act} {W : WX} {lvl : Nat} {x : Str} {st : Stmt} {ps ks : List Str} {g : GF} {p pos : Pos} {e : Expr} {es : List Expr} {kws : List Keyword} {fo fk : OsF}
theorem pe_cD {n : Nat} (d : DefP X.prog X.w X.K X.mg X.base A.w lvl x st ps g) (hr : RoomG lvl X.A) (hg : Gl X x) (tk : Takes X W) (ha : PA X (e :: es) (tOs A W fo)) (hn : ps.length = n := by rfl) (hdb : (x == ("__debug__" : Str)) = false := by decide)
    (he : starEach (e :: es) X.env = (false, eval e X.env) :: starEach es X.env := by rfl) (hpl : (backTo pos (starEach es X.env)).any (·.1) = false := by rfl) : PE X (.Call (.Name x p) (e :: es) [] pos) (tE A W (callG n g fo)) := by
  subst hn
  obtain ⟨f, fd, hm, F, hb, G⟩ := d.ex
  exact pe_cG G hr hg hm F.kp hb tk ha hdb he hpl
theorem pe_cD0 {n : Nat} (d : DefP X.prog X.w X.K X.mg X.base A.w lvl x st ps g) (hr : RoomG lvl X.A) (hg : Gl X x) (tk : Takes X W) (hn : ps.length = n := by rfl) (hdb : (x == ("__debug__" : Str)) = false := by decide) : PE X (.Call (.Name x p) [] [] pos) (tE A W (callG n g osNil)) := by
  subst hn
  obtain ⟨f, fd, hm, F, hb, G⟩ := d.ex
  exact pe_cG0 G hr hg hm F.kp hb tk hdb
/-- how a call with keywords binds: seen of the text -/
def KwB (x : Str) (st : Stmt) (ps ks : List Str) (ix : List Nat) (n : Nat) : Prop := ∀ (kV doc pm : Value) (an : Option Addr) (cdv ct : Value) (us ws zs : List Value), us.length = n → ws.length = ks.length → pick ix (us ++ ws) = some zs → zs.length = ps.length →
  bindArgs (PySem.W.fnOf x x (defArgs st) (defBody st) (defScope st) .none kV doc pm an cdv ct) ⟨us, ks.zip ws⟩ = pure (ps.zip zs)
theorem bindK_of {K : PySem.W.Frag} {f : Addr} {fd : FuncData} {ix : List Nat} {n : Nat} (F : FunP K x st f fd) (h : KwB x st ps ks ix n) : BindK K fd ps ks ix n := by
  obtain ⟨oc, od, dV, kV, doc, pm, an, cdv, ct, osl, rfl, lk, hcd, hD, _⟩ := F.ex
  rcases hD with ⟨_, rfl⟩ | ⟨z, _⟩
  · exact ⟨fun s us ws zs _ h1 h2 h3 h4 => .of_eq (h kV doc pm an cdv ct us ws zs h1 h4 h2 h3)⟩
  · exact absurd rfl z
theorem pe_cDK {n n1 n2 : Nat} {ix : List Nat} (d : DefP X.prog X.w X.K X.mg X.base A.w lvl x st ps g) (hr : RoomG lvl X.A) (hg : Gl X x) (tk : Takes X W) (hb : KwB x st ps ks ix (es.length + 1)) (ha : PA X (e :: es) (tOs A W fo)) (hkw : PK X kws (tOs A W fk)) (hn : ps.length = n := by rfl) (hn1 : es.length + 1 = n1 := by rfl) (hn2 : ks.length = n2 := by rfl)
    (hall : (backToKw pos (keywordEach kws X.env)).all (·.1.isSome) = true := by rfl) (hks : (backToKw pos (keywordEach kws X.env)).filterMap (·.1) = ks := by rfl)
    (hdb : (x == ("__debug__" : Str)) = false := by decide) (he : starEach (e :: es) X.env = (false, eval e X.env) :: starEach es X.env := by rfl)
    (hpl : ((backTo pos (starEach (e :: es) X.env)).any (·.1) || (backToKw pos (keywordEach kws X.env)).any (·.1.isNone)) = false := by rfl) :
    PE X (.Call (.Name x p) (e :: es) kws pos) (tE A W (callG n g (osPick ix (osApp (osN n1 fo) (osN n2 fk))))) := by
  subst hn hn1 hn2
  obtain ⟨f, fd, hm, F, _, G⟩ := d.ex
  exact pe_cGK G hr hg hm F.kp (bindK_of F hb) tk ha hkw hall hks hdb he hpl
theorem pe_cDK0 {n n2 : Nat} {ix : List Nat} (d : DefP X.prog X.w X.K X.mg X.base A.w lvl x st ps g) (hr : RoomG lvl X.A) (hg : Gl X x) (tk : Takes X W) (hb : KwB x st ps ks ix 0) (hkw : PK X kws (tOs A W fk)) (hn : ps.length = n := by rfl) (hn2 : ks.length = n2 := by rfl)
    (hall : (backToKw pos (keywordEach kws X.env)).all (·.1.isSome) = true := by rfl) (hks : (backToKw pos (keywordEach kws X.env)).filterMap (·.1) = ks := by rfl)
    (hdb : (x == ("__debug__" : Str)) = false := by decide)
    (hpl : ((backTo pos (starEach [] X.env)).any (·.1) || (backToKw pos (keywordEach kws X.env)).any (·.1.isNone)) = false := by rfl) (hne : eval (.Call (.Name x p) [] kws pos) X.env = (do
      let f ← eval (.Name x p) X.env
      callWith pos f [] (backTo pos (starEach [] X.env)) (backToKw pos (keywordEach kws X.env))) := by rfl) :
    PE X (.Call (.Name x p) [] kws pos) (tE A W (callG n g (osPick ix (osN n2 fk)))) := by
  subst hn hn2
  obtain ⟨f, fd, hm, F, _, G⟩ := d.ex
  exact pe_cGK0 G hr hg hm F.kp (bindK_of F hb) tk hkw hall hks hdb hpl hne
end
/-- constants of the text and of the module -/
theorem pe_ci {X : Cx} {A : Act} {W : WX} {i : Int} {j : Nat} {pos : Pos} : PE X (.Constant (.int i) j pos) (tE A W (cst (.int i))) := pe_cst pe_int fun _ => rep_int.mpr rfl
theorem pe_cs {X : Cx} {A : Act} {W : WX} {x : Str} {j : Nat} {pos : Pos} (hx : x.length ≤ sizeLine := by decide +kernel) : PE X (.Constant (.str x) j pos) (tE A W (cst (.str x))) := pe_cst pe_str fun _ => rep_str.mpr ⟨rfl, hx⟩
theorem pe_gs {X : Cx} {A : Act} {W : WX} {x z : Str} {pos : Pos} (hg : Gl X x) (hm : ∃ t, X.mg x = some (.str z t)) (hz : z.length ≤ sizeLine := by decide +kernel) (hd : (x == ("__debug__" : Str)) = false := by decide) : PE X (.Name x pos) (tE A W (cst (.str z))) := by
  obtain ⟨t, h⟩ := hm
  exact pe_cst (pe_glob (v := .str z) hg h ⟨t, rfl⟩ hd) fun _ => rep_str.mpr ⟨rfl, hz⟩
theorem pe_gi {X : Cx} {A : Act} {W : WX} {x : Str} {z : Int} {pos : Pos} (hg : Gl X x) (hm : ∃ t, X.mg x = some (.int z t)) (hd : (x == ("__debug__" : Str)) = false := by decide) : PE X (.Name x pos) (tE A W (cst (.int z))) := by
  obtain ⟨t, h⟩ := hm
  exact pe_cst (pe_glob (v := .int z) hg h ⟨t, rfl⟩ hd) fun _ => rep_int.mpr rfl
theorem pe_tyN {X : Cx} {A : Act} {W : WX} {x : Str} {T : String} {pos : Pos} (hg : Gl X x) (hm : X.mg x = none) (hv : bootBuiltins x = some (.type T)) (hn : x ≠ "__name__" := by decide) (hd : (x == ("__debug__" : Str)) = false := by decide) : PE X (.Name x pos) (tE A W (cst (.ty T))) :=
  pe_cst (pe_bltn hg hm hv (v := .ty T) rfl hn hd) fun _ => rep_ty.mpr rfl
/-- a name as an operand that is lent -/
theorem po_N {X : Cx} {A : Act} {W : WX} {e : Expr} {i : Nat} (h : PE X e (tVar i)) : PE X e (tO A W (oS i)) := po_S h

theorem Cal.blk {X : Cx} {w : Wd} {s : Shared} {H : Hp} {scope : Scope} {ce : PySem.Env} {fp : List Addr} (c : Cal X w) : Cal (X.blk s H scope ce fp) w := ⟨c.K, c.calm, c.un, c.gs⟩
theorem cal_of {P : Program} {w : World} {K : PySem.W.Frag} {mg : Str → Option Value} {base : Heap} {N : List Str} {qual : Str} {scope : Scope} {f : Addr} {cdv : Value} {A : Around} {outer : List PySem.Env} {s : Shared} {H : Hp} {E : XK} {k : Nat} {CM : Str → Option Addr}
    (hr : RoomG k (A.deeper (PyProof.Rows.envOfC qual scope s.heap.objs.size f cdv))) : Cal (cxOf (L2.CX P w) P w K mg base N qual scope f cdv A outer s H E) ⟨K, CM⟩ :=
  ⟨rfl, rfl, by have := hr.room.un; show (A.deeper (PyProof.Rows.envOfC qual scope s.heap.objs.size f cdv)).units + 100 < cLine; omega, hr.gs⟩
theorem tl_nil : ∀ (vs : List Val) (r r' : Env), tgNil vs r = some r' → vs.length = 0 := fun vs r r' h => by
  cases vs with
  | nil => rfl
  | cons _ _ => cases h
theorem tl_cons {n : Nat} {t : TF} {u : List Val → Env → Option Env} (hu : ∀ (vs : List Val) (r r' : Env), u vs r = some r' → vs.length = n) : ∀ (vs : List Val) (r r' : Env), tgCons t u vs r = some r' → vs.length = n + 1 := fun vs r r' h => by
  cases vs with
  | nil => cases h
  | cons v vs =>
    simp only [tgCons] at h
    cases ht : t v r with
    | none => simp only [ht] at h; cases h
    | some r1 => simp only [ht] at h; simp [hu vs r1 r' h]
theorem bt_str : bootBuiltins "str" = some (.type "str") := by decide +kernel
theorem bt_int : bootBuiltins "int" = some (.type "int") := by decide +kernel
theorem bt_list : bootBuiltins "list" = some (.type "list") := by decide +kernel
theorem bt_tuple : bootBuiltins "tuple" = some (.type "tuple") := by decide +kernel
theorem bt_dict : bootBuiltins "dict" = some (.type "dict") := by decide +kernel
theorem bt_bool : bootBuiltins "bool" = some (.type "bool") := by decide +kernel
theorem bf_isinstance : bootBuiltins "isinstance" = some (.builtin "isinstance") := by decide +kernel
theorem bf_len : bootBuiltins "len" = some (.builtin "len") := by decide +kernel
theorem bf_abs : bootBuiltins "abs" = some (.builtin "abs") := by decide +kernel
theorem bf_repr : bootBuiltins "repr" = some (.builtin "repr") := by decide +kernel
theorem bf_all : bootBuiltins "all" = some (.builtin "all") := by decide +kernel
theorem bf_any : bootBuiltins "any" = some (.builtin "any") := by decide +kernel
theorem bf_max : bootBuiltins "max" = some (.builtin "max") := by decide +kernel
theorem bf_min : bootBuiltins "min" = some (.builtin "min") := by decide +kernel
def Pneg : List Val → Option (Bool × Val)
  | [.int i] => some (false, .int (-i))
  | _ => none
theorem pe_neg {X : Cx} {A : Act} {W : WX} {x : Expr} {fo : OF} {pos : Pos} (h : PE X x (tO A W fo)) : PE X (.UnaryOp .USub x pos) (tE A W (prim Pneg (osCons fo osNil))) :=
  PE.imp (pe_un un_neg h) fun σ H Q q => by
    have q1 := prim_os1 q
    obtain ⟨r, G, k, m⟩ := q1
    refine ⟨r, G, k, ?_⟩
    cases hf : fo r with
    | bad => simp only [hf] at m
    | ex e r' => simp only [hf] at m ⊢; exact m
    | ok h r1 =>
      simp only [hf] at m ⊢
      intro x G1 H1 k1 st1 t1
      obtain ⟨G2, vs, o, z, le, rr, hp, q2⟩ := m x G1 H1 k1 st1 t1
      unfold Pneg at hp
      split at hp
      · obtain ⟨y, e, r1⟩ := rreps_one rr
        cases e; cases hp
        obtain rfl := rrep_int r1
        exact ⟨_, rfl, int_new le q2⟩
      · cases hp
/-- the promise of the def at f, found by its name -/
theorem DefP.at {P : Program} {w : World} {K : PySem.W.Frag} {mg : Str → Option Value} {base : Heap} {wd : Wd} {lvl k : Nat} {x : Str} {st : Stmt} {ps : List Str} {g : GF} {f : Addr} {fd : FuncData} (d : DefP P w K mg base wd lvl x st ps g) (hm : mg x = some (.ref f)) (F : FunP K x st f fd) (hk : lvl ≤ k) :
    FnG P w K mg base (L2.CX P w) k f fd ps (spF wd ps.length g) := by
  obtain ⟨f', fd', hm', F', _, G⟩ := d.ex
  rw [hm] at hm'
  cases hm'
  obtain ⟨_, _, _, _, _, _, _, _, _, _, _, l1, _⟩ := F.ex
  obtain ⟨_, _, _, _, _, _, _, _, _, _, _, l2, _⟩ := F'.ex
  rw [l1] at l2
  cases l2
  exact G.up hk
end M
/-! MPW: what comes behind: the combinators read from the left, each with what is wished behind it. -/
namespace M
open PySem L2

def wE (f : EF) (r : Env) (Q : ER → Prop) : Prop := Q (f r)
def wO (f : OF) (r : Env) (Q : OR → Prop) : Prop := Q (f r)
def wOs (f : OsF) (r : Env) (Q : OsR → Prop) : Prop := Q (f r)
def wB (f : BF) (r : Env) (Q : BR → Prop) : Prop := Q (f r)
def wA (f : AF) (r : Env) (Q : AR → Prop) : Prop := Q (f r)
def wI (f : IF) (r : Env) (Q : IR → Prop) : Prop := Q (f r)
def wP (f : PF) (r : Env) (Q : PR → Prop) : Prop := Q (f r)
def wS (f : SF) (r : Env) (Q : SR → Prop) : Prop := Q (f r)
def wD (l : List (EF × EF)) (r : Env) (Q : DR → Prop) : Prop := Q (dspL l r)
def wG (g : GF) (as : List (Bool × Val)) (Q : GR → Prop) : Prop := Q (g as)
def wL (t : TF) (b : SF) (vs : List Val) (r : Env) (Q : SR → Prop) : Prop := Q (forL t b vs r)
def wC (t : TF) (c : BF) (f : EF) (sl : List Nat) (vs acc : List Val) (r : Env) (Q : AR → Prop) : Prop := Q (lcL t c f sl vs acc r)
def wT (t : Option Env) (Q : Option Env → Prop) : Prop := Q t
theorem of_wE {f : EF} {r : Env} {Q : ER → Prop} (h : wE f r Q) : Q (f r) := h

section
variable {r : Env} {i j n : Nat} {v : Val} {f f' : EF} {fo fo' : OF} {fs fs' : OsF} {c c' : BF} {g : AF} {b b' : SF} {t : TF}
/-! expressions -/
theorem wE_cst {Q : ER → Prop} : wE (cst v) r Q = Q (.ok false v r) := rfl
def kvar (i : Nat) (r : Env) (Q : ER → Prop) : Option Slot → Prop
  | some (some (false, v)) => Q (.ok false v r)
  | some (some (true, v)) => Q (.ok false v (r.set i (some (false, v))))
  | _ => Q .bad
theorem wE_var {Q : ER → Prop} : wE (var i) r Q = kvar i r Q r[i]? := by
  unfold wE var
  rcases r[i]? with _ | _ | ⟨_ | _, v⟩ <;> rfl
def kmv (i : Nat) (r : Env) (Q : ER → Prop) : Option Slot → Prop
  | some (some (o, v)) => Q (.ok o v (r.set i none))
  | _ => Q .bad
theorem wE_mv {Q : ER → Prop} : wE (mv i) r Q = kmv i r Q r[i]? := by
  unfold wE mv
  rcases r[i]? with _ | _ | ⟨o, v⟩ <;> rfl
def kfrz (Q : ER → Prop) : ER → Prop
  | .ok _ v r' => Q (.ok false v r')
  | .ex e r' => Q (.ex e r')
  | .bad => Q .bad
theorem wE_frz {Q : ER → Prop} : wE (frz f) r Q = wE f r (kfrz Q) := by unfold wE frz; cases f r <;> rfl
def koV (Q : OR → Prop) : ER → Prop
  | .ok o v r' => Q (.ok (.tmp o v) r')
  | .ex e r' => Q (.ex e r')
  | .bad => Q .bad
theorem wO_V {Q : OR → Prop} : wO (oV f) r Q = wE f r (koV Q) := by unfold wO wE oV; cases f r <;> rfl
def koS (i : Nat) (r : Env) (Q : OR → Prop) : Option Slot → Prop
  | some (some _) => Q (.ok (.sl i) r)
  | _ => Q .bad
theorem wO_S {Q : OR → Prop} : wO (oS i) r Q = koS i r Q r[i]? := by
  unfold wO oS
  rcases r[i]? with _ | _ | _ <;> rfl
theorem wOs_nil {Q : OsR → Prop} : wOs osNil r Q = Q (.ok [] r) := rfl
def kcons2 (h : Hd) (Q : OsR → Prop) : OsR → Prop
  | .ok hs r2 => Q (.ok (h :: hs) r2)
  | .ex e r2 => Q (.ex e r2)
  | .bad => Q .bad
def kcons (fs : OsF) (Q : OsR → Prop) : OR → Prop
  | .ok h r1 => wOs fs r1 (kcons2 h Q)
  | .ex e r1 => Q (.ex e r1)
  | .bad => Q .bad
theorem wOs_cons {Q : OsR → Prop} : wOs (osCons fo fs) r Q = wO fo r (kcons fs Q) := by
  unfold wOs wO osCons
  cases fo r with
  | ok h r1 => simp only [kcons, wOs]; cases fs r1 <;> rfl
  | _ => rfl
def kp2 (Q : ER → Prop) (r : Env) : Option (Bool × Val) → Prop
  | some (o, z) => Q (.ok o z r)
  | none => Q .bad
def kp1 (P : List Val → Option (Bool × Val)) (Q : ER → Prop) (r : Env) : Option (List Val) → Prop
  | some vs => kp2 Q r (P vs)
  | none => Q .bad
def kprim (P : List Val → Option (Bool × Val)) (Q : ER → Prop) : OsR → Prop
  | .ok hs r1 => kp1 P Q r1 (getAll r1 hs)
  | .ex e r1 => Q (.ex e r1)
  | .bad => Q .bad
theorem wE_prim {P : List Val → Option (Bool × Val)} {Q : ER → Prop} : wE (prim P fs) r Q = wOs fs r (kprim P Q) := by
  unfold wE wOs prim
  cases fs r with
  | ok hs r1 =>
    simp only [kprim]
    cases getAll r1 hs with
    | none => rfl
    | some vs => simp only [kp1]; rcases P vs with _ | ⟨o, z⟩ <;> rfl
  | _ => rfl
/-! tests -/
def ktst (Q : BR → Prop) : ER → Prop
  | .ok _ (.bl b) r' => Q (.ok b r')
  | .ok _ _ _ => Q .bad
  | .ex e r' => Q (.ex e r')
  | .bad => Q .bad
theorem wB_tst {Q : BR → Prop} : wB (tst f) r Q = wE f r (ktst Q) := by
  unfold wB wE tst
  cases f r with
  | ok o v r' => cases v <;> rfl
  | _ => rfl
def kand (c' : BF) (Q : BR → Prop) : BR → Prop
  | .ok true r' => wB c' r' Q
  | x => Q x
theorem wB_and {Q : BR → Prop} : wB (andB c c') r Q = wB c r (kand c' Q) := by
  unfold wB andB
  rcases c r with ⟨_ | _, r'⟩ | _ | _ <;> rfl
def kor (c' : BF) (Q : BR → Prop) : BR → Prop
  | .ok false r' => wB c' r' Q
  | x => Q x
theorem wB_or {Q : BR → Prop} : wB (orB c c') r Q = wB c r (kor c' Q) := by
  unfold wB orB
  rcases c r with ⟨_ | _, r'⟩ | _ | _ <;> rfl
def knot (Q : BR → Prop) : BR → Prop
  | .ok b r' => Q (.ok (!b) r')
  | x => Q x
theorem wB_not {Q : BR → Prop} : wB (notB c) r Q = wB c r (knot Q) := by
  unfold wB notB
  cases c r <;> rfl
theorem wB_yes {Q : BR → Prop} : wB yesB r Q = Q (.ok true r) := rfl
def kandV (f' : EF) (Q : ER → Prop) : ER → Prop
  | .ok _ (.bl true) r' => wE f' r' Q
  | .ok _ (.bl false) r' => Q (.ok false (.bl false) r')
  | .ok _ _ _ => Q .bad
  | x => Q x
theorem wE_andV {Q : ER → Prop} : wE (andV f f') r Q = wE f r (kandV f' Q) := by
  unfold wE andV
  cases f r with
  | ok o v r' =>
    cases v with
    | bl b => cases b <;> rfl
    | _ => rfl
  | _ => rfl
def korV (f' : EF) (Q : ER → Prop) : ER → Prop
  | .ok _ (.bl true) r' => Q (.ok false (.bl true) r')
  | .ok _ (.bl false) r' => wE f' r' Q
  | .ok _ _ _ => Q .bad
  | x => Q x
theorem wE_orV {Q : ER → Prop} : wE (orV f f') r Q = wE f r (korV f' Q) := by
  unfold wE orV
  cases f r with
  | ok o v r' =>
    cases v with
    | bl b => cases b <;> rfl
    | _ => rfl
  | _ => rfl
def knotV (Q : ER → Prop) : ER → Prop
  | .ok _ (.bl b) r' => Q (.ok false (.bl (!b)) r')
  | .ok _ _ _ => Q .bad
  | x => Q x
theorem wE_notV {Q : ER → Prop} : wE (notV f) r Q = wE f r (knotV Q) := by
  unfold wE notV
  cases f r with
  | ok o v r' => cases v <;> rfl
  | _ => rfl
def kite (f f' : EF) (Q : ER → Prop) : BR → Prop
  | .ok true r' => wE f r' Q
  | .ok false r' => wE f' r' Q
  | .ex e r' => Q (.ex e r')
  | .bad => Q .bad
theorem wE_ite {Q : ER → Prop} : wE (ite c f f') r Q = wB c r (kite f f' Q) := by
  unfold wE wB ite
  rcases c r with ⟨_ | _, r'⟩ | _ | _ <;> rfl
/-! displays -/
theorem wA_nil {Q : AR → Prop} : wA asNil r Q = Q (.ok [] r) := rfl
def kac2 (v : Val) (Q : AR → Prop) : AR → Prop
  | .ok vs r2 => Q (.ok (v :: vs) r2)
  | .ex e r2 => Q (.ex e r2)
  | .bad => Q .bad
def kac (g : AF) (Q : AR → Prop) : ER → Prop
  | .ok _ v r1 => wA g r1 (kac2 v Q)
  | .ex e r1 => Q (.ex e r1)
  | .bad => Q .bad
theorem wA_cons {Q : AR → Prop} : wA (asCons f g) r Q = wE f r (kac g Q) := by
  unfold wA wE asCons frz
  cases f r with
  | ok o v r1 => simp only [kac, wA]; cases g r1 <;> rfl
  | _ => rfl
def kstar2 (ds : List Val) (Q : AR → Prop) : AR → Prop
  | .ok vs r2 => Q (.ok (ds ++ vs) r2)
  | .ex e r2 => Q (.ex e r2)
  | .bad => Q .bad
def kstar1 (g : AF) (r : Env) (Q : AR → Prop) : Option (Bool × Val) → Prop
  | some (true, .lst ds) => wA g r (kstar2 ds Q)
  | _ => Q .bad
def kstar (g : AF) (Q : AR → Prop) : ER → Prop
  | .ok _ v r1 => kstar1 g r1 Q (Plist [v])
  | .ex e r1 => Q (.ex e r1)
  | .bad => Q .bad
theorem wA_star {Q : AR → Prop} : wA (asStar f g) r Q = wE f r (kstar g Q) := by
  unfold wA wE asStar frz
  cases f r with
  | ok o v r1 =>
    simp only [kstar]
    rcases Plist [v] with _ | ⟨_ | _, w⟩
    · rfl
    · rfl
    · cases w <;> try rfl
      simp only [kstar1, wA]; cases g r1 <;> rfl
  | _ => rfl
def ktup (Q : ER → Prop) : AR → Prop
  | .ok vs r1 => (if vs.length ≤ 100000 then Q (.ok false (.tup vs) r1) else Q .bad)
  | .ex e r1 => Q (.ex e r1)
  | .bad => Q .bad
theorem wE_tup {Q : ER → Prop} : wE (tup g) r Q = wA g r (ktup Q) := by
  unfold wE wA tup
  cases g r with
  | ok vs r1 => simp only [ktup]; split <;> rfl
  | _ => rfl
def klst (Q : ER → Prop) : AR → Prop
  | .ok vs r1 => (if vs.length ≤ 100000 then Q (.ok true (.lst vs) r1) else Q .bad)
  | .ex e r1 => Q (.ex e r1)
  | .bad => Q .bad
theorem wE_lst {Q : ER → Prop} : wE (lst g) r Q = wA g r (klst Q) := by
  unfold wE wA lst
  cases g r with
  | ok vs r1 => simp only [klst]; split <;> rfl
  | _ => rfl
/-! calls -/
def kback (r : Env) (ix : Option Nat) (Q : ER → Prop) : GR → Prop
  | .ok o z out => Q (.ok o z (back r ix out))
  | .ex e out => Q (.ex e (back r ix out))
  | .bad => Q .bad
def kc1 (n : Nat) (g : GF) (Q : ER → Prop) (r : Env) (ix : Option Nat) : Option (List (Bool × Val)) → Prop
  | some as => (if lents as ≤ 1 ∧ as.length = n then wG g as (kback r ix Q) else Q .bad)
  | none => Q .bad
def kcall (n : Nat) (g : GF) (Q : ER → Prop) : OsR → Prop
  | .ok hs r1 => kc1 n g Q r1 (lentIx r1 hs) (lend r1 hs)
  | .ex e r1 => Q (.ex e r1)
  | .bad => Q .bad
theorem wE_call {g : GF} {Q : ER → Prop} : wE (callG n g fs) r Q = wOs fs r (kcall n g Q) := by
  unfold wE wOs callG
  cases fs r with
  | ok hs r1 =>
    simp only [kcall]
    cases lend r1 hs with
    | none => rfl
    | some as =>
      simp only [kc1, wG]
      split
      · cases g as <;> rfl
      · rfl
  | _ => rfl
def kd1 (Q : GR → Prop) : Option (Option (Bool × Val)) → Prop
  | some out => Q (.ok false .non out)
  | none => Q .bad
def kd2 (Q : GR → Prop) (o : Bool) (v : Val) : Option (Option (Bool × Val)) → Prop
  | some out => (if o = true ∧ out.map (·.1) = some false then Q .bad else Q (.ok o v out))
  | none => Q .bad
def kd3 (Q : GR → Prop) (e : Val) : Option (Option (Bool × Val)) → Prop
  | some out => Q (.ex e out)
  | none => Q .bad
def kdef (as : List (Bool × Val)) (Q : GR → Prop) : SR → Prop
  | .nx r => kd1 Q (outOf as r)
  | .rt o v r => kd2 Q o v (outOf as r)
  | .ex e r => kd3 Q e (outOf as r)
  | _ => Q .bad
theorem wG_run {ios : List Nat} {np N : Nat} {as : List (Bool × Val)} {Q : GR → Prop} (h1 : as.length = np) (h2 : ∀ i ∈ ownIx as, i ∈ ios) : wG (runDef ios np N b) as Q = wS b (as.map some ++ List.replicate (N - np) none) (kdef as Q) := by
  unfold wG wS runDef
  rw [if_pos ⟨h1, h2⟩]
  cases b (as.map some ++ List.replicate (N - np) none) with
  | nx r => simp only [kdef]; cases outOf as r <;> rfl
  | rt o v r =>
    simp only [kdef]
    cases outOf as r with
    | none => rfl
    | some out => simp only [kd2]; split <;> rfl
  | ex e r => simp only [kdef]; cases outOf as r <;> rfl
  | _ => rfl
/-! statements -/
def kseq (b' : SF) (Q : SR → Prop) : SR → Prop
  | .nx r' => wS b' r' Q
  | x => Q x
theorem wS_seq {Q : SR → Prop} : wS (seq b b') r Q = wS b r (kseq b' Q) := by
  unfold wS seq
  cases b r <;> rfl
theorem wS_skip {Q : SR → Prop} : wS skip r Q = Q (.nx r) := rfl
theorem wS_brk {Q : SR → Prop} : wS brk r Q = Q (.bk r) := rfl
theorem wS_cont {Q : SR → Prop} : wS cont r Q = Q (.ct r) := rfl
def kasg (i : Nat) (Q : SR → Prop) : ER → Prop
  | .ok o v r' => Q (.nx (r'.set i (some (o, v))))
  | .ex e r' => Q (.ex e r')
  | .bad => Q .bad
theorem wS_asg {Q : SR → Prop} : wS (asg i f) r Q = wE f r (kasg i Q) := by unfold wS wE asg; cases f r <;> rfl
def kdrop (Q : SR → Prop) : ER → Prop
  | .ok _ _ r' => Q (.nx r')
  | .ex e r' => Q (.ex e r')
  | .bad => Q .bad
theorem wS_drop {Q : SR → Prop} : wS (drop f) r Q = wE f r (kdrop Q) := by unfold wS wE drop; cases f r <;> rfl
def kret (Q : SR → Prop) : ER → Prop
  | .ok o v r' => Q (.rt o v r')
  | .ex e r' => Q (.ex e r')
  | .bad => Q .bad
theorem wS_ret {Q : SR → Prop} : wS (ret f) r Q = wE f r (kret Q) := by unfold wS wE ret; cases f r <;> rfl
def kif (b b' : SF) (Q : SR → Prop) : BR → Prop
  | .ok true r' => wS b r' Q
  | .ok false r' => wS b' r' Q
  | .ex e r' => Q (.ex e r')
  | .bad => Q .bad
theorem wS_if {Q : SR → Prop} : wS (ifS c b b') r Q = wB c r (kif b b' Q) := by
  unfold wS wB ifS
  rcases c r with ⟨_ | _, r'⟩ | _ | _ <;> rfl
def kaug2 (i : Nat) (P : Int → Int → Int) (a : Int) (Q : SR → Prop) : ER → Prop
  | .ok _ (.int b) r' => Q (.nx (r'.set i (some (false, .int (P a b)))))
  | .ok _ _ _ => Q .bad
  | .ex e r' => Q (.ex e r')
  | .bad => Q .bad
def kaug (i : Nat) (P : Int → Int → Int) (f : EF) (r : Env) (Q : SR → Prop) : Option Slot → Prop
  | some (some (false, .int a)) => wE f r (kaug2 i P a Q)
  | _ => Q .bad
theorem wS_aug {P : Int → Int → Int} {Q : SR → Prop} : wS (aug i P f) r Q = kaug i P f r Q r[i]? := by
  unfold wS aug
  rcases r[i]? with _ | _ | ⟨_ | _, v⟩
  · rfl
  · rfl
  · cases v with
    | int a =>
      simp only [kaug, wE]
      cases f r with
      | ok o v r' => cases v <;> rfl
      | _ => rfl
    | _ => rfl
  · rfl
/-! what is walked -/
def kitV1 (r : Env) (Q : IR → Prop) : Option (List Val) → Prop
  | some vs => Q (.ok vs r)
  | none => Q .bad
def kitV (Q : IR → Prop) : ER → Prop
  | .ok _ v r' => kitV1 r' Q (itemsOf v)
  | .ex e r' => Q (.ex e r')
  | .bad => Q .bad
theorem wI_V {Q : IR → Prop} : wI (itV f) r Q = wE f r (kitV Q) := by
  unfold wI wE itV frz
  cases f r with
  | ok o v r' => simp only [kitV]; cases itemsOf v <;> rfl
  | _ => rfl
def kitR (q : List Val → Option (List Val)) (Q : IR → Prop) : AR → Prop
  | .ok vs r' => kitV1 r' Q (q vs)
  | .ex e r' => Q (.ex e r')
  | .bad => Q .bad
theorem wI_R {q : List Val → Option (List Val)} {Q : IR → Prop} : wI (itR q g) r Q = wA g r (kitR q Q) := by
  unfold wI wA itR
  cases g r with
  | ok vs r' => simp only [kitR]; cases q vs <;> rfl
  | _ => rfl
theorem wI_zip {Q : IR → Prop} : wI (itZip g) r Q = wA g r (kitR zipOf Q) := wI_R
def kfor (t : TF) (b : SF) (Q : SR → Prop) : IR → Prop
  | .ok vs r1 => wL t b vs r1 Q
  | .ex e r1 => Q (.ex e r1)
  | .bad => Q .bad
theorem wS_for {fi : IF} {Q : SR → Prop} : wS (forS fi t b) r Q = wI fi r (kfor t b Q) := by
  unfold wS wI forS
  cases fi r <;> rfl
theorem wL_nil {Q : SR → Prop} : wL t b [] r Q = Q (.nx r) := rfl
def kL (t : TF) (b : SF) (vs : List Val) (Q : SR → Prop) : SR → Prop
  | .nx r2 => wL t b vs r2 Q
  | .ct r2 => wL t b vs r2 Q
  | .bk r2 => Q (.nx r2)
  | x => Q x
def kT (b : SF) (Q Q' : SR → Prop) : Option Env → Prop
  | some r1 => wS b r1 Q
  | none => Q' .bad
theorem wL_cons {vs : List Val} {Q : SR → Prop} : wL t b (v :: vs) r Q = kT b (kL t b vs Q) Q (t v r) := by
  unfold wL
  rw [forL]
  rcases ht : t v r with _ | r1
  · simp only [ht, kT]
  · simp only [ht, kT, wS]
    cases hb : b r1 <;> simp only [hb, kL] <;> rfl
/-- one turn of a loop: what is wished behind it -/
def kTurn (I : Env → Prop) (Q : SR → Prop) : SR → Prop
  | .nx r2 => I r2
  | .ct r2 => I r2
  | .bk r2 => Q (.nx r2)
  | x => Q x
theorem wL_inv {Q : SR → Prop} (I : List Val → Env → Prop) (hs : ∀ v vs r, I (v :: vs) r → kT b (kTurn (I vs) Q) Q (t v r)) (he : ∀ r, I [] r → Q (.nx r)) : ∀ vs r, I vs r → wL t b vs r Q
  | [], r, h => he r h
  | v :: vs, r, h => by
    rw [wL_cons]
    have := hs v vs r h
    cases ht : t v r with
    | none => rw [ht] at this; exact this
    | some r1 =>
      rw [ht] at this
      simp only [kT, wS] at this ⊢
      cases hb : b r1 with
      | nx r2 => rw [hb] at this; exact wL_inv I hs he vs r2 this
      | ct r2 => rw [hb] at this; exact wL_inv I hs he vs r2 this
      | bk r2 => rw [hb] at this; exact this
      | rt o v r2 => rw [hb] at this; exact this
      | ex e r2 => rw [hb] at this; exact this
      | bad => rw [hb] at this; exact this
def kW2 (c : BF) (b : SF) (n : Nat) (Q : SR → Prop) : SR → Prop
  | .nx r2 => wS (whl c b n) r2 Q
  | .ct r2 => wS (whl c b n) r2 Q
  | .bk r2 => Q (.nx r2)
  | x => Q x
def kW (c : BF) (b : SF) (n : Nat) (Q : SR → Prop) : BR → Prop
  | .ok true r1 => wS b r1 (kW2 c b n Q)
  | .ok false r1 => Q (.nx r1)
  | .ex e r1 => Q (.ex e r1)
  | .bad => Q .bad
theorem wS_whl {Q : SR → Prop} : wS (whl c b (n + 1)) r Q = wB c r (kW c b n Q) := by
  unfold wB wS
  rw [whl]
  rcases hc : c r with ⟨_ | _, r'⟩ | _ | _
  · simp only [hc, kW]
  · simp only [hc, kW, wS]; cases hb : b r' <;> simp only [hb, kW2] <;> rfl
  · simp only [hc, kW]
  · simp only [hc, kW]
/-- one turn of a while -/
def kTurnW (b : SF) (I : Env → Prop) (Q : SR → Prop) : BR → Prop
  | .ok true r1 => wS b r1 (kTurn I Q)
  | .ok false r1 => Q (.nx r1)
  | .ex e r1 => Q (.ex e r1)
  | .bad => Q .bad
theorem wW_inv {Q : SR → Prop} (I : Nat → Env → Prop) (hs : ∀ m r, I m r → wB c r (kTurnW b (fun r2 => ∃ k, k < m ∧ I k r2) Q)) : ∀ n m r, m < n → I m r → wS (whl c b n) r Q
  | 0, _, _, h, _ => absurd h (by omega)
  | n + 1, m, r, hm, h => by
    rw [wS_whl]
    have := hs m r h
    unfold wB at this ⊢
    rcases hc : c r with ⟨_ | _, r'⟩ | _ | _ <;> rw [hc] at this
    · exact this
    · simp only [kTurnW, kW, wS] at this ⊢
      cases hb : b r' with
      | nx r2 => rw [hb] at this; obtain ⟨k, hk, h2⟩ := this; exact wW_inv I hs n k r2 (by omega) h2
      | ct r2 => rw [hb] at this; obtain ⟨k, hk, h2⟩ := this; exact wW_inv I hs n k r2 (by omega) h2
      | bk r2 => rw [hb] at this; exact this
      | rt o v r2 => rw [hb] at this; exact this
      | ex e r2 => rw [hb] at this; exact this
      | bad => rw [hb] at this; exact this
    · exact this
    · exact this
/-! comprehensions -/
def klc2 (r1 : Env) (sl : List Nat) (Q : ER → Prop) : AR → Prop
  | .ok ys r2 => Q (.ok true (.lst ys) (restR r1 r2 sl))
  | _ => Q .bad
def klc (t : TF) (c : BF) (f : EF) (sl : List Nat) (Q : ER → Prop) : IR → Prop
  | .ok vs r1 => wC t c f sl vs [] (wipeR r1 sl) (klc2 r1 sl Q)
  | .ex e r1 => Q (.ex e r1)
  | .bad => Q .bad
theorem wE_lc {fi : IF} {sl : List Nat} {Q : ER → Prop} : wE (lc fi t c f sl) r Q = wI fi r (klc t c f sl Q) := by
  unfold wE wI lc
  cases fi r with
  | ok vs r1 => simp only [klc, wC]; cases lcL t c f sl vs [] (wipeR r1 sl) <;> rfl
  | _ => rfl
theorem wC_nil {sl : List Nat} {acc : List Val} {Q : AR → Prop} : wC t c f sl [] acc r Q = Q (.ok acc r) := rfl
def kC2 (t : TF) (c : BF) (f : EF) (sl : List Nat) (vs acc : List Val) (Q : AR → Prop) : ER → Prop
  | .ok _ y r3 => (if acc.length < 100000 then wC t c f sl vs (acc ++ [y]) (wipeR r3 sl) Q else Q .bad)
  | _ => Q .bad
def kC1 (t : TF) (c : BF) (f : EF) (sl : List Nat) (vs acc : List Val) (Q : AR → Prop) : BR → Prop
  | .ok true r2 => wE f r2 (kC2 t c f sl vs acc Q)
  | .ok false r2 => wC t c f sl vs acc (wipeR r2 sl) Q
  | _ => Q .bad
def kC0 (t : TF) (c : BF) (f : EF) (sl : List Nat) (vs acc : List Val) (Q : AR → Prop) : Option Env → Prop
  | some r1 => wB c r1 (kC1 t c f sl vs acc Q)
  | none => Q .bad
theorem wC_cons {sl : List Nat} {vs acc : List Val} {Q : AR → Prop} : wC t c f sl (v :: vs) acc r Q = kC0 t c f sl vs acc Q (t v r) := by
  unfold wC
  rw [lcL]
  rcases ht : t v r with _ | r1
  · simp only [ht, kC0]
  · simp only [ht, kC0, wB]
    rcases hc : c r1 with ⟨_ | _, r2⟩ | _ | _
    · simp only [hc, kC1, wC]
    · simp only [hc, kC1, wE, frz]
      cases hf : f r2 with
      | ok o y r3 => simp only [hf, kC2, wC]; split <;> rfl
      | _ => simp only [hf, kC2]
    · simp only [hc, kC1]
    · simp only [hc, kC1]
/-- one turn of a comprehension -/
def kU2 (sl : List Nat) (I : List Val → Env → Prop) (acc : List Val) : ER → Prop
  | .ok _ y r3 => acc.length < 100000 ∧ I (acc ++ [y]) (wipeR r3 sl)
  | _ => False
def kU1 (f : EF) (sl : List Nat) (I : List Val → Env → Prop) (acc : List Val) : BR → Prop
  | .ok true r2 => wE f r2 (kU2 sl I acc)
  | .ok false r2 => I acc (wipeR r2 sl)
  | _ => False
def kU0 (c : BF) (f : EF) (sl : List Nat) (I : List Val → Env → Prop) (acc : List Val) : Option Env → Prop
  | some r1 => wB c r1 (kU1 f sl I acc)
  | none => False
theorem wC_inv {sl : List Nat} {Q : AR → Prop} (I : List Val → List Val → Env → Prop) (hs : ∀ v vs acc r, I (v :: vs) acc r → kU0 c f sl (I vs) acc (t v r)) (he : ∀ acc r, I [] acc r → Q (.ok acc r)) : ∀ vs acc r, I vs acc r → wC t c f sl vs acc r Q
  | [], acc, r, h => he acc r h
  | v :: vs, acc, r, h => by
    rw [wC_cons]
    have := hs v vs acc r h
    cases ht : t v r with
    | none => rw [ht] at this; exact this.elim
    | some r1 =>
      rw [ht] at this
      simp only [kC0, kU0, wB] at this ⊢
      rcases hc : c r1 with ⟨_ | _, r2⟩ | _ | _ <;> rw [hc] at this
      · exact wC_inv I hs he vs acc _ this
      · simp only [kC1, kU1, wE] at this ⊢
        cases hf : f r2 with
        | ok o y r3 => rw [hf] at this; simp only [kC2, kU2] at this ⊢; rw [if_pos this.1]; exact wC_inv I hs he vs _ _ this.2
        | ex e r3 => rw [hf] at this; exact this.elim
        | bad => rw [hf] at this; exact this.elim
      · exact this.elim
      · exact this.elim
/-! the rest -/
theorem wP_no {Q : PR → Prop} : wP pNo r Q = Q (.ok none r) := rfl
def kpInt (Q : PR → Prop) : ER → Prop
  | .ok _ (.int i) r' => Q (.ok (some i) r')
  | .ok _ _ _ => Q .bad
  | .ex e r' => Q (.ex e r')
  | .bad => Q .bad
theorem wP_int {Q : PR → Prop} : wP (pInt f) r Q = wE f r (kpInt Q) := by
  unfold wP wE pInt
  cases f r with
  | ok o v r' => cases v <;> rfl
  | _ => rfl
def ksl4 (lo hi : Option Int) (r : Env) (Q : ER → Prop) : Option Val → Prop
  | some v => kp2 Q r (Psl v lo hi)
  | none => Q .bad
def ksl3 (h : Hd) (lo : Option Int) (Q : ER → Prop) : PR → Prop
  | .ok hi r3 => ksl4 lo hi r3 Q (h.get r3)
  | .ex e r3 => Q (.ex e r3)
  | .bad => Q .bad
def ksl2 (h : Hd) (fu : PF) (Q : ER → Prop) : PR → Prop
  | .ok lo r2 => wP fu r2 (ksl3 h lo Q)
  | .ex e r2 => Q (.ex e r2)
  | .bad => Q .bad
def ksl1 (fl fu : PF) (Q : ER → Prop) : OR → Prop
  | .ok h r1 => wP fl r1 (ksl2 h fu Q)
  | .ex e r1 => Q (.ex e r1)
  | .bad => Q .bad
theorem wE_slc {fl fu : PF} {Q : ER → Prop} : wE (slc fo fl fu) r Q = wO fo r (ksl1 fl fu Q) := by
  unfold wE wO slc
  cases fo r with
  | ok h r1 =>
    simp only [ksl1, wP]
    cases fl r1 with
    | ok lo r2 =>
      simp only [ksl2, wP]
      cases fu r2 with
      | ok hi r3 =>
        simp only [ksl3]
        cases h.get r3 with
        | none => rfl
        | some v => simp only [ksl4]; rcases Psl v lo hi with _ | ⟨o, z⟩ <;> rfl
      | _ => rfl
    | _ => rfl
  | _ => rfl
def kch5 (r : Env) (Q : ER → Prop) : Option (Bool × Val) → Prop
  | some (false, .bl b) => Q (.ok false (.bl b) r)
  | _ => Q .bad
def kch4 (P' : List Val → Option (Bool × Val)) (r : Env) (Q : ER → Prop) : Option (List Val) → Prop
  | some us => kch5 r Q (P' us)
  | none => Q .bad
def kch3b (P' : List Val → Option (Bool × Val)) (h2 : Hd) (Q : ER → Prop) : OR → Prop
  | .ok h3 r3 => kch4 P' r3 Q (getAll r3 [h2, h3])
  | .ex e r3 => Q (.ex e r3)
  | .bad => Q .bad
def kch3 (P' : List Val → Option (Bool × Val)) (fc : OF) (h2 : Hd) (r : Env) (Q : ER → Prop) : Option (Bool × Val) → Prop
  | some (false, .bl true) => wO fc r (kch3b P' h2 Q)
  | some (false, .bl false) => Q (.ok false (.bl false) r)
  | _ => Q .bad
def kch2 (P P' : List Val → Option (Bool × Val)) (fc : OF) (h2 : Hd) (r : Env) (Q : ER → Prop) : Option (List Val) → Prop
  | some vs => kch3 P' fc h2 r Q (P vs)
  | none => Q .bad
def kch1 (P P' : List Val → Option (Bool × Val)) (fc : OF) (h1 : Hd) (Q : ER → Prop) : OR → Prop
  | .ok h2 r2 => kch2 P P' fc h2 r2 Q (getAll r2 [h1, h2])
  | .ex e r2 => Q (.ex e r2)
  | .bad => Q .bad
def kch0 (P P' : List Val → Option (Bool × Val)) (fb fc : OF) (Q : ER → Prop) : OR → Prop
  | .ok h1 r1 => wO fb r1 (kch1 P P' fc h1 Q)
  | .ex e r1 => Q (.ex e r1)
  | .bad => Q .bad
theorem wE_chn {P P' : List Val → Option (Bool × Val)} {fb fc : OF} {Q : ER → Prop} : wE (chn P P' fo fb fc) r Q = wO fo r (kch0 P P' fb fc Q) := by
  unfold wE wO chn
  cases fo r with
  | ok h1 r1 =>
    simp only [kch0, wO]
    cases fb r1 with
    | ok h2 r2 =>
      simp only [kch1]
      cases getAll r2 [h1, h2] with
      | none => rfl
      | some vs =>
        simp only [kch2]
        rcases P vs with _ | ⟨_ | _, z⟩
        · rfl
        · cases z with
          | bl b =>
            cases b with
            | false => rfl
            | true =>
              simp only [kch3, wO]
              cases fc r2 with
              | ok h3 r3 =>
                simp only [kch3b]
                cases getAll r3 [h2, h3] with
                | none => rfl
                | some us =>
                  simp only [kch4]
                  rcases P' us with _ | ⟨_ | _, z⟩
                  · rfl
                  · cases z <;> rfl
                  · rfl
              | _ => rfl
          | _ => rfl
        · rfl
    | _ => rfl
  | _ => rfl
def koTy2 (T : String) (h : Hd) (r : Env) (Q : OR → Prop) : Option Val → Prop
  | some v => (if tyOf v = some T then Q (.ok h r) else Q .bad)
  | none => Q .bad
def koTy (T : String) (Q : OR → Prop) : OR → Prop
  | .ok h r1 => koTy2 T h r1 Q (h.get r1)
  | .ex e r1 => Q (.ex e r1)
  | .bad => Q .bad
theorem wO_Ty {T : String} {Q : OR → Prop} : wO (oTy T fo) r Q = wO fo r (koTy T Q) := by
  unfold wO oTy
  cases fo r with
  | ok h r1 =>
    simp only [koTy]
    cases h.get r1 with
    | none => rfl
    | some v => simp only [koTy2]; split <;> rfl
  | _ => rfl
def kmu3 (i : Nat) (r : Env) (Q : ER → Prop) : Option (Val × Val) → Prop
  | some (v', z) => Q (.ok false z (r.set i (some (true, v'))))
  | none => Q .bad
def kmu2 (P : MutF) (i : Nat) (vs : List Val) (r : Env) (Q : ER → Prop) : Option Slot → Prop
  | some (some (true, v)) => kmu3 i r Q (P v vs)
  | _ => Q .bad
def kmu1 (P : MutF) (i : Nat) (Q : ER → Prop) : AR → Prop
  | .ok vs r1 => kmu2 P i vs r1 Q r1[i]?
  | .ex e r1 => Q (.ex e r1)
  | .bad => Q .bad
def kmu (T : String) (P : MutF) (i : Nat) (g : AF) (r : Env) (Q : ER → Prop) : Option Slot → Prop
  | some (some (true, v0)) => (if tyOf v0 = some T then wA g r (kmu1 P i Q) else Q .bad)
  | _ => Q .bad
theorem wE_mut {T : String} {P : MutF} {Q : ER → Prop} : wE (mutE T i P g) r Q = kmu T P i g r Q r[i]? := by
  unfold wE mutE
  rcases r[i]? with _ | _ | ⟨_ | _, v0⟩
  · rfl
  · rfl
  · rfl
  · simp only [kmu]
    split
    · unfold wA
      cases g r with
      | ok vs r1 =>
        simp only [kmu1]
        rcases r1[i]? with _ | _ | ⟨_ | _, v⟩
        · rfl
        · rfl
        · rfl
        · simp only [kmu2]; rcases P v vs with _ | ⟨v', z⟩ <;> rfl
      | _ => rfl
    · rfl
def ksx4 (i : Nat) (r : Env) (Q : SR → Prop) : Option Val → Prop
  | some d' => Q (.nx (r.set i (some (true, d'))))
  | none => Q .bad
def ksx3 (i : Nat) (k v : Val) (r : Env) (Q : SR → Prop) : Option Slot → Prop
  | some (some (true, d)) => ksx4 i r Q (putIx d k v)
  | _ => Q .bad
def ksx2 (i : Nat) (v : Val) (Q : SR → Prop) : ER → Prop
  | .ok _ k r2 => ksx3 i k v r2 Q r2[i]?
  | .ex e r2 => Q (.ex e r2)
  | .bad => Q .bad
def ksx1 (i : Nat) (fk : EF) (v : Val) (r : Env) (Q : SR → Prop) : Option Slot → Prop
  | some (some (true, _)) => wE fk r (ksx2 i v Q)
  | _ => Q .bad
def ksx (i : Nat) (fk : EF) (Q : SR → Prop) : ER → Prop
  | .ok _ v r1 => ksx1 i fk v r1 Q r1[i]?
  | .ex e r1 => Q (.ex e r1)
  | .bad => Q .bad
theorem wS_setIx {fk : EF} {Q : SR → Prop} : wS (setIx i fk f) r Q = wE f r (ksx i fk Q) := by
  unfold wS wE setIx frz
  cases f r with
  | ok o v r1 =>
    simp only [ksx]
    rcases r1[i]? with _ | _ | ⟨_ | _, d0⟩
    · rfl
    · rfl
    · rfl
    · simp only [ksx1, wE]
      cases fk r1 with
      | ok o k r2 =>
        simp only [ksx2]
        rcases r2[i]? with _ | _ | ⟨_ | _, d⟩
        · rfl
        · rfl
        · rfl
        · simp only [ksx3]; cases putIx d k v <;> rfl
      | _ => rfl
  | _ => rfl
theorem wE_dNew {bb : Bool} {Q : ER → Prop} : wE (dNew bb) r Q = Q (.ok true (.dct bb []) r) := rfl
theorem wD_nil {Q : DR → Prop} : wD [] r Q = Q (.ok [] r) := rfl
def kdp3 (k v : Val) (Q : DR → Prop) : DR → Prop
  | .ok kvs r3 => Q (.ok ((k, v) :: kvs) r3)
  | x => Q x
def kdp2 (l : List (EF × EF)) (k : Val) (Q : DR → Prop) : ER → Prop
  | .ok _ v r2 => wD l r2 (kdp3 k v Q)
  | .ex e r2 => Q (.ex e r2)
  | .bad => Q .bad
def kdp1 (fv : EF) (l : List (EF × EF)) (Q : DR → Prop) : ER → Prop
  | .ok _ k r1 => wE fv r1 (kdp2 l k Q)
  | .ex e r1 => Q (.ex e r1)
  | .bad => Q .bad
theorem wD_cons {fk fv : EF} {l : List (EF × EF)} {Q : DR → Prop} : wD ((fk, fv) :: l) r Q = wE fk r (kdp1 fv l Q) := by
  unfold wD wE
  rw [dspL]
  unfold frz
  cases fk r with
  | ok o k r1 =>
    simp only [kdp1, wE]
    cases fv r1 with
    | ok o v r2 =>
      simp only [kdp2, wD]
      cases dspL l r2 <;> rfl
    | _ => rfl
  | _ => rfl
def kds2 (r : Env) (Q : ER → Prop) : Option (List (Val × Val)) → Prop
  | some ds => Q (.ok true (.dct false ds) r)
  | none => Q .bad
def kds (Q : ER → Prop) : DR → Prop
  | .ok kvs r1 => (if kvs.length ≤ 15 then kds2 r1 Q (putAll [] kvs) else Q .bad)
  | .ex e r1 => Q (.ex e r1)
  | .bad => Q .bad
theorem wE_dsp {l : List (EF × EF)} {Q : ER → Prop} : wE (dsp l) r Q = wD l r (kds Q) := by
  unfold wE wD dsp
  cases dspL l r with
  | ok kvs r1 =>
    simp only [kds]
    split
    · cases putAll [] kvs <;> rfl
    · rfl
  | _ => rfl
def kls2 (r : Env) (Q : ER → Prop) : Option (List Str) → Prop
  | some ss => (if ss.length ≤ 1000 then Q (.ok false (.int (metS ss ss.length).length) r) else Q .bad)
  | none => Q .bad
def kls (Q : ER → Prop) : ER → Prop
  | .ok _ (.tup ds) r' => kls2 r' Q (asStrs ds)
  | .ok _ _ _ => Q .bad
  | .ex e r' => Q (.ex e r')
  | .bad => Q .bad
theorem wE_lenSet {Q : ER → Prop} : wE (lenSet f) r Q = wE f r (kls Q) := by
  unfold wE lenSet frz
  cases f r with
  | ok o v r' =>
    cases v with
    | tup ds =>
      simp only [kls]
      cases asStrs ds with
      | none => rfl
      | some ss => simp only [kls2]; split <;> rfl
    | _ => rfl
  | _ => rfl
def kas2 (i j : Nat) (Q : SR → Prop) : AR → Prop
  | .ok [v, u] r1 => Q (.nx ((r1.set i (some (false, v))).set j (some (false, u))))
  | .ok _ _ => Q .bad
  | .ex e r1 => Q (.ex e r1)
  | .bad => Q .bad
theorem wS_asg2 {Q : SR → Prop} : wS (asg2 i j g) r Q = wA g r (kas2 i j Q) := by
  unfold wS wA asg2
  rcases g r with ⟨_ | ⟨v, _ | ⟨u, _ | ⟨w, vs⟩⟩⟩, r1⟩ | _ | _ <;> rfl
def kasT2 (Q : SR → Prop) : Option Env → Prop
  | some r2 => Q (.nx r2)
  | none => Q .bad
def kasT (t : TF) (Q : SR → Prop) : ER → Prop
  | .ok _ v r1 => kasT2 Q (t v r1)
  | .ex e r1 => Q (.ex e r1)
  | .bad => Q .bad
theorem wS_asgT {Q : SR → Prop} : wS (asgT t f) r Q = wE f r (kasT t Q) := by
  unfold wS wE asgT frz
  cases f r with
  | ok o v r1 => simp only [kasT]; cases t v r1 <;> rfl
  | _ => rfl
def kapp2 (hs : List Hd) (Q : OsR → Prop) : OsR → Prop
  | .ok ks r2 => Q (.ok (hs ++ ks) r2)
  | .ex e r2 => Q (.ex e r2)
  | .bad => Q .bad
def kapp (fs' : OsF) (Q : OsR → Prop) : OsR → Prop
  | .ok hs r1 => wOs fs' r1 (kapp2 hs Q)
  | .ex e r1 => Q (.ex e r1)
  | .bad => Q .bad
theorem wOs_app {Q : OsR → Prop} : wOs (osApp fs fs') r Q = wOs fs r (kapp fs' Q) := by
  unfold wOs osApp
  cases fs r with
  | ok hs r1 => simp only [kapp, wOs]; cases fs' r1 <;> rfl
  | _ => rfl
def kN (n : Nat) (Q : OsR → Prop) : OsR → Prop
  | .ok hs r1 => (if hs.length = n then Q (.ok hs r1) else Q .bad)
  | .ex e r1 => Q (.ex e r1)
  | .bad => Q .bad
theorem wOs_N {Q : OsR → Prop} : wOs (osN n fs) r Q = wOs fs r (kN n Q) := by
  unfold wOs osN
  cases fs r with
  | ok hs r1 => simp only [kN]; split <;> rfl
  | _ => rfl
def kpick2 (r : Env) (Q : OsR → Prop) : Option (List Hd) → Prop
  | some ks => Q (.ok ks r)
  | none => Q .bad
def kpick (ix : List Nat) (Q : OsR → Prop) : OsR → Prop
  | .ok hs r1 => kpick2 r1 Q (pick ix hs)
  | .ex e r1 => Q (.ex e r1)
  | .bad => Q .bad
theorem wOs_pick {ix : List Nat} {Q : OsR → Prop} : wOs (osPick ix fs) r Q = wOs fs r (kpick ix Q) := by
  unfold wOs osPick
  cases fs r with
  | ok hs r1 => simp only [kpick]; cases pick ix hs <;> rfl
  | _ => rfl
end
/-! a reading becomes a run's value -/
theorem wG_ok {g : GF} {as : List (Bool × Val)} {o : Bool} {v : Val} {out : Option (Bool × Val)} : wG g as (fun x => x = .ok o v out) ↔ g as = .ok o v out := Iff.rfl
/-- a comprehension whose turns leave the slots as they are -/
theorem wC_map {α : Type} {t : TF} {c : BF} {f : EF} {sl : List Nat} {env : Env} {Q : AR → Prop} (y z : α → Val) (p : α → Bool) (xs : List α)
    (h : ∀ x ∈ xs, ∃ r1, t (y x) env = some r1 ∧ wB c r1 (fun s => s = .ok (p x) r1) ∧ wipeR r1 sl = env ∧ (p x = true → wE f r1 fun s => ∃ o r3, s = .ok o (z x) r3 ∧ wipeR r3 sl = env)) (hl : xs.length ≤ 100000)
    (q : Q (.ok ((xs.filter p).map z) env)) : wC t c f sl (xs.map y) [] env Q := by
  have : ∀ (xs : List α) (acc : List Val), (∀ x ∈ xs, ∃ r1, t (y x) env = some r1 ∧ wB c r1 (fun s => s = .ok (p x) r1) ∧ wipeR r1 sl = env ∧ (p x = true → wE f r1 fun s => ∃ o r3, s = .ok o (z x) r3 ∧ wipeR r3 sl = env)) → acc.length + xs.length ≤ 100000 →
      lcL t c f sl (xs.map y) acc env = .ok (acc ++ (xs.filter p).map z) env := by
    intro xs
    induction xs with
    | nil => intro acc _ _; simp [lcL]
    | cons x xs ih =>
      intro acc h hl
      obtain ⟨r1, e1, e2, e3, e4⟩ := h x (by simp)
      unfold wB at e2
      rw [List.length_cons] at hl
      rw [List.map_cons, lcL]
      cases hp : p x with
      | false =>
        rw [hp] at e2
        simp only [e1, e2, e3]
        rw [ih acc (fun x' hx' => h x' (List.mem_cons_of_mem _ hx')) (by omega), List.filter_cons_of_neg (by simp [hp])]
      | true =>
        rw [hp] at e2
        obtain ⟨o, r3, e5, e6⟩ := e4 hp
        have ha : acc.length < 100000 := by omega
        simp only [e1, e2, frz, e5, e6, if_pos ha]
        rw [ih (acc ++ [z x]) (fun x' hx' => h x' (List.mem_cons_of_mem _ hx')) (by simp; omega), List.filter_cons_of_pos (by simp [hp])]
        simp
  unfold wC
  rw [this xs [] h (by simpa using hl)]
  simpa using q
/-! the equations by names -/
def kN_e1 := @kN.eq_1
def kN_e2 := @kN.eq_2
def kN_e3 := @kN.eq_3
def kT_e1 := @kT.eq_1
def kT_e2 := @kT.eq_2
def kTurn_e1 := @kTurn.eq_1
def kTurn_e2 := @kTurn.eq_2
def kTurn_e3 := @kTurn.eq_3
def kTurn_e4 := @kTurn.eq_4
def kTurnW_e1 := @kTurnW.eq_1
def kTurnW_e2 := @kTurnW.eq_2
def kTurnW_e3 := @kTurnW.eq_3
def kTurnW_e4 := @kTurnW.eq_4
def kU0_e1 := @kU0.eq_1
def kU0_e2 := @kU0.eq_2
def kU1_e1 := @kU1.eq_1
def kU1_e2 := @kU1.eq_2
def kU1_e3 := @kU1.eq_3
def kU2_e1 := @kU2.eq_1
def kU2_e2 := @kU2.eq_2
def kac_e1 := @kac.eq_1
def kac_e2 := @kac.eq_2
def kac_e3 := @kac.eq_3
def kac2_e1 := @kac2.eq_1
def kac2_e2 := @kac2.eq_2
def kac2_e3 := @kac2.eq_3
def kand_e1 := @kand.eq_1
def kand_e2 := @kand.eq_2
def kandV_e1 := @kandV.eq_1
def kandV_e2 := @kandV.eq_2
def kandV_e3 := @kandV.eq_3
def kandV_e4 := @kandV.eq_4
def kapp_e1 := @kapp.eq_1
def kapp_e2 := @kapp.eq_2
def kapp_e3 := @kapp.eq_3
def kapp2_e1 := @kapp2.eq_1
def kapp2_e2 := @kapp2.eq_2
def kapp2_e3 := @kapp2.eq_3
def kas2_e1 := @kas2.eq_1
def kas2_e2 := @kas2.eq_2
def kas2_e3 := @kas2.eq_3
def kas2_e4 := @kas2.eq_4
def kasT_e1 := @kasT.eq_1
def kasT_e2 := @kasT.eq_2
def kasT_e3 := @kasT.eq_3
def kasT2_e1 := @kasT2.eq_1
def kasT2_e2 := @kasT2.eq_2
def kasg_e1 := @kasg.eq_1
def kasg_e2 := @kasg.eq_2
def kasg_e3 := @kasg.eq_3
def kaug_e1 := @kaug.eq_1
def kaug_e2 := @kaug.eq_2
def kaug2_e1 := @kaug2.eq_1
def kaug2_e2 := @kaug2.eq_2
def kaug2_e3 := @kaug2.eq_3
def kaug2_e4 := @kaug2.eq_4
def kback_e1 := @kback.eq_1
def kback_e2 := @kback.eq_2
def kback_e3 := @kback.eq_3
def kc1_e1 := @kc1.eq_1
def kc1_e2 := @kc1.eq_2
def kcall_e1 := @kcall.eq_1
def kcall_e2 := @kcall.eq_2
def kcall_e3 := @kcall.eq_3
def kch0_e1 := @kch0.eq_1
def kch0_e2 := @kch0.eq_2
def kch0_e3 := @kch0.eq_3
def kch1_e1 := @kch1.eq_1
def kch1_e2 := @kch1.eq_2
def kch1_e3 := @kch1.eq_3
def kch2_e1 := @kch2.eq_1
def kch2_e2 := @kch2.eq_2
def kch3_e1 := @kch3.eq_1
def kch3_e2 := @kch3.eq_2
def kch3_e3 := @kch3.eq_3
def kch3b_e1 := @kch3b.eq_1
def kch3b_e2 := @kch3b.eq_2
def kch3b_e3 := @kch3b.eq_3
def kch4_e1 := @kch4.eq_1
def kch4_e2 := @kch4.eq_2
def kch5_e1 := @kch5.eq_1
def kch5_e2 := @kch5.eq_2
def kcons_e1 := @kcons.eq_1
def kcons_e2 := @kcons.eq_2
def kcons_e3 := @kcons.eq_3
def kcons2_e1 := @kcons2.eq_1
def kcons2_e2 := @kcons2.eq_2
def kcons2_e3 := @kcons2.eq_3
def kd1_e1 := @kd1.eq_1
def kd1_e2 := @kd1.eq_2
def kd2_e1 := @kd2.eq_1
def kd2_e2 := @kd2.eq_2
def kd3_e1 := @kd3.eq_1
def kd3_e2 := @kd3.eq_2
def kdef_e1 := @kdef.eq_1
def kdef_e2 := @kdef.eq_2
def kdef_e3 := @kdef.eq_3
def kdef_e4 := @kdef.eq_4
def kdp1_e1 := @kdp1.eq_1
def kdp1_e2 := @kdp1.eq_2
def kdp1_e3 := @kdp1.eq_3
def kdp2_e1 := @kdp2.eq_1
def kdp2_e2 := @kdp2.eq_2
def kdp2_e3 := @kdp2.eq_3
def kdp3_e1 := @kdp3.eq_1
def kdp3_e2 := @kdp3.eq_2
def kdrop_e1 := @kdrop.eq_1
def kdrop_e2 := @kdrop.eq_2
def kdrop_e3 := @kdrop.eq_3
def kds_e1 := @kds.eq_1
def kds_e2 := @kds.eq_2
def kds_e3 := @kds.eq_3
def kds2_e1 := @kds2.eq_1
def kds2_e2 := @kds2.eq_2
def kfor_e1 := @kfor.eq_1
def kfor_e2 := @kfor.eq_2
def kfor_e3 := @kfor.eq_3
def kfrz_e1 := @kfrz.eq_1
def kfrz_e2 := @kfrz.eq_2
def kfrz_e3 := @kfrz.eq_3
def kif_e1 := @kif.eq_1
def kif_e2 := @kif.eq_2
def kif_e3 := @kif.eq_3
def kif_e4 := @kif.eq_4
def kitR_e1 := @kitR.eq_1
def kitR_e2 := @kitR.eq_2
def kitR_e3 := @kitR.eq_3
def kitV_e1 := @kitV.eq_1
def kitV_e2 := @kitV.eq_2
def kitV_e3 := @kitV.eq_3
def kitV1_e1 := @kitV1.eq_1
def kitV1_e2 := @kitV1.eq_2
def kite_e1 := @kite.eq_1
def kite_e2 := @kite.eq_2
def kite_e3 := @kite.eq_3
def kite_e4 := @kite.eq_4
def klc_e1 := @klc.eq_1
def klc_e2 := @klc.eq_2
def klc_e3 := @klc.eq_3
def klc2_e1 := @klc2.eq_1
def klc2_e2 := @klc2.eq_2
def kls_e1 := @kls.eq_1
def kls_e2 := @kls.eq_2
def kls_e3 := @kls.eq_3
def kls_e4 := @kls.eq_4
def kls2_e1 := @kls2.eq_1
def kls2_e2 := @kls2.eq_2
def klst_e1 := @klst.eq_1
def klst_e2 := @klst.eq_2
def klst_e3 := @klst.eq_3
def kmu_e1 := @kmu.eq_1
def kmu_e2 := @kmu.eq_2
def kmu1_e1 := @kmu1.eq_1
def kmu1_e2 := @kmu1.eq_2
def kmu1_e3 := @kmu1.eq_3
def kmu2_e1 := @kmu2.eq_1
def kmu2_e2 := @kmu2.eq_2
def kmu3_e1 := @kmu3.eq_1
def kmu3_e2 := @kmu3.eq_2
def kmv_e1 := @kmv.eq_1
def kmv_e2 := @kmv.eq_2
def knot_e1 := @knot.eq_1
def knot_e2 := @knot.eq_2
def knotV_e1 := @knotV.eq_1
def knotV_e2 := @knotV.eq_2
def knotV_e3 := @knotV.eq_3
def koS_e1 := @koS.eq_1
def koS_e2 := @koS.eq_2
def koTy_e1 := @koTy.eq_1
def koTy_e2 := @koTy.eq_2
def koTy_e3 := @koTy.eq_3
def koTy2_e1 := @koTy2.eq_1
def koTy2_e2 := @koTy2.eq_2
def koV_e1 := @koV.eq_1
def koV_e2 := @koV.eq_2
def koV_e3 := @koV.eq_3
def kor_e1 := @kor.eq_1
def kor_e2 := @kor.eq_2
def korV_e1 := @korV.eq_1
def korV_e2 := @korV.eq_2
def korV_e3 := @korV.eq_3
def korV_e4 := @korV.eq_4
def kp1_e1 := @kp1.eq_1
def kp1_e2 := @kp1.eq_2
def kp2_e1 := @kp2.eq_1
def kp2_e2 := @kp2.eq_2
def kpInt_e1 := @kpInt.eq_1
def kpInt_e2 := @kpInt.eq_2
def kpInt_e3 := @kpInt.eq_3
def kpInt_e4 := @kpInt.eq_4
def kpick_e1 := @kpick.eq_1
def kpick_e2 := @kpick.eq_2
def kpick_e3 := @kpick.eq_3
def kpick2_e1 := @kpick2.eq_1
def kpick2_e2 := @kpick2.eq_2
def kprim_e1 := @kprim.eq_1
def kprim_e2 := @kprim.eq_2
def kprim_e3 := @kprim.eq_3
def kret_e1 := @kret.eq_1
def kret_e2 := @kret.eq_2
def kret_e3 := @kret.eq_3
def kseq_e1 := @kseq.eq_1
def kseq_e2 := @kseq.eq_2
def ksl1_e1 := @ksl1.eq_1
def ksl1_e2 := @ksl1.eq_2
def ksl1_e3 := @ksl1.eq_3
def ksl2_e1 := @ksl2.eq_1
def ksl2_e2 := @ksl2.eq_2
def ksl2_e3 := @ksl2.eq_3
def ksl3_e1 := @ksl3.eq_1
def ksl3_e2 := @ksl3.eq_2
def ksl3_e3 := @ksl3.eq_3
def ksl4_e1 := @ksl4.eq_1
def ksl4_e2 := @ksl4.eq_2
def kstar_e1 := @kstar.eq_1
def kstar_e2 := @kstar.eq_2
def kstar_e3 := @kstar.eq_3
def kstar1_e1 := @kstar1.eq_1
def kstar1_e2 := @kstar1.eq_2
def kstar2_e1 := @kstar2.eq_1
def kstar2_e2 := @kstar2.eq_2
def kstar2_e3 := @kstar2.eq_3
def ksx_e1 := @ksx.eq_1
def ksx_e2 := @ksx.eq_2
def ksx_e3 := @ksx.eq_3
def ksx1_e1 := @ksx1.eq_1
def ksx1_e2 := @ksx1.eq_2
def ksx2_e1 := @ksx2.eq_1
def ksx2_e2 := @ksx2.eq_2
def ksx2_e3 := @ksx2.eq_3
def ksx3_e1 := @ksx3.eq_1
def ksx3_e2 := @ksx3.eq_2
def ksx4_e1 := @ksx4.eq_1
def ksx4_e2 := @ksx4.eq_2
def ktst_e1 := @ktst.eq_1
def ktst_e2 := @ktst.eq_2
def ktst_e3 := @ktst.eq_3
def ktst_e4 := @ktst.eq_4
def ktup_e1 := @ktup.eq_1
def ktup_e2 := @ktup.eq_2
def ktup_e3 := @ktup.eq_3
def kvar_e1 := @kvar.eq_1
def kvar_e2 := @kvar.eq_2
def kvar_e3 := @kvar.eq_3
end M
/-! MPV: plain facts of values: names, dicts with text keys, ranges, what is in. -/
namespace M
open PySem L2

/-! texts by their signs -/
def mk (l : List Nat) : Str := ⟨l.toArray⟩
theorem mk_list (a : List Nat) : (mk a).cps.toList = a := by simp [mk]
theorem mk_eta (s : Str) : mk s.cps.toList = s := by
  show (⟨s.cps.toList.toArray⟩ : Str) = s
  simp
theorem mk_inj {a b : List Nat} (h : mk a = mk b) : a = b := by
  have : (mk a).cps.toList = (mk b).cps.toList := by rw [h]
  simpa [mk] using this
theorem mk_len (a : List Nat) : (mk a).length = a.length := by show a.toArray.size = _; simp
theorem mk_app (a b : List Nat) : mk a ++ mk b = mk (a ++ b) := by
  show (⟨a.toArray ++ b.toArray⟩ : Str) = _
  simp [mk]
/-- a name of a row -/
def IsName (s : Str) : Prop := ∃ l : List Nat, s = mk l ∧ 1 ≤ l.length ∧ l.length ≤ 8 ∧ ∀ c ∈ l, 97 ≤ c ∧ c ≤ 122
def CpOk (s : Str) : Prop := ∀ c ∈ s.cps.toList, c < 0x110000
theorem IsName.cp {s : Str} (h : IsName s) : CpOk s := by
  obtain ⟨l, rfl, _, _, h⟩ := h
  intro c hc
  rw [mk_list] at hc
  have := h c hc
  omega
theorem IsName.len {s : Str} (h : IsName s) : 1 ≤ s.length ∧ s.length ≤ 8 := by
  obtain ⟨l, rfl, h1, h2, _⟩ := h
  rw [mk_len]; exact ⟨h1, h2⟩
theorem padd_mk (a b : List Nat) (h : a.length + b.length ≤ 100000) : Padd [.str (mk a), .str (mk b)] = some (false, .str (mk (a ++ b))) := by
  rw [padd_str _ _ (by rw [mk_len, mk_len]; exact h), mk_app]
/-! lists of texts -/
def unstr : Val → Str
  | .str s => s
  | _ => ⟨#[]⟩
theorem unstr_map (ss : List Str) : (ss.map Val.str).map unstr = ss := by
  rw [List.map_map]
  exact (List.map_congr_left (fun _ _ => rfl)).trans (List.map_id ss)
theorem perm_strs {ys : List Val} {ss : List Str} (h : ys.Perm (ss.map Val.str)) : ∃ zs : List Str, ys = zs.map Val.str ∧ zs.Perm ss := by
  refine ⟨ys.map unstr, ?_, ?_⟩
  · rw [List.map_map]
    refine ((List.map_congr_left fun y hy => ?_).trans (List.map_id ys)).symm
    obtain ⟨s, _, rfl⟩ := List.mem_map.mp (h.subset hy)
    rfl
  · have := h.map unstr
    rwa [unstr_map] at this
/-! ranges -/
def nums (n : Nat) : List Val := (List.range n).map fun k => .int (k : Nat)
theorem upTo_nums (n : Nat) : M.upTo 0 n = nums n := by simp [M.upTo, nums]
theorem rng_nums (j : Int) (h : 0 ≤ j ∧ j < 1000000000) : rng1 [.int j] = some (nums j.toNat) := by
  simp only [rng1]
  rw [if_pos (small_ok h.1 (by omega)), upTo_nums]
theorem rng_nat (n : Nat) (h : n < 1000000000) : rng1 [.int (n : Nat)] = some (nums n) := by
  rw [rng_nums _ ⟨by omega, by omega⟩]; simp
theorem drop_step {α : Type} {l : List α} {k : Nat} {v : α} {vs : List α} (e : v :: vs = l.drop k) : ∃ h : k < l.length, v = l[k] ∧ vs = l.drop (k + 1) := by
  have h : k < l.length := by
    rcases Nat.lt_or_ge k l.length with z | z
    · exact z
    · rw [List.drop_eq_nil_of_le z] at e; cases e
  rw [List.drop_eq_getElem_cons h] at e
  cases e
  exact ⟨h, rfl, rfl⟩
theorem drop_end {α : Type} {l : List α} {k : Nat} (e : [] = l.drop k) (hk : k ≤ l.length) : k = l.length := by
  rcases Nat.lt_or_ge k l.length with z | z
  · rw [List.drop_eq_getElem_cons z] at e; cases e
  · omega
theorem nums_len (n : Nat) : (nums n).length = n := by simp [nums]
theorem nums_get {n k : Nat} (h : k < (nums n).length) : (nums n)[k] = .int (k : Nat) := by simp [nums]
theorem perm_erase {α : Type} : ∀ (l : List α) (n : Nat) (h : n < l.length), (l[n] :: l.eraseIdx n).Perm l
  | x :: l, 0, _ => by simp
  | x :: l, n + 1, h => by
    have := perm_erase l n (by simpa using h)
    simp only [List.getElem_cons_succ, List.eraseIdx_cons_succ]
    exact (List.Perm.swap _ _ _).trans (this.cons x)
theorem ixN_ok {n : Nat} {i : Int} (h0 : 0 ≤ i) (h1 : i < n) : ixN n i = some i.toNat := by
  unfold ixN
  rw [if_pos h0, if_pos h1]
theorem ixN_last {n : Nat} (h : 0 < n) : ixN n (-1) = some (n - 1) := by
  unfold ixN
  rw [if_neg (by decide), if_pos (by omega)]
  congr 1
  omega
theorem pix_lst {xs : List Val} {i : Int} (h0 : 0 ≤ i) (h1 : i.toNat < xs.length) : Pix [.lst xs, .int i] = some (false, xs[i.toNat]) := by
  simp only [Pix, atI, ixN_ok h0 (by omega : i < xs.length), Option.bind_some, List.getElem?_eq_getElem h1, Option.map_some]
theorem pix_tup {xs : List Val} {i : Int} (h0 : 0 ≤ i) (h1 : i.toNat < xs.length) : Pix [.tup xs, .int i] = some (false, xs[i.toNat]) := by
  simp only [Pix, atI, ixN_ok h0 (by omega : i < xs.length), Option.bind_some, List.getElem?_eq_getElem h1, Option.map_some]
theorem pix_strs {ss : List Str} {i : Int} (h0 : 0 ≤ i) (h1 : i.toNat < ss.length) : Pix [.lst (ss.map .str), .int i] = some (false, .str ss[i.toNat]) := by
  rw [pix_lst h0 (by simpa using h1)]; simp
theorem pix_tstrs {ss : List Str} {i : Int} (h0 : 0 ≤ i) (h1 : i.toNat < ss.length) : Pix [.tup (ss.map .str), .int i] = some (false, .str ss[i.toNat]) := by
  rw [pix_tup h0 (by simpa using h1)]; simp
theorem pix_last {xs : List Val} (h : 0 < xs.length) : Pix [.lst xs, .int (-1)] = some (false, xs[xs.length - 1]) := by
  simp only [Pix, atI, ixN_last h, Option.bind_some, List.getElem?_eq_getElem (by omega : xs.length - 1 < xs.length), Option.map_some]
theorem mapp {ds : List Val} {v : Val} (h : ds.length < 100000) : Mappend (.lst ds) [v] = some (.lst (ds ++ [v]), .non) := by
  simp only [Mappend]; rw [if_pos h]
/-! dicts with text keys -/
def sd (ps : List (Str × Val)) : List (Val × Val) := ps.map fun p => (.str p.1, p.2)
theorem dGet_sd (k : Str) : ∀ ps : List (Str × Val), dGet (sd ps) (.inr k) = ps.lookup k
  | [] => rfl
  | p :: ps => by
    have ih := dGet_sd k ps
    unfold dGet at ih ⊢
    simp only [sd, List.map_cons, List.find?_cons, M.keyIs, List.lookup] at ih ⊢
    cases h : k == p.1 with
    | true => simp
    | false => simpa using ih
theorem sd_any (k : Str) (ps : List (Str × Val)) : ((sd ps).any fun p => M.keyIs (.inr k) p.1) = decide (k ∈ ps.map (·.1)) := by
  rw [Bool.eq_iff_iff]
  simp only [sd, List.any_map, List.any_eq_true, Function.comp, M.keyIs, beq_iff_eq, decide_eq_true_eq, List.mem_map]
  constructor
  · rintro ⟨p, hp, e⟩; exact ⟨p, hp, e.symm⟩
  · rintro ⟨p, hp, e⟩; exact ⟨p, hp, e.symm⟩
theorem dPut_new {k : Str} {v : Val} {ps : List (Str × Val)} (h : k ∉ ps.map (·.1)) : dPut (sd ps) (.inr k) v = sd (ps ++ [(k, v)]) := by
  unfold dPut
  rw [sd_any, decide_eq_false h]
  simp [sd, M.kv]
theorem sd_len (ps : List (Str × Val)) : (sd ps).length = ps.length := by simp [sd]
theorem putIx_new {k : Str} {v : Val} {ps : List (Str × Val)} (h : k ∉ ps.map (·.1)) (hl : ps.length < 100000) : putIx (.dct false (sd ps)) (.str k) v = some (.dct false (sd (ps ++ [(k, v)]))) := by
  simp only [putIx, M.keyOf, sd_len]
  rw [if_pos hl, dPut_new h]
theorem pix_sd (k : Str) (ps : List (Str × Val)) : Pix [.dct false (sd ps), .str k] = (ps.lookup k).map fun d => (false, d) := by
  simp only [Pix, M.keyOf, dGet_sd]
theorem lookup_mem {α : Type} {k : Str} {v : α} : ∀ {ps : List (Str × α)}, ps.lookup k = some v → (k, v) ∈ ps
  | [], h => by cases h
  | (a, b) :: ps, h => by
    rw [List.lookup_cons] at h
    cases e : k == a with
    | true => rw [e] at h; cases h; rw [beq_iff_eq.mp e]; exact List.mem_cons_self
    | false => rw [e] at h; exact List.mem_cons_of_mem _ (lookup_mem h)
theorem lookup_some {α : Type} {k : Str} : ∀ {ps : List (Str × α)}, k ∈ ps.map (·.1) → ∃ v, ps.lookup k = some v
  | [], h => by cases h
  | (a, b) :: ps, h => by
    rw [List.lookup_cons]
    cases e : k == a with
    | true => exact ⟨b, rfl⟩
    | false =>
      refine lookup_some ?_
      rw [List.map_cons] at h
      rcases List.mem_cons.mp h with z | z
      · subst z; simp at e
      · exact z
theorem lookup_none {α : Type} {k : Str} : ∀ {ps : List (Str × α)}, k ∉ ps.map (·.1) → ps.lookup k = none
  | [], _ => rfl
  | (a, b) :: ps, h => by
    rw [List.lookup_cons]
    simp only [List.map_cons, List.mem_cons, not_or] at h
    rw [show (k == a) = false from beq_eq_false_iff_ne.mpr h.1]
    exact lookup_none h.2
theorem lookup_isSome {α : Type} (k : Str) (ps : List (Str × α)) : (ps.lookup k).isSome = decide (k ∈ ps.map (·.1)) := by
  by_cases h : k ∈ ps.map (·.1)
  · obtain ⟨v, e⟩ := lookup_some h
    rw [e, decide_eq_true h]; rfl
  · rw [lookup_none h, decide_eq_false h]; rfl
theorem pin_sd (k : Str) (ps : List (Str × Val)) : PinX [.str k, .dct false (sd ps)] = some (false, .bl (decide (k ∈ ps.map (·.1)))) := by
  simp only [PinX, orP, PinD, M.keyOf, dGet_sd, lookup_isSome]
theorem pnotin_sd (k : Str) (ps : List (Str × Val)) : PnotInX [.str k, .dct false (sd ps)] = some (false, .bl (!decide (k ∈ ps.map (·.1)))) := by
  simp only [PnotInX, orP, PnotInD, M.keyOf, dGet_sd, lookup_isSome]
theorem sd_keys (ps : List (Str × Val)) : (sd ps).map (·.1) = ps.map fun p => .str p.1 := by simp [sd]
/-! what is in a list, in a tuple -/
theorem eqv_str (a b : Str) : PyData.eqv (.str a) (.str b) = (a == b) := by simp [PyData.eqv]
theorem any_strs (x : Str) (ss : List Str) : ((ss.map PyData.str).any fun z => PyData.eqv z (.str x)) = decide (x ∈ ss) := by
  rw [Bool.eq_iff_iff]
  simp only [List.any_map, List.any_eq_true, Function.comp, eqv_str, beq_iff_eq, decide_eq_true_eq]
  constructor
  · rintro ⟨p, hp, e⟩; rw [← e]; exact hp
  · intro h; exact ⟨x, h, rfl⟩
theorem shp_str {s : Str} (h : CpOk s) : shp (.str s) = true := by
  have hs : PyData.strOk s = true := by
    unfold PyData.strOk
    rw [Array.all_eq_true_iff_forall_mem]
    intro c hc
    exact decide_eq_true (h c (by simpa using hc))
  show SeqAt.shaped _ = true
  simp [SeqAt.shaped, PyData.canLay0, PyData.depth, hs]
theorem pin_tup (x : Str) (ss : List Str) : PinX [.str x, .tup (ss.map .str)] = some (false, .bl (decide (x ∈ ss))) := by
  have h1 : (ss.map PyData.str).all flatD = true := by simp [flatD]
  simp only [PinX, orP, PinD, Pin, inOf, inTup, toD, toDs_strs, flatD, h1, and_self, if_true, Option.map_some, any_strs]
theorem pnotin_tup (x : Str) (ss : List Str) : PnotInX [.str x, .tup (ss.map .str)] = some (false, .bl (!decide (x ∈ ss))) := by
  have h1 : (ss.map PyData.str).all flatD = true := by simp [flatD]
  simp only [PnotInX, orP, PnotInD, PnotIn, inOf, inTup, toD, toDs_strs, flatD, h1, and_self, if_true, Option.map_some, any_strs]
theorem pin_lst (x : Str) (ss : List Str) (hx : CpOk x) (h : ∀ s ∈ ss, CpOk s) : PinX [.str x, .lst (ss.map .str)] = some (false, .bl (decide (x ∈ ss))) := by
  simp only [PinX, orP, PinD, Pin, inOf, toD, toDs_strs, shp_str hx, shp_strs ss h, and_self, if_true, any_strs]
theorem pnotin_lst (x : Str) (ss : List Str) (hx : CpOk x) (h : ∀ s ∈ ss, CpOk s) : PnotInX [.str x, .lst (ss.map .str)] = some (false, .bl (!decide (x ∈ ss))) := by
  simp only [PnotInX, orP, PnotInD, PnotIn, inOf, toD, toDs_strs, shp_str hx, shp_strs ss h, and_self, if_true, any_strs]
theorem peq_nilX (ss : List Str) (h : ∀ s ∈ ss, CpOk s) : PeqX [.lst (ss.map .str), .lst []] = some (false, .bl (decide (ss = []))) := by
  have := peq_nil ss h
  simpa [PeqX, orP, PeqS] using this
theorem peqI (i j : Int) : PeqX [.int i, .int j] = some (false, .bl (decide (i = j))) := by
  simp only [PeqX, orP, PeqS]
  congr 2
theorem peqT (i j : Str) : PeqX [.str i, .str j] = some (false, .bl (decide (i = j))) := by
  simp only [PeqX, orP, PeqS]
  congr 2
theorem pneT (i j : Str) : PneX [.str i, .str j] = some (false, .bl (!decide (i = j))) := by
  simp only [PneX, orP, PneS]
  congr 2
theorem pneI (i j : Int) : PneX [.int i, .int j] = some (false, .bl (!decide (i = j))) := by
  simp only [PneX, orP, PneS]
  congr 2
theorem asStrs_map (ss : List Str) : asStrs (ss.map Val.str) = some ss := by
  induction ss with
  | nil => rfl
  | cons s ss ih => simp [asStrs, ih]
/-! sums and products of nums that stay small -/
theorem pmodI {i j : Int} (h : 0 < j) : Pmod [.int i, .int j] = some (false, .int (i % j)) := by
  simp only [Pmod]; rw [if_pos h]
/-! of which type -/
abbrev tyNs : List String := ["NoneType", "bool", "int", "str", "tuple", "list", "dict"]
abbrev tyTs : List String := ["str", "tuple", "list", "dict", "int", "bool"]
theorem kit_tab : ∀ a ∈ tyNs, ∀ T ∈ tyTs, kitB a T = some (a == T || (a == "bool" && T == "int")) := by decide +kernel
def isI (T : String) (v : Val) : Bool := match tyOf v with
  | some a => a == T || (a == "bool" && T == "int")
  | none => false
theorem tyOf_mem {v : Val} {a : String} (h : tyOf v = some a) : a ∈ tyNs := by
  cases v <;> simp only [tyOf, Option.some.injEq, reduceCtorEq] at h <;> subst h <;> simp
theorem pisi_ok {v : Val} {T : String} (hv : (tyOf v).isSome = true) (hT : T ∈ tyTs) : Pisi [v, .ty T] = some (false, .bl (isI T v)) := by
  cases h : tyOf v with
  | none => rw [h] at hv; cases hv
  | some a => simp only [Pisi, isI, h, kit_tab a (tyOf_mem h) T hT, Option.map_some]
theorem isi_tt (xs : List Val) : Pisi [.tup xs, .ty "tuple"] = some (false, .bl true) := pisi_ok rfl (by simp)
theorem isi_ss (s : Str) : Pisi [.str s, .ty "str"] = some (false, .bl true) := pisi_ok rfl (by simp)
/-! slices -/
theorem cut_to {α : Type} (xs : List α) (n : Nat) : cutA xs none (some (n : Int)) = xs.take n := by
  unfold cutA
  have h1 : HT.sIx xs.length 0 none = 0 := rfl
  have h2 : HT.sIx xs.length xs.length (some (n : Int)) = min n xs.length := by
    show min ((n : Int)).toNat xs.length = _
    simp
  rw [h1, h2]
  simp only [Nat.sub_zero, List.drop_zero]
  rcases Nat.le_total n xs.length with h | h
  · rw [Nat.min_eq_left h]
  · rw [Nat.min_eq_right h, List.take_of_length_le h, List.take_of_length_le (Nat.le_refl _)]
theorem cut_from {α : Type} (xs : List α) (n : Nat) : cutA xs (some (n : Int)) none = xs.drop n := by
  unfold cutA
  have h1 : HT.sIx xs.length 0 (some (n : Int)) = min n xs.length := by
    show min ((n : Int)).toNat xs.length = _
    simp
  have h2 : HT.sIx xs.length xs.length none = xs.length := rfl
  rw [h1, h2]
  rcases Nat.le_total n xs.length with h | h
  · rw [Nat.min_eq_left h, List.take_of_length_le (by simp)]
  · rw [Nat.min_eq_right h, List.drop_of_length_le h]; simp
theorem cut_but {α : Type} (xs : List α) : cutA xs none (some (-1)) = xs.dropLast := by
  unfold cutA
  have h1 : HT.sIx xs.length 0 none = 0 := rfl
  have h2 : HT.sIx xs.length xs.length (some (-1)) = xs.length - 1 := by
    unfold HT.sIx
    simp only []
    rw [if_pos (by decide)]
    omega
  rw [h1, h2]
  simp [List.dropLast_eq_take]
/-! comprehensions over values -/
theorem wC_mapV {t : TF} {c : BF} {f : EF} {sl : List Nat} {env : Env} {Q : AR → Prop} (z : Val → Val) (p : Val → Bool) (xs : List Val)
    (h : ∀ x ∈ xs, ∃ r1, t x env = some r1 ∧ wB c r1 (fun s => s = .ok (p x) r1) ∧ wipeR r1 sl = env ∧ (p x = true → wE f r1 fun s => ∃ o r3, s = .ok o (z x) r3 ∧ wipeR r3 sl = env)) (hl : xs.length ≤ 100000)
    (q : Q (.ok ((xs.filter p).map z) env)) : wC t c f sl xs [] env Q := by
  have := wC_map (t := t) (c := c) (f := f) (sl := sl) (env := env) (Q := Q) (fun x => x) z p xs h hl q
  rwa [List.map_id'] at this
theorem filter_yes {α : Type} (xs : List α) : xs.filter (fun _ => true) = xs := List.filter_eq_self.mpr (by simp)
theorem pall_map {α : Type} (f : α → Bool) (xs : List α) : Pall [.lst (xs.map fun x => .bl (f x))] = some (false, .bl (xs.all f)) := by
  have : asBls (xs.map fun x => Val.bl (f x)) = some (xs.map f) := by
    have := asBls_comp f xs
    simpa [Function.comp_def] using this
  simp only [Pall, this, Option.map_some]
  congr 3
  rw [List.all_map]; rfl
theorem pany_map {α : Type} (f : α → Bool) (xs : List α) : Pany [.lst (xs.map fun x => .bl (f x))] = some (false, .bl (xs.any f)) := by
  have : asBls (xs.map fun x => Val.bl (f x)) = some (xs.map f) := by
    have := asBls_comp f xs
    simpa [Function.comp_def] using this
  simp only [Pany, this, Option.map_some]
  congr 3
  rw [List.any_map]; rfl
/-! len(set(..)) -/
theorem metS_mem {ss : List Str} : ∀ {i : Nat}, i ≤ ss.length → ∀ k, k ∈ metS ss i ↔ k ∈ ss.take i
  | 0, _, k => by simp [metS]
  | i + 1, h, k => by
    have hi : i < ss.length := h
    have ih := metS_mem (ss := ss) (i := i) (by omega)
    rw [metS, List.getElem?_eq_getElem hi, List.take_succ_eq_append_getElem hi]
    simp only
    split
    · rename_i hx
      rw [ih k]
      simp only [List.mem_append, List.mem_singleton]
      constructor
      · exact .inl
      · rintro (z | z)
        · exact z
        · obtain ⟨y, hy, e⟩ := List.any_eq_true.mp hx
          rw [z, ← beq_iff_eq.mp e]; exact (ih y).mp hy
    · simp only [List.mem_append, ih k]
theorem metS_nodup {ss : List Str} : ∀ {i : Nat}, i ≤ ss.length → (metS ss i).length ≤ i ∧ ((metS ss i).length = i ↔ (ss.take i).Nodup)
  | 0, _ => by simp [metS]
  | i + 1, h => by
    have hi : i < ss.length := h
    have ih := metS_nodup (ss := ss) (i := i) (by omega)
    have mm := metS_mem (ss := ss) (i := i) (by omega)
    rw [metS, List.getElem?_eq_getElem hi, List.take_succ_eq_append_getElem hi]
    have nd : (ss.take i ++ [ss[i]]).Nodup ↔ (ss.take i).Nodup ∧ ss[i] ∉ ss.take i := by
      rw [List.nodup_append]
      constructor
      · rintro ⟨h1, _, h3⟩; exact ⟨h1, fun z => h3 _ z _ (by simp) rfl⟩
      · rintro ⟨h1, h2⟩; exact ⟨h1, by simp, fun a ha b hb e => h2 (by rw [List.mem_singleton.mp hb] at e; rw [← e]; exact ha)⟩
    rw [nd]
    simp only
    split
    · rename_i hx
      obtain ⟨y, hy, e⟩ := List.any_eq_true.mp hx
      rw [beq_iff_eq.mp e] at hy
      refine ⟨by omega, ⟨fun z => by omega, fun z => absurd ((mm _).mp hy) z.2⟩⟩
    · rename_i hx
      simp only [List.length_append, List.length_singleton]
      refine ⟨by omega, ?_⟩
      rw [Nat.add_right_cancel_iff, ih.2]
      constructor
      · intro z; exact ⟨z, fun y => hx (List.any_eq_true.mpr ⟨_, (mm _).mpr y, by simp⟩)⟩
      · exact fun z => z.1
theorem set_lt (ss : List Str) : decide (((metS ss ss.length).length : Int) < (ss.length : Int)) = !decide ss.Nodup := by
  have := metS_nodup (ss := ss) (Nat.le_refl _)
  rw [List.take_length] at this
  by_cases h : ss.Nodup
  · have e := this.2.mpr h
    rw [decide_eq_true h, e]; simp
  · have e : (metS ss ss.length).length ≠ ss.length := fun z => h (this.2.mp z)
    rw [decide_eq_false h]; simp; omega
theorem set_eq (ss : List Str) : decide (((metS ss ss.length).length : Int) = (ss.length : Int)) = decide ss.Nodup := by
  have := metS_nodup (ss := ss) (Nat.le_refl _)
  rw [List.take_length] at this
  by_cases h : ss.Nodup
  · have e := this.2.mpr h
    rw [decide_eq_true h, e]; simp
  · have e : (metS ss ss.length).length ≠ ss.length := fun z => h (this.2.mp z)
    rw [decide_eq_false h]; simp; omega
/-! == of a tuple of texts with () -/
theorem shp_tup (ss : List Str) (h : ∀ s ∈ ss, CpOk s) : shp (.tuple (ss.map .str)) = true := by
  have := shp_strs ss h
  revert this
  show SeqAt.shaped _ = true → SeqAt.shaped _ = true
  unfold SeqAt.shaped
  simp only [PyData.canLay0, PyData.depth]
  exact id
theorem peq_tnil (ss : List Str) (h : ∀ s ∈ ss, CpOk s) : PeqX [.tup (ss.map .str), .tup []] = some (false, .bl (decide (ss = []))) := by
  have h1 := shp_tup ss h
  have h2 := shp_tup [] (by simp)
  simp only [List.map_nil] at h2
  cases ss with
  | nil => simp [PeqX, orP, PeqS, Peq, toD, toDs, h2, PyData.eqv, PyData.eqvAll]
  | cons c cs =>
    simp only [List.map_cons] at h1
    simp [PeqX, orP, PeqS, Peq, toD, toDs, toDs_strs, h1, h2, PyData.eqv, PyData.eqvAll]
theorem zipV_map (as bs : List Str) : zipV (as.map .str) (bs.map .str) = (as.zip bs).map fun p => .tup [.str p.1, .str p.2] := by
  induction as generalizing bs with
  | nil => simp [zipV]
  | cons a as ih =>
    cases bs with
    | nil => simp [zipV]
    | cons b bs => simp [zipV, ih]
theorem findIdx_strs {x : Str} {ss : List Str} (h : x ∈ ss) : ∃ j, j < ss.length ∧ ss[j]? = some x ∧ (∀ i < j, ss[i]? ≠ some x) ∧ (ss.map PyData.str).findIdx? (fun z => PyData.eqv z (.str x)) = some j := by
  induction ss with
  | nil => cases h
  | cons s ss ih =>
    by_cases e : s = x
    · subst e
      exact ⟨0, by simp, rfl, by simp, by simp [List.findIdx?_cons, eqv_str]⟩
    · have : x ∈ ss := (List.mem_cons.mp h).resolve_left fun z => e z.symm
      obtain ⟨j, hj, h1, h2, h3⟩ := ih this
      refine ⟨j + 1, by simpa using hj, by simpa using h1, fun i hi => ?_, ?_⟩
      · cases i with
        | zero => simpa using e
        | succ i => simpa using h2 i (by omega)
      · rw [List.map_cons, List.findIdx?_cons, eqv_str, h3]
        simp [e]
theorem pindex_strs {x : Str} {ss : List Str} (h : x ∈ ss) (hx : CpOk x) (hc : ∀ s ∈ ss, CpOk s) : ∃ j : Nat, j < ss.length ∧ ss[j]? = some x ∧ (∀ i < j, ss[i]? ≠ some x) ∧ Pindex [.lst (ss.map .str), .str x] = some (false, .int (j : Nat)) := by
  obtain ⟨j, hj, h1, h2, h3⟩ := findIdx_strs h
  refine ⟨j, hj, h1, h2, ?_⟩
  simp only [Pindex, toDs_strs, toD]
  rw [if_pos ⟨shp_strs ss hc, shp_str hx⟩, h3]; rfl
theorem padd_l (xs ys : List Val) (h : xs.length + ys.length ≤ 100000) : Padd [.lst xs, .lst ys] = some (true, .lst (xs ++ ys)) := by
  simp only [Padd]; rw [if_pos h]
theorem padd_I (i j : Int) : Padd [.int i, .int j] = some (false, .int (i + j)) := rfl
theorem cut_fromI {α : Type} (xs : List α) {d : Int} (h : 0 ≤ d) : cutA xs (some d) none = xs.drop d.toNat := by
  obtain ⟨k, rfl⟩ := Int.eq_ofNat_of_zero_le h
  exact cut_from xs k
theorem cut_toI {α : Type} (xs : List α) {d : Int} (h : 0 ≤ d) : cutA xs none (some d) = xs.take d.toNat := by
  obtain ⟨k, rfl⟩ := Int.eq_ofNat_of_zero_le h
  exact cut_to xs k
theorem pmul_l (xs : List Val) (n : Nat) (h1 : n ≤ 100000) (h : xs.length * n ≤ 100000) : Pmul [.lst xs, .int (n : Nat)] = some (true, .lst (List.replicate n xs).flatten) := by
  simp only [Pmul, Int.toNat_natCast]; rw [if_pos ⟨by omega, by omega, h⟩]
end M
/-! MPU: how long a repr is. -/
namespace M
open PySem L2

mutual
/-- no less than the signs of a repr -/
def rsz : PyData → Nat
  | .none => 4
  | .bool _ => 5
  | .int i => (PySem.Str.ofString (toString i)).length
  | .str s => 10 * s.length + 2
  | .list xs => rszs xs + 2
  | .tuple xs => rszs xs + 3
  | .dict kvs => rszk kvs + 2
def rszs : List PyData → Nat
  | [] => 0
  | x :: xs => rsz x + 2 + rszs xs
def rszk : List (PyData × PyData) → Nat
  | [] => 0
  | (k, v) :: r => rsz k + rsz v + 4 + rszk r
end
mutual
/-- texts of Unicode signs alone -/
def txOk : PyData → Bool
  | .str s => PyData.strOk s
  | .list xs => txOks xs
  | .tuple xs => txOks xs
  | .dict kvs => txOkk kvs
  | _ => true
def txOks : List PyData → Bool
  | [] => true
  | x :: xs => txOk x && txOks xs
def txOkk : List (PyData × PyData) → Bool
  | [] => true
  | (k, v) :: r => txOk k && txOk v && txOkk r
end
theorem strOk_iff {s : Str} : PyData.strOk s = true ↔ CpOk s := by
  unfold PyData.strOk CpOk
  rw [Array.all_eq_true_iff_forall_mem]
  constructor
  · intro h c hc; exact of_decide_eq_true (h c (by simpa using hc))
  · intro h c hc; exact decide_eq_true (h c (by simpa using hc))
theorem join_le : ∀ ts : List Str, (Str.join ", " ts).length ≤ piled ts
  | [] => by show (0 : Nat) ≤ _; omega
  | t :: ts => by have := join_length_add (t :: ts) (by simp); omega
theorem textFrom_le : ∀ (ts : List Str) (k : Nat) (acc : Str), (textFrom k acc ts).length ≤ acc.length + piled ts := by
  intro ts
  induction ts with
  | nil => intro k acc; simp [textFrom, piled]
  | cons t ts ih =>
    intro k acc
    rw [textFrom, piled_cons]
    refine Nat.le_trans (ih _ _) ?_
    have e2 : ((", " : String) : Str).length = 2 := rfl
    have e3 : (("" : String) : Str).length = 0 := rfl
    split <;> simp only [strLen_append, e2, e3] <;> omega
mutual
theorem shown_le : ∀ d : PyData, txOk d = true → d.shown.length ≤ rsz d
  | .none, _ => by rw [PyData.shown, rsz]; decide
  | .bool b, _ => by rw [PyData.shown, rsz]; cases b <;> decide
  | .int i, _ => by rw [PyData.shown, rsz]; exact Nat.le_refl _
  | .str s, h => by
    rw [PyData.shown, rsz]
    rw [txOk, strOk_iff] at h
    exact PySem.StrLaws.reprText_len s fun c hc => Nat.lt_trans (h c hc) (by decide)
  | .list xs, h => by
    rw [PyData.shown, rsz]
    rw [txOk] at h
    have := shownAll_le xs h
    unfold listText
    rw [strLen_append]
    have := textFrom_le (PyData.shownAll xs) 0 "["
    have e1 : (("[" : String) : Str).length = 1 := rfl
    have e2 : (("]" : String) : Str).length = 1 := rfl
    omega
  | .tuple xs, h => by
    rw [PyData.shown, rsz]
    rw [txOk] at h
    have := shownAll_le xs h
    unfold tupleText
    rw [strLen_append, strLen_append]
    have := join_le (PyData.shownAll xs)
    have e1 : (("(" : String) : Str).length = 1 := rfl
    have e3 : (((if (PyData.shownAll xs).length == 1 then ",)" else ")" : String) : Str)).length ≤ 2 := by split <;> decide
    omega
  | .dict kvs, h => by
    rw [PyData.shown, rsz]
    rw [txOk] at h
    have := shownKv_le kvs h
    unfold dictText
    rw [strLen_append, strLen_append]
    have := join_le (PyData.shownKv kvs)
    have e1 : (("{" : String) : Str).length = 1 := rfl
    have e2 : (("}" : String) : Str).length = 1 := rfl
    omega
theorem shownAll_le : ∀ xs : List PyData, txOks xs = true → piled (PyData.shownAll xs) ≤ rszs xs
  | [], _ => by rw [PyData.shownAll, rszs]; exact Nat.le_refl _
  | x :: xs, h => by
    rw [PyData.shownAll, rszs, piled_cons]
    rw [txOks, Bool.and_eq_true] at h
    have := shown_le x h.1
    have := shownAll_le xs h.2
    omega
theorem shownKv_le : ∀ kvs : List (PyData × PyData), txOkk kvs = true → piled (PyData.shownKv kvs) ≤ rszk kvs
  | [], _ => by rw [PyData.shownKv, rszk]; exact Nat.le_refl _
  | (k, v) :: r, h => by
    rw [PyData.shownKv, rszk, piled_cons]
    rw [txOkk, Bool.and_eq_true, Bool.and_eq_true] at h
    have := shown_le k h.1.1
    have := shown_le v h.1.2
    have := shownKv_le r h.2
    have e2 : ((": " : String) : Str).length = 2 := rfl
    rw [strLen_append, strLen_append, e2]
    omega
end
theorem int_rsz {i : Int} (h : i.natAbs < 10 ^ 20) : rsz (.int i) ≤ 21 := by
  rw [rsz]
  have := int_text_length_le10 (a := i) (k := 20) (by decide) h
  rw [ofString_length]; exact this
end M
/-! MPO: objects: fields, methods, properties, classmethods, classes called. -/
namespace M
open PySem L2

section
variable {w : Wd} {G H : Hp} {x : V} {c : Str} {fs : List (Str × Val)}
theorem repF_nil {xs : List (Str × V)} : RepF w G [] xs ↔ xs = [] := by rw [RepF]
theorem repF_cons {k : Str} {d : Val} {ds : List (Str × Val)} {xs : List (Str × V)} : RepF w G ((k, d) :: ds) xs ↔ ∃ y ys, xs = (k, y) :: ys ∧ Rep w G d y ∧ RepF w G ds ys := by rw [RepF]
theorem repF_len : ∀ {ds : List (Str × Val)} {xs : List (Str × V)}, RepF w G ds xs → xs.length = ds.length
  | [], xs, h => by rw [repF_nil.mp h]; rfl
  | (k, d) :: ds, xs, h => by
    obtain ⟨y, ys, e, _, h2⟩ := repF_cons.mp h
    subst e
    simp [repF_len h2]
theorem repF_some {f : Str} {v : Val} : ∀ {ds : List (Str × Val)} {xs : List (Str × V)}, RepF w G ds xs → ds.lookup f = some v → ∃ y, xs.lookup f = some y ∧ Rep w G v y
  | [], _, _, e => by cases e
  | (k, d) :: ds, xs, h, e => by
    obtain ⟨y, ys, rfl, h1, h2⟩ := repF_cons.mp h
    rw [List.lookup_cons] at e ⊢
    cases q : f == k with
    | true => rw [q] at e; cases e; exact ⟨y, rfl, h1⟩
    | false => rw [q] at e; exact repF_some h2 e
theorem repF_none {f : Str} : ∀ {ds : List (Str × Val)} {xs : List (Str × V)}, RepF w G ds xs → ds.lookup f = none → xs.lookup f = none
  | [], xs, h, _ => by rw [repF_nil.mp h]; rfl
  | (k, d) :: ds, xs, h, e => by
    obtain ⟨y, ys, rfl, h1, h2⟩ := repF_cons.mp h
    rw [List.lookup_cons] at e ⊢
    cases q : f == k with
    | true => rw [q] at e; cases e
    | false => rw [q] at e; exact repF_none h2 e
/-- a field stored -/
def putV (f : Str) (v : Val) : List (Str × Val) → List (Str × Val)
  | [] => [(f, v)]
  | (g, x) :: r => if g = f then (g, v) :: r else (g, x) :: putV f v r
theorem repF_put {f : Str} {v : Val} {y : V} (r : Rep w G v y) : ∀ {ds : List (Str × Val)} {xs : List (Str × V)}, RepF w G ds xs → RepF w G (putV f v ds) (putF f y xs)
  | [], xs, h => by rw [repF_nil.mp h]; exact repF_cons.mpr ⟨y, [], rfl, r, repF_nil.mpr rfl⟩
  | (k, d) :: ds, xs, h => by
    obtain ⟨z, ys, rfl, h1, h2⟩ := repF_cons.mp h
    rw [putV, putF]
    by_cases e : k = f
    · rw [if_pos e, if_pos e]; exact repF_cons.mpr ⟨y, ys, rfl, r, h2⟩
    · rw [if_neg e, if_neg e]; exact repF_cons.mpr ⟨z, _, rfl, h1, repF_put r h2⟩
theorem rrep_obj (le : Le G H) : RRep w G H (.obj c fs) x → ∃ a C dx xs, x = .ref a ∧ H a = some (.ins C dx xs) ∧ w.CM c = some C ∧ RepF w G fs xs := fun h => by
  rcases h with h | ⟨a, e, r⟩
  · rw [Rep] at h
    obtain ⟨a, C, dx, xs, e, q, m, r⟩ := h
    exact ⟨a, C, dx, xs, e, le _ _ q, m, r⟩
  · obtain ⟨C, dx, xs, q, m, r⟩ := r
    exact ⟨a, C, dx, xs, e, q, m, r⟩
end
theorem tO_mono {A : Act} {W : WX} {f : OF} {σ : L2.St} {H : Hp} {Q Q' : V → Hp → Prop} (h : tO A W f σ H Q) (hi : ∀ x H1, Q x H1 → Q' x H1) : tO A W f σ H Q' := by
  obtain ⟨r, G, k, m⟩ := h
  refine ⟨r, G, k, ?_⟩
  cases hf : f r with
  | bad => rw [hf] at m; exact m.elim
  | ex e r' => rw [hf] at m; exact m
  | ok h r1 => rw [hf] at m; exact fun x G1 H1 k1 st t => hi _ _ (m x G1 H1 k1 st t)

/-! ### fields -/
/-- instances of these classes have f as a plain attribute -/
def FldOk (w : Wd) (cs : List Str) (f : Str) : Prop := ∀ c ∈ cs, ∃ C, w.CM c = some C ∧ Cls w.K C ∧ NoAttr w.K C f
def Pfld (cs : List Str) (f : Str) : List Val → Option (Bool × Val)
  | [.obj c fs] => if c ∈ cs then (fs.lookup f).map fun v => (false, v) else none
  | _ => none
theorem fld_of {w : Wd} {cs : List Str} {f : Str} {x : V} {H : Hp} {Q : VK} (hf : FldOk w cs f) (h : rOf w (Pfld cs f) [x] H Q) : ∃ a C dx fs v, x = .ref a ∧ H a = some (.ins C dx fs) ∧ Cls w.K C ∧ NoAttr w.K C f ∧ fs.lookup f = some v ∧ Q v H := by
  obtain ⟨G, vs, o, z, le, rr, hp, q⟩ := h
  unfold Pfld at hp
  split at hp
  · rename_i c fs
    split at hp
    · rename_i hc
      rw [Option.map_eq_some_iff] at hp
      obtain ⟨v, e, e2⟩ := hp
      cases e2
      obtain ⟨y, ey, r1⟩ := rreps_one rr
      cases ey
      obtain ⟨a, C, dx, xs, rfl, ha, hm, rf⟩ := rrep_obj le r1
      obtain ⟨y, ly, ry⟩ := repF_some rf e
      obtain ⟨C', hm', hcl, hna⟩ := hf c hc
      rw [hm] at hm'
      cases hm'
      exact ⟨a, C, dx, xs, y, rfl, ha, hcl, hna, ly, q y G H (Grow.refl le) (nrep_f ry)⟩
    · cases hp
  · cases hp
section
variable {X : Cx} {A : Act} {W : WX} {e o ve : Expr} {f : Str} {pos pos' : Pos} {fo : OF} {fe : EF} {cs : List Str} {i : Nat}
theorem pe_fldM (c : Cal X A.w) (hf : FldOk A.w cs f) (he : PE X e (tO A W fo)) (hb : attributeBase e f X.env (eval e X.env) = eval e X.env := by rfl) : PE X (.Attribute e f pos) (tE A W (prim (Pfld cs f) (osCons fo osNil))) :=
  PE.imp (pe_fld he hb) fun σ H Q q => tO_mono (prim_os1 q) fun x H1 h => by
    obtain ⟨a, C, dx, fs, v, h1, h2, h3, h4, h5, h6⟩ := fld_of hf h
    rw [c.K] at h3 h4
    exact ⟨a, C, dx, fs, v, h1, h2, h3, h4, h5, h6⟩
def setFld (cs : List Str) (i : Nat) (f : Str) (fe : EF) : SF := fun r => match frz fe r with
  | .ok _ v r1 => match r1[i]? with
    | some (some (true, .obj c fs)) => if c ∈ cs ∧ fs.length < 1000 then .nx (r1.set i (some (true, .obj c (putV f v fs)))) else .bad
    | _ => .bad
  | .ex e r1 => .ex e r1
  | .bad => .bad
theorem ps_setFld (c : Cal X A.w) (hf : FldOk A.w cs f) (ho : PE X o (tVar i)) (he : PE X ve (tE A W fe)) (hs : swapsWith ve (some (.Attribute o f pos')) pos.line X.env = pure false := by rfl) :
    PS X (.Assign [.Attribute o f pos'] ve pos) (tSt A W (setFld cs i f fe)) := by
  refine PS.imp (ps_fld ho (pe_frz he) hs) fun D σ H h => ?_
  obtain ⟨r, G, k, m⟩ := tSt_iff.mp h
  refine ⟨r, G, k, ?_⟩
  unfold setFld at m
  cases hf' : frz fe r with
  | bad => rw [hf'] at m; exact m.elim
  | ex e r' => rw [hf'] at m; exact m σ
  | ok o0 v r1 =>
    have eo := frz_false hf'
    subst eo
    simp only [hf'] at m ⊢
    intro x G1 H1 R1
    have k1 := R1.ok
    rcases q1 : r1[i]? with _ | _ | ⟨_ | _, d0⟩
    · simp only [q1] at m; exact m.elim
    · simp only [q1] at m; exact m.elim
    · simp only [q1] at m; exact m.elim
    · cases d0 with
      | obj cn fs =>
        simp only [q1] at m
        by_cases hc : cn ∈ cs ∧ fs.length < 1000
        · rw [if_pos hc] at m
          obtain ⟨a, e1, ⟨C, dx, xs, ha, hm, rf⟩, n, l⟩ := k1.ow i _ q1
          obtain ⟨C', hm', hcl, hna⟩ := hf cn hc.1
          rw [hm] at hm'
          cases hm'
          rw [c.K] at hcl hna
          refine ⟨.ref a, e1, a, C, dx, xs, rfl, ha, hcl, hna, by rw [repF_len rf]; exact hc.2, ?_⟩
          exact m σ G1 _ (k1.mut q1 e1 ⟨C, dx, _, upd_same, hm, repF_put R1.tr rf⟩) R1.st.ex
        · rw [if_neg hc] at m; exact m.elim
      | _ => simp only [q1] at m; exact m.elim
end
/-! ### a def by its positional arguments -/
def FnP (P : Program) (w : World) (K : PySem.W.Frag) (mg : Str → Option Value) (base : Heap) (CX : CXT) (k : Nat) (f : Addr) (sp : Sp) : Prop :=
  ∀ (A : Around) (outer : List PySem.Env) (s : Shared) (H : Hp) (us : List Value) (vs : List V) (Q : VK) (E : XK), RoomG k A → Env0 P w K mg base A outer s H → Vals vs us → sp vs H Q E → codeAny (model P w) A (.call (.ref f) ⟨us, []⟩) (CR CX outer P w H s Q E) s
section
variable {P : Program} {w : World} {K : PySem.W.Frag} {mg : Str → Option Value} {base : Heap} {CX : CXT} {k j : Nat} {f : Addr} {fd : FuncData} {ps : List Str} {sp : Sp}
theorem FnP.up (F : FnP P w K mg base CX j f sp) (h : j ≤ k) : FnP P w K mg base CX k f sp := fun A o s H us vs Q E hr => F A o s H us vs Q E (hr.le h)
theorem FnG.fnP (F : FnG P w K mg base CX k f fd ps sp) (hb : Binds K fd ps []) : FnP P w K mg base CX k f sp := fun A o s H us vs Q E hr e0 r h => by
  have hl : us.length = ps.length := by rw [← r.length]; exact F.len _ _ _ _ h
  have kin : K.In s.heap := e0.mod.kin.keeps fun b o e => (e0.bs b o e).1
  have b0 := hb s us kin (by simpa using hl)
  simp only [List.append_nil] at b0
  exact F.go A o s H ⟨us, []⟩ us vs Q E hr e0 b0 r h
end
theorem RoomG.in1 {k : Nat} {A : Around} (r : RoomG (k + 1) A) : RoomG k A.in1 := ⟨r.room.in1, r.gs⟩
theorem RoomG.make {k : Nat} {A : Around} (r : RoomG (k + 1) A) (C : Addr) (us : List Value) : RoomG k (A.under (.builtin "type.__call__" ⟨.ref C :: us, []⟩)) := ⟨r.room.make C us [], by
  have := r.gs
  first | exact this | (simp [Around.under, Code.isGuard, guardIds]; exact this)⟩
section
variable {X : Cx} {CX : CXT} {k : Nat} {f : Addr} {sp : Sp} {pins : List (Addr × Obj)} {σ : L2.St} {H : Hp} {s : Shared} {Q : VK} {E : XK} {us : List Value} {vs : List V}
theorem code_P (F : FnP X.prog X.w X.K X.mg X.base CX k f sp) (hr : RoomG k X.A) (hx : ∀ e s', CX X.stack H s E e s' → X.xe e s') (I : Inv X pins σ H s) (r : Vals vs us) (h : sp vs H Q E) :
    codeAny (model X.prog X.w) X.A (.call (.ref f) ⟨us, []⟩) (fun r s' => match r with | .ok (.ret v) => EP X pins σ Q v s' | .ok _ => False | .error e => X.xe e s') s := by
  refine codeAny_mono (F X.A X.stack s H us vs Q E hr I.env0 r h) fun r s' hq => ?_
  cases r with
  | error e => exact hx e s' hq
  | ok fl =>
    cases fl with
    | ret u => exact I.after hq
    | next => exact False.elim hq
    | brk => exact False.elim hq
    | cont => exact False.elim hq
theorem run_P (F : FnP X.prog X.w X.K X.mg X.base CX k f sp) (hr : RoomG k X.A) (hx : ∀ e s', CX X.stack H s E e s' → X.xe e s') (I : Inv X pins σ H s) (r : Vals vs us) (h : sp vs H Q E) :
    wpAny (model X.prog X.w) X.A (call (.ref f) us) (EP X pins σ Q) X.xe s := wpAny_call (code_P F hr hx I r h)
end

/-! ### methods -/
abbrev Tbl := List (Str × Nat × GF)
/-- an operand that is an instance of c without an attribute m of its own -/
def oCl (c m : Str) (fo : OF) : OF := fun r => match fo r with
  | .ok h r1 => match h.get r1 with
    | some (.obj c' fs) => if c' = c ∧ fs.lookup m = none then .ok h r1 else .bad
    | _ => .bad
  | .ex e r1 => .ex e r1
  | .bad => .bad
def callM (tbl : Tbl) (m : Str) (fo : OF) (fs : OsF) : EF := fun r => match fo r with
  | .ok h r1 => match h.get r1 with
    | some (.obj c _) => match tbl.lookup c with
      | some (n, g) => callG n g (osCons (oCl c m fo) fs) r
      | none => .bad
    | _ => .bad
  | .ex e r1 => .ex e r1
  | .bad => .bad
def IsC (w : Wd) (c m : Str) (x : V) (H : Hp) : Prop := ∃ a C dx xs, x = .ref a ∧ H a = some (.ins C dx xs) ∧ w.CM c = some C ∧ xs.lookup m = none
theorem oCl_of {A : Act} {W : WX} {c m : Str} {fo : OF} {σ : L2.St} {H : Hp} {Q : V → Hp → Prop} (h : tO A W (oCl c m fo) σ H Q) : tO A W fo σ H fun x H1 => IsC A.w c m x H1 ∧ Q x H1 := by
  obtain ⟨r, G, k, mm⟩ := h
  refine ⟨r, G, k, ?_⟩
  unfold oCl at mm
  cases hf : fo r with
  | bad => rw [hf] at mm; exact mm.elim
  | ex e r' => rw [hf] at mm; exact mm
  | ok h r1 =>
    simp only [hf] at mm
    cases hg : h.get r1 with
    | none => simp only [hg] at mm
    | some v =>
      cases v with
      | obj c' fs =>
        simp only [hg] at mm
        by_cases hc : c' = c ∧ fs.lookup m = none
        · rw [if_pos hc] at mm
          intro x G1 H1 k1 st t
          refine ⟨?_, mm x G1 H1 k1 st t⟩
          obtain ⟨a, C, dx, xs, e1, e2, e3, e4⟩ := rrep_obj k1.sub (t.get k1 hg)
          rw [hc.1] at e3
          exact ⟨a, C, dx, xs, e1, e2, e3, repF_none e4 hc.2⟩
        · rw [if_neg hc] at mm; exact mm.elim
      | _ => simp only [hg] at mm
theorem callM_of {A : Act} {W : WX} {tbl : Tbl} {m : Str} {fo : OF} {fs : OsF} {σ : L2.St} {H : Hp} {Q : VK} (h : tE A W (callM tbl m fo fs) σ H Q) :
    tO A W fo σ H fun x H1 => ∃ c n g, tbl.lookup c = some (n, g) ∧ IsC A.w c m x H1 ∧ tOs A W fs σ H1 fun vs H2 => spF A.w n g (x :: vs) H2 Q (fun cls d H3 => W cls d σ H3) := by
  obtain ⟨r, G, k, mm⟩ := h
  unfold callM at mm
  cases hf : fo r with
  | bad => rw [hf] at mm; exact mm.elim
  | ex e r' => rw [hf] at mm; exact ⟨r, G, k, by rw [hf]; exact mm⟩
  | ok h r1 =>
    simp only [hf] at mm
    cases hg : h.get r1 with
    | none => simp only [hg] at mm
    | some v =>
      cases v with
      | obj c fs0 =>
        simp only [hg] at mm
        cases ht : tbl.lookup c with
        | none => simp only [ht] at mm
        | some ng =>
          obtain ⟨n, g⟩ := ng
          simp only [ht] at mm
          have h2 : tE A W (callG n g (osCons (oCl c m fo) fs)) σ H Q := ⟨r, G, k, mm⟩
          exact tO_mono (oCl_of (os_cons (call_of h2))) fun x H1 ⟨i, q⟩ => ⟨c, n, g, ht, i, q⟩
      | _ => simp only [hg] at mm
theorem lookup_in {α : Type} {k : Str} {v : α} : ∀ {l : List (Str × α)}, l.lookup k = some v → (k, v) ∈ l
  | [], h => by cases h
  | (a, b) :: l, h => by
    rw [List.lookup_cons] at h
    cases e : k == a with
    | true => rw [e] at h; cases h; rw [beq_iff_eq.mp e]; exact List.mem_cons_self
    | false => rw [e] at h; exact List.mem_cons_of_mem _ (lookup_in h)
/-- the methods that a table tells -/
structure MthOk (X : Cx) (w : Wd) (lvl : Nat) (m : Str) (c : Str) (n : Nat) (g : GF) : Prop where
  ok : ∃ C f, w.CM c = some C ∧ Cls X.K C ∧ Meth X.K C m f ∧ FnP X.prog X.w X.K X.mg X.base (L2.CX X.prog X.w) lvl f (spF w n g)
def TblOk (Q : Str → Nat → GF → Prop) (tbl : Tbl) : Prop := ∀ p ∈ tbl, Q p.1 p.2.1 p.2.2
theorem tb_nil {Q : Str → Nat → GF → Prop} : TblOk Q [] := fun _ h => nomatch h
theorem tb_cons {Q : Str → Nat → GF → Prop} {c : Str} {n : Nat} {g : GF} {tbl : Tbl} (h : Q c n g) (t : TblOk Q tbl) : TblOk Q ((c, n, g) :: tbl) := fun p hp => (List.mem_cons.mp hp).elim (fun z => by subst z; exact h) (t p)
section
variable {X : Cx} {A : Act} {W : WX} {lvl : Nat} {m : Str} {o e : Expr} {es : List Expr} {tbl : Tbl} {fo : OF} {fs : OsF} {pos apos : Pos} {pl : Sem Bool}
theorem pe_callM (T : TblOk (MthOk X A.w lvl m) tbl) (hr : RoomG lvl X.A) (tk : Takes X W) (he : PE X o (tO A W fo)) (ha : PA X (e :: es) (tOs A W fs))
    (hst : starEach (e :: es) X.env = (false, eval e X.env) :: starEach es X.env := by rfl) (hpl : (backTo pos (starEach es X.env)).any (·.1) = false := by rfl)
    (ht : eval (.Call (.Attribute o m apos) (e :: es) [] pos) X.env = (do
      let ov ← eval o X.env
      standAt apos.atName
      let (f, first) ← holding [ov] (getMethod ov m pl)
      callWith pos f first (backTo pos (starEach (e :: es) X.env)) (backToKw pos (keywordEach [] X.env))) := by rfl) :
    PE X (.Call (.Attribute o m apos) (e :: es) [] pos) (tE A W (callM tbl m fo fs)) := by
  refine ⟨fun pins s σ H Q I h => ?_⟩
  refine PySem.W.methodCall_KW (pl := pl) (thn (he.run pins s σ H _ I (callM_of h)) fun u s1 ⟨x, H1, I1, rx, c, n, g, hl, ⟨a, C, dx, xs, ex, ea, hm, ln⟩, q⟩ => ?_) ht
  subst ex
  obtain rfl : u = Value.ref a := rx
  obtain ⟨C', f, hm', hcl, hme, F⟩ := (T _ (lookup_in hl)).ok
  rw [hm] at hm'
  cases hm'
  refine getmeth_ok I1 ea hcl hme ln ?_
  refine PySem.W.callWith_K (first := [.ref a]) (h₀ := X.base) I1.ok.mod.kin hme.kp (thn (ha.run pos pins s1 σ H1 _ I1 q) fun us s2 ⟨vs, H2, I2, r, q2⟩ => ⟨I2.kIn, ?_⟩) hst hpl
  exact run_P (us := .ref a :: us) (vs := .ref a :: vs) F hr (fun e s' z => tk e s' (XE.of_call I2 (fun _ _ _ y => y) z)) I2 (.cons rfl r) q2
theorem pe_callM0 (T : TblOk (MthOk X A.w lvl m) tbl) (hr : RoomG lvl X.A) (tk : Takes X W) (he : PE X o (tO A W fo))
    (ht : eval (.Call (.Attribute o m apos) [] [] pos) X.env = (do
      let ov ← eval o X.env
      standAt apos.atName
      let (f, first) ← holding [ov] (getMethod ov m pl)
      callWith pos f first (backTo pos (starEach [] X.env)) (backToKw pos (keywordEach [] X.env))) := by rfl) :
    PE X (.Call (.Attribute o m apos) [] [] pos) (tE A W (callM tbl m fo osNil)) := by
  refine ⟨fun pins s σ H Q I h => ?_⟩
  refine PySem.W.methodCall_KW (pl := pl) (thn (he.run pins s σ H _ I (callM_of h)) fun u s1 ⟨x, H1, I1, rx, c, n, g, hl, ⟨a, C, dx, xs, ex, ea, hm, ln⟩, ⟨r, G, kk, q⟩⟩ => ?_) ht
  subst ex
  obtain rfl : u = Value.ref a := rx
  obtain ⟨C', f, hm', hcl, hme, F⟩ := (T _ (lookup_in hl)).ok
  rw [hm] at hm'
  cases hm'
  refine getmeth_ok I1 ea hcl hme ln ?_
  have q2 := q [] G H1 kk Step.refl rfl
  exact PySem.W.callWith_K0 (first := [.ref a]) I1.kIn hme.kp (run_P (us := [.ref a]) (vs := [.ref a]) F hr (fun e s' z => tk e s' (XE.of_call I1 (fun _ _ _ y => y) z)) I1 (.cons rfl .nil) q2)
end
/-! ### properties -/
structure PrpOk (X : Cx) (w : Wd) (lvl : Nat) (m : Str) (c : Str) (n : Nat) (g : GF) : Prop where
  ok : ∃ C p f, w.CM c = some C ∧ Cls X.K C ∧ PropOf X.K C m p f ∧ FnP X.prog X.w X.K X.mg X.base (L2.CX X.prog X.w) lvl f (spF w n g)
/-- what lets no exception out -/
def noX (f : EF) : EF := fun r => match f r with
  | .ok o v r' => .ok o v r'
  | .ex _ _ => .bad
  | .bad => .bad
theorem noX_of {A : Act} {W W' : WX} {f : EF} {σ : L2.St} {H : Hp} {Q : VK} (h : tE A W (noX f) σ H Q) : tE A W' f σ H Q := by
  obtain ⟨r, G, k, m⟩ := h
  refine ⟨r, G, k, ?_⟩
  unfold noX at m
  cases hf : f r with
  | bad => rw [hf] at m; exact m.elim
  | ex e r' => rw [hf] at m; exact m.elim
  | ok o v r' => rw [hf] at m; exact m
theorem ExP.of0 {A : Act} {W : WX} {G : Hp} {σ : L2.St} {e : Val} {r : Env} (h : ExP A W0 G σ e r) : ExP A W G σ e r := by
  cases e with
  | exc c fs => exact fun G' H C d a b c' e' => (h G' H C d a b c' e').elim
  | _ => exact h
theorem tO_of0 {A : Act} {W : WX} {f : OF} {σ : L2.St} {H : Hp} {Q : V → Hp → Prop} (h : tO A W0 f σ H Q) : tO A W f σ H Q := by
  obtain ⟨r, G, k, m⟩ := h
  refine ⟨r, G, k, ?_⟩
  cases hf : f r with
  | bad => rw [hf] at m; exact m.elim
  | ex e r' => rw [hf] at m; exact m.of0
  | ok h r' => rw [hf] at m; exact m
section
variable {X : Cx} {A : Act} {W : WX} {lvl : Nat} {m : Str} {o : Expr} {tbl : Tbl} {fo : OF} {pos : Pos}
theorem getprop_P {CX : CXT} {k : Nat} {C p g a dx : Addr} {fs : List (Str × V)} {f : Str} {sp : Sp} {E : XK} {pins : List (Addr × Obj)} {σ : L2.St} {H : Hp} {s : Shared} {Q : VK} {b : Bool} (I : Inv X pins σ H s) (ea : H a = some (.ins C dx fs)) (c : Cls X.K C) (hp : PropOf X.K C f p g)
    (F : FnP X.prog X.w X.K X.mg X.base CX k g sp) (hr : RoomG (k + 1) X.A) (hx : ∀ e s', ¬ CX X.stack H { s with toks := s.toks + 1 } E e s') {Ex : Value → Shared → Prop} (h : sp [.ref a] H Q E) :
    wpAny (model X.prog X.w) X.A (getAttr (.ref a) f b) (EP X pins σ Q) Ex s := by
  obtain ⟨mA, O, _, _, _, _⟩ := ins_get I.hok ea
  obtain ⟨od, J, _⟩ := O.look
  obtain ⟨rest, hrec⟩ := hp.rec_
  have I1 := I.tok (s.toks + 1)
  have hc : (PySem.W.clsIn X.K C).isSome = true := by
    obtain ⟨cd, hc, _⟩ := PySem.W.any_some c.hd
    rw [hc]
    rfl
  refine PySem.W.get_bind I.kIn J (PySem.W.plainGet_of (c.get f)).1 (PySem.W.findObj_data hc hp.at_ hp.get hp.tak) (PySem.W.plainGet_of (c.get f)).2 (wpAny_call (PySem.W.prop_get (s := { s with toks := s.toks + 1 }) I.kIn hrec ?_))
  refine codeAny_mono (F X.A.in1 X.stack { s with toks := s.toks + 1 } H [.ref a] [.ref a] Q E hr.in1 I1.env0.in1 (.cons rfl .nil) h) fun r s' hq => ?_
  cases r with
  | error er => exact (hx er s' hq).elim
  | ok fl =>
    cases fl with
    | ret u =>
      obtain ⟨v, H', I3, rv, q3⟩ := I1.after hq
      show wpAny _ _ (handedOut u) _ _ _
      rw [PySem.W.handedOut_of (handed_of rv)]
      exact wpAny_pure ⟨v, H', I3, rv, q3⟩
    | next => exact False.elim hq
    | brk => exact False.elim hq
    | cont => exact False.elim hq
theorem pe_prp (T : TblOk (PrpOk X A.w lvl m) tbl) (hr : RoomG (lvl + 1) X.A) (he : PE X o (tO A W fo)) (hab : attributeBase o m X.env (eval o X.env) = eval o X.env := by rfl) :
    PE X (.Attribute o m pos) (tE A W (noX (callM tbl m fo osNil))) := by
  refine ⟨fun pins s σ H Q I h => ?_⟩
  refine attr_of hab (thn (he.run pins s σ H _ I (tO_of0 (callM_of (noX_of h)))) fun u s1 ⟨x, H1, I1, rx, c, n, g, hl, ⟨a, C, dx, xs, ex, ea, hm, ln⟩, ⟨r, G, kk, q⟩⟩ => ?_)
  subst ex
  obtain rfl : u = Value.ref a := rx
  obtain ⟨C', p, f, hm', hcl, hpo, F⟩ := (T _ (lookup_in hl)).ok
  rw [hm] at hm'
  cases hm'
  have q2 := q [] G H1 kk Step.refl rfl
  exact getprop_P I1 ea hcl hpo F hr (fun e s' ⟨_, _, _, _, _, _, _, _, _, _, _, _, z⟩ => z) q2
end
/-! ### a class called -/
def mkC (c : Str) (n : Nat) (g : GF) (f : OsF) : EF := fun r => match f r with
  | .ok hs r1 => match lend r1 hs with
    | some as => if lents as = 0 ∧ as.length + 1 = n then match g ((true, .obj c []) :: as) with
        | .ok false .non (some (true, v)) => .ok true v r1
        | .ex e _ => .ex e r1
        | _ => .bad
      else .bad
    | none => .bad
  | .ex e r1 => .ex e r1
  | .bad => .bad
theorem arel_app {w : Wd} {G H H' : Hp} : ∀ {as : List (Bool × Val)} {xs : List V}, lents as = 0 → ARel w G H as xs → ARel w G H' as xs
  | [], _, _, h => h
  | (true, v) :: as, _, z, _ => by simp [lents] at z
  | (false, v) :: as, _, z, ⟨y, ys, e, r, t⟩ => ⟨y, ys, e, r, arel_app (by simpa [lents] using z) t⟩
theorem mkC_of {A : Act} {W : WX} {c : Str} {n : Nat} {g : GF} {f : OsF} {C : Addr} {σ : L2.St} {H : Hp} {Q : VK} (hC : A.w.CM c = some C) (h : tE A W (mkC c n g f) σ H Q) :
    tOs A W f σ H fun vs H1 => ∀ x dx, H1 x = none → H1 dx = none → dx ≠ x → spF A.w n g (.ref x :: vs) (upd (upd H1 dx (.own x)) x (.ins C dx [])) (fun v H2 => v = .non ∧ Q (.ref x) H2) (fun cls d H2 => W cls d σ H2) := by
  obtain ⟨r, G, k, m⟩ := h
  refine ⟨r, G, k, ?_⟩
  unfold mkC at m
  cases hf : f r with
  | bad => rw [hf] at m; exact m.elim
  | ex e r' => rw [hf] at m; exact m
  | ok hs r1 =>
    simp only [hf] at m
    intro xs G1 H1 k1 st1 t1 x dx hx hdx hne
    cases hl : lend r1 hs with
    | none => simp only [hl] at m
    | some as =>
      simp only [hl] at m
      by_cases hc : lents as = 0 ∧ as.length + 1 = n
      · simp only [if_pos hc] at m
        have ar := lend_rel k1 hl t1
        have gx : G1 x = none := k1.sub.back hx
        obtain ⟨H2, hH2⟩ : ∃ H2, H2 = upd (upd H1 dx (.own x)) x (.ins C dx []) := ⟨_, rfl⟩
        have up : ∀ a o, H1 a = some o → H2 a = some o := fun a o e => by
          have n1 : a ≠ x := fun z => by rw [z, hx] at e; cases e
          have n2 : a ≠ dx := fun z => by rw [z, hdx] at e; cases e
          rw [hH2, upd_ne n1, upd_ne n2]; exact e
        have sub2 : Le G1 H2 := fun a o e => up a o (k1.sub a o e)
        have at2 : H2 x = some (.ins C dx []) := by rw [hH2, upd_same]
        have root : Root A.w G1 H2 (.obj c []) x := ⟨C, dx, [], at2, hC, repF_nil.mpr rfl⟩
        have ar2 : ARel A.w G1 H2 ((true, .obj c []) :: as) (.ref x :: xs) := ⟨x, xs, rfl, root, gx, arel_app hc.1 ar⟩
        have only : ∀ b, Lent ((true, .obj c []) :: as) (.ref x :: xs) b → b = x := fun b ⟨i, v, h1, h2⟩ => by
          cases i with
          | zero => simp at h2; exact h2.symm
          | succ i => exact absurd (by simpa using h1) (lents_zero hc.1 (p := i) (v := v))
        rw [← hH2]
        have len : (V.ref x :: xs).length = n := by rw [arel_length ar2]; simp; exact hc.2
        refine ⟨G1, (true, .obj c []) :: as, len, sub2, ar2, by rw [show lents ((true, Val.obj c []) :: as) = lents as + 1 by simp [lents]]; omega, ?_⟩
        have keep : ∀ {G' H' : Hp} {out : Option (Bool × Val)}, Post A.w G1 H2 ((true, .obj c []) :: as) (.ref x :: xs) out G' H' → Ok A G' H' σ r1 ∧ Le H1 H' ∧ (∀ a, G1 a = none → G' a ≠ none → H1 a = none) := fun {G' H' out} p => by
          have kp : Le H1 H' := fun a o e => p.kp a o (up a o e) fun z => by rw [only a z, hx] at e; cases e
          have gr : ∀ a, G1 a = none → G' a ≠ none → H1 a = none := fun a e1 e2 => by
            rcases p.gr a e1 e2 with z | z
            · cases q : H1 a with
              | none => rfl
              | some o => rw [up a o q] at z; cases z
            · rw [only a z]; exact hx
          exact ⟨k1.post0 p.g p.s gr kp, kp, gr⟩
        cases hg : g ((true, .obj c []) :: as) with
        | bad => simp only [hg] at m
        | ok o z out =>
          intro u G' H' p nr
          obtain ⟨k2, kp, gr⟩ := keep p
          cases o with
          | true => simp only [hg] at m
          | false =>
            cases z with
            | non =>
              rcases out with _ | ⟨_ | _, v⟩
              · simp only [hg] at m
              · simp only [hg] at m
              · simp only [hg] at m
                have ou := p.out x ⟨0, .obj c [], rfl, rfl⟩
                refine ⟨rep_non.mp (show Rep A.w G' .non u from nr), m (.ref x) G' H' ⟨k2, st1.trans ⟨p.g, fun a o e _ => kp a o e, fun a e1 e2 => .inl (gr a e1 e2), fun _ z => z⟩, ⟨x, rfl, ou.1, ou.2, k1.notRt hx, k1.fresh hx⟩, fun _ a ea => ?_⟩⟩
                cases ea
                exact st1.fresh hx
            | _ => simp only [hg] at m
        | ex e out =>
          simp only [hg] at m ⊢
          cases e with
          | exc ce fs =>
            intro G' H' Ce d p hCe hd
            obtain ⟨k2, kp, gr⟩ := keep p
            exact m G' H' Ce d k2 (st1.ex.trans p.g) hCe hd
          | _ => exact m
      · simp only [if_neg hc] at m
structure MkOk (X : Cx) (w : Wd) (lvl : Nat) (c : Str) (n : Nat) (g : GF) : Prop where
  ok : ∃ C f, w.CM c = some C ∧ Mk X.K C f ∧ FnP X.prog X.w X.K X.mg X.base (L2.CX X.prog X.w) lvl f (spF w n g)
section
variable {X : Cx} {A : Act} {W : WX} {lvl n i : Nat} {c x m : Str} {g : GF} {C f : Addr} {o e : Expr} {es : List Expr} {tbl : Tbl} {fo : OF} {fs : OsF} {p pos apos : Pos} {pl : Sem Bool} {pins : List (Addr × Obj)} {σ : L2.St} {H : Hp} {s : Shared} {Q : VK} {us : List Value} {vs : List V}
theorem run_mkP (M : Mk X.K C f) (F : FnP X.prog X.w X.K X.mg X.base (L2.CX X.prog X.w) lvl f (spF A.w n g)) (hr : RoomG (lvl + 1) X.A) (tk : Takes X W) (I : Inv X pins σ H s) (r : Vals vs us)
    (h : ∀ x dx, H x = none → H dx = none → dx ≠ x → spF A.w n g (.ref x :: vs) (upd (upd H dx (.own x)) x (.ins C dx [])) (fun v H2 => v = .non ∧ Q (.ref x) H2) (fun cls d H2 => W cls d σ H2)) :
    wpAny (model X.prog X.w) X.A (call (.ref C) us) (EP X pins σ Q) X.xe s := by
  have hq := h (s.heap.objs.size + 1) s.heap.objs.size (I.hok.fresh (Nat.le_succ _)) (I.hok.fresh (Nat.le_refl _)) (Nat.ne_of_lt (Nat.lt_succ_self _))
  have I2 := Inv.made (C := C) I
  have r2 : Vals (V.ref (s.heap.objs.size + 1) :: vs) (Value.ref (s.heap.objs.size + 1) :: us) := .cons rfl r
  refine wpAny_call (make_map (f := f) I.kIn M.makes M.init (beq_iff_eq.mp M.fn) (codeAny_mono (F _ X.stack _ _ (Value.ref (s.heap.objs.size + 1) :: us) _ _ _ (hr.make C us) (I2.env0.make C us []) r2 hq) fun r s' hq' => ?_))
  cases r with
  | error e => exact tk e s' (XE.of_call I2 (fun _ _ _ y => y) hq')
  | ok fl =>
    cases fl with
    | ret u =>
      obtain ⟨v, H', I3, rv, ev, q3⟩ := I2.after hq'
      subst ev
      exact ⟨rv, ⟨V.ref (s.heap.objs.size + 1), H', I3, rfl, q3⟩⟩
    | next => exact False.elim hq'
    | brk => exact False.elim hq'
    | cont => exact False.elim hq'
/-- C(e, ..), C a class of the module -/
theorem pe_mkN (mo : MkOk X A.w lvl c n g) (hr : RoomG (lvl + 1) X.A) (hg : Gl X x) (hm : ∃ C, X.mg x = some (.ref C) ∧ A.w.CM c = some C) (tk : Takes X W) (ha : PA X (e :: es) (tOs A W fs)) (hdb : (x == ("__debug__" : Str)) = false := by decide)
    (he : starEach (e :: es) X.env = (false, eval e X.env) :: starEach es X.env := by rfl) (hpl : (backTo pos (starEach es X.env)).any (·.1) = false := by rfl) : PE X (.Call (.Name x p) (e :: es) [] pos) (tE A W (mkC c n g fs)) := by
  obtain ⟨C, f, hC, hk, F⟩ := mo.ok
  obtain ⟨C', hm, hC'⟩ := hm
  rw [hC] at hC'
  cases hC'
  refine ⟨fun pins s σ H Q I h => ?_⟩
  have h2 := mkC_of hC h
  refine wpAny_Call_Name_kw (ld_glob I hg hm ?_ hdb)
  refine PySem.W.callWith_K (h₀ := X.base) I.ok.mod.kin hk.kp (wpAny_mono (ha.run pos pins s σ H _ I h2) (fun us s1 ⟨vs, H1, I1, r, q⟩ => ⟨I1.kIn, ?_⟩) fun _ _ z => z) he hpl
  exact run_mkP hk F hr tk I1 r q
theorem pe_mkN0 (mo : MkOk X A.w lvl c n g) (hr : RoomG (lvl + 1) X.A) (hg : Gl X x) (hm : ∃ C, X.mg x = some (.ref C) ∧ A.w.CM c = some C) (tk : Takes X W) (hdb : (x == ("__debug__" : Str)) = false := by decide) :
    PE X (.Call (.Name x p) [] [] pos) (tE A W (mkC c n g osNil)) := by
  obtain ⟨C, f, hC, hk, F⟩ := mo.ok
  obtain ⟨C', hm, hC'⟩ := hm
  rw [hC] at hC'
  cases hC'
  refine ⟨fun pins s σ H Q I h => ?_⟩
  obtain ⟨r, G, kk, q⟩ := mkC_of hC h
  have q2 := q [] G H kk Step.refl rfl
  refine wpAny_Call_Name_kw (ld_glob I hg hm ?_ hdb)
  exact PySem.W.callWith_K0 I.kIn hk.kp (run_mkP hk F hr tk I .nil q2)
/-- x(..), x a name that holds a class -/
def mkD (tbl : Tbl) (i : Nat) (fs : OsF) : EF := fun r => match r[i]? with
  | some (some (false, .cls c)) => match tbl.lookup c with
    | some (n, g) => mkC c n g fs r
    | none => .bad
  | _ => .bad
theorem mkD_of (h : tE A W (mkD tbl i fs) σ H Q) : ∃ c n g C, tbl.lookup c = some (n, g) ∧ A.w.CM c = some C ∧ σ[i]? = some (some (.ref C)) ∧ tE A W (mkC c n g fs) σ H Q := by
  obtain ⟨r, G, k, m⟩ := h
  unfold mkD at m
  rcases q : r[i]? with _ | _ | ⟨_ | _, v⟩
  · simp only [q] at m
  · simp only [q] at m
  · cases v with
    | cls c =>
      simp only [q] at m
      cases ht : tbl.lookup c with
      | none => simp only [ht] at m
      | some ng =>
        obtain ⟨n, g⟩ := ng
        simp only [ht] at m
        obtain ⟨x, e1, r1⟩ := k.fz i _ q
        rw [Rep] at r1
        obtain ⟨C, hC, rfl⟩ := r1
        exact ⟨c, n, g, C, ht, hC, e1, r, G, k, m⟩
    | _ => simp only [q] at m
  · simp only [q] at m
theorem pe_mkD0 (T : TblOk (MkOk X A.w lvl) tbl) (hr : RoomG (lvl + 1) X.A) (hN : X.N[i]? = some x) (hv : Vis X.env.scope x) (tk : Takes X W) (hdb : (x == ("__debug__" : Str)) = false := by decide) (hcd : (x == ("__classdict__" : Str)) = false := by decide) :
    PE X (.Call (.Name x p) [] [] pos) (tE A W (mkD tbl i osNil)) := by
  refine ⟨fun pins s σ H Q I h => ?_⟩
  obtain ⟨c, n, g, C, hl, hC, hs, h⟩ := mkD_of h
  obtain ⟨C', f, hC', hk, F⟩ := (T _ (lookup_in hl)).ok
  rw [hC] at hC'
  cases hC'
  obtain ⟨r, G, kk, q⟩ := mkC_of hC h
  have q2 := q [] G H kk Step.refl rfl
  refine wpAny_Call_Name_kw (thn ((pe_var (pos := p) hN hv hdb hcd).run pins s σ H (fun v H1 => v = .ref C ∧ H1 = H) I ⟨.ref C, hs, rfl, rfl⟩) fun u s1 ⟨v, H1, I1, r1, q1⟩ => ?_)
  obtain ⟨rfl, rfl⟩ := q1
  cases r1
  exact PySem.W.callWith_K0 I1.kIn hk.kp (run_mkP hk F hr tk I1 .nil q2)
theorem pe_mkD (T : TblOk (MkOk X A.w lvl) tbl) (hr : RoomG (lvl + 1) X.A) (hN : X.N[i]? = some x) (hv : Vis X.env.scope x) (tk : Takes X W) (ha : PA X (e :: es) (tOs A W fs)) (hdb : (x == ("__debug__" : Str)) = false := by decide) (hcd : (x == ("__classdict__" : Str)) = false := by decide)
    (he : starEach (e :: es) X.env = (false, eval e X.env) :: starEach es X.env := by rfl) (hpl : (backTo pos (starEach es X.env)).any (·.1) = false := by rfl) :
    PE X (.Call (.Name x p) (e :: es) [] pos) (tE A W (mkD tbl i fs)) := by
  refine ⟨fun pins s σ H Q I h => ?_⟩
  obtain ⟨c, n, g, C, hl, hC, hs, h⟩ := mkD_of h
  obtain ⟨C', f, hC', hk, F⟩ := (T _ (lookup_in hl)).ok
  rw [hC] at hC'
  cases hC'
  have h2 := mkC_of hC h
  refine wpAny_Call_Name_kw (thn ((pe_var (pos := p) hN hv hdb hcd).run pins s σ H (fun v H1 => v = .ref C ∧ H1 = H) I ⟨.ref C, hs, rfl, rfl⟩) fun u s1 ⟨v, H1, I1, r1, q1⟩ => ?_)
  obtain ⟨rfl, rfl⟩ := q1
  cases r1
  refine PySem.W.callWith_K (h₀ := X.base) I.ok.mod.kin hk.kp (wpAny_mono (ha.run pos pins s1 σ _ _ I1 h2) (fun us s2 ⟨vs, H2, I2, r, q⟩ => ⟨I2.kIn, ?_⟩) fun _ _ z => z) he hpl
  exact run_mkP hk F hr tk I2 r q
/-! ### classmethods of a class of the module -/
structure CmtOk (X : Cx) (w : Wd) (lvl : Nat) (m c : Str) (n : Nat) (g : GF) : Prop where
  ok : ∃ C mc p f, w.CM c = some C ∧ ClX.CRead X.K C mc ∧ ClX.CMet X.K C mc m p f ∧ FnP X.prog X.w X.K X.mg X.base (L2.CX X.prog X.w) lvl f (spF w n g)
theorem run_cmP {q : Addr} {sp : Sp} (F : FnP X.prog X.w X.K X.mg X.base (L2.CX X.prog X.w) lvl f sp) (hr : RoomG lvl X.A) (tk : Takes X W) (I : Inv X ((q, PySem.W.methodObj (.ref f) (.ref C)) :: pins) σ H s)
    (r : Vals vs us) (h : sp (.ref C :: vs) H Q (fun cls d H2 => W cls d σ H2)) : wpAny (model X.prog X.w) X.A (call (.ref q) us) (EP X pins σ Q) X.xe s := by
  have z : wpAny (model X.prog X.w) X.A (call (.ref q) us) (EP X ((q, PySem.W.methodObj (.ref f) (.ref C)) :: pins) σ Q) X.xe s :=
    wpAny_call (PySem.W.method_call (ClX.pin_at I) (code_P (us := .ref C :: us) (vs := .ref C :: vs) F hr (fun e s' y => tk e s' (XE.of_call I (fun _ _ _ y => y) y)) I (.cons rfl r) h))
  exact thn z fun _ _ y => ClX.unpinE y
theorem cls_first {Q : V → Hp → Prop} (hC : A.w.CM c = some C) (h : tO A W (oV (cst (.cls c))) σ H Q) : Q (.ref C) H := by
  obtain ⟨r, G, k, m⟩ := h
  exact m (.ref C) G H k Step.refl (show Rep A.w G (.cls c) (.ref C) by rw [Rep]; exact ⟨C, hC, rfl⟩)
/-- C.m(e, ..) -/
theorem pe_cmt (T : CmtOk X A.w lvl m c n g) (hr : RoomG lvl X.A) (hg : Gl X x) (hm : ∃ C, X.mg x = some (.ref C) ∧ A.w.CM c = some C) (tk : Takes X W) (ha : PA X (e :: es) (tOs A W fs)) (hdb : (x == ("__debug__" : Str)) = false := by decide)
    (hst : starEach (e :: es) X.env = (false, eval e X.env) :: starEach es X.env := by rfl) (hpl : (backTo pos (starEach es X.env)).any (·.1) = false := by rfl)
    (ht : eval (.Call (.Attribute (.Name x p) m apos) (e :: es) [] pos) X.env = (do
      let ov ← eval (.Name x p) X.env
      standAt apos.atName
      let (f, first) ← holding [ov] (getMethod ov m pl)
      callWith pos f first (backTo pos (starEach (e :: es) X.env)) (backToKw pos (keywordEach [] X.env))) := by rfl) :
    PE X (.Call (.Attribute (.Name x p) m apos) (e :: es) [] pos) (tE A W (callG n g (osCons (oV (cst (.cls c))) fs))) := by
  obtain ⟨C, mc, pp, f, hC, cr, cm, F⟩ := T.ok
  obtain ⟨C', hm, hC'⟩ := hm
  rw [hC] at hC'
  cases hC'
  refine ⟨fun pins s σ H Q I h => ?_⟩
  have h2 := cls_first hC (os_cons (call_of h))
  refine PySem.W.methodCall_KW (pl := pl) (thn ((pe_glob (v := .ref C) hg hm rfl hdb).run pins s σ H (fun v H1 => v = .ref C ∧ H1 = H) I ⟨rfl, rfl⟩) fun u s1 ⟨v, H1, I1, r1, q1⟩ => ?_) ht
  obtain ⟨rfl, rfl⟩ := q1
  cases r1
  refine ClX.getmethcm_ok I1 cr cm fun s2 I2 => ?_
  refine ClX.callwith_cm I2 (ClX.base_none I1 (Nat.le_refl _)) cm.fi (thn (ha.run pos _ s2 σ _ _ I2 h2) fun us s3 ⟨vs, H2, I3, rv, q2⟩ => ⟨⟨ClX.pin_at I3, I3.kIn⟩, ?_⟩) hst hpl
  exact run_cmP F hr tk I3 rv q2
end
/-! ### defs at an address -/
section
variable {P : Program} {w : World} {K : PySem.W.Frag} {mg : Str → Option Value} {base : Heap}
abbrev FunQ (K : PySem.W.Frag) (x qual : Str) (st : Stmt) (f : Addr) (fd : FuncData) : Prop := FunD K x qual (defArgs st) (defBody st) (defScope st) [] [] f fd
/-- the def at f keeps its promise g, by position -/
structure DefQ (P : Program) (w : World) (K : PySem.W.Frag) (mg : Str → Option Value) (base : Heap) (wd : Wd) (lvl : Nat) (x qual : Str) (st : Stmt) (ps : List Str) (g : GF) (f : Addr) : Prop where
  ex : ∃ fd, FunQ K x qual st f fd ∧ Binds K fd ps [] ∧ FnG P w K mg base (L2.CX P w) lvl f fd ps (spF wd ps.length g)
theorem FunD.fun {x qual : Str} {st : Stmt} {f : Addr} {fd : FuncData} (F : FunQ K x qual st f fd) : Fun K x qual st f fd := by
  obtain ⟨oc, od, dV, kV, doc, pm, an, cdv, ct, osl, e, lk, hcd, hD, _⟩ := F.ex
  refine ⟨⟨oc, od, kV, doc, pm, an, cdv, ct, osl, ?_, lk, hcd⟩, F.kp⟩
  rcases hD with ⟨_, rfl⟩ | ⟨z, _⟩
  · exact e
  · exact absurd rfl z
theorem defQ_mk {x qual : Str} {st : Stmt} {f : Addr} {fd : FuncData} {N ps : List Str} {k : Nat} {wd : Wd} {ios : List Nat} {body : SF} (F : FunQ K x qual st f fd) (S : FnScope N ps (defScope st))
    (hb : ∀ (cdv : Value) (A : Around) (outer : List PySem.Env) (s : Shared) (H : Hp) (E : XK), RoomG k (A.deeper (PyProof.Rows.envOfC qual (defScope st) s.heap.objs.size f cdv)) →
      SV (cxOf (L2.CX P w) P w K mg base N qual (defScope st) f cdv A outer s H E) wd ios (defBody st) body)
    (hbind : ∀ (kV doc pm : Value) (an : Option Addr) (cdv ct : Value) (us : List Value), us.length = ps.length → bindArgs (PySem.W.fnOf x qual (defArgs st) (defBody st) (defScope st) .none kV doc pm an cdv ct) ⟨us, []⟩ = pure (ps.zip us)) :
    DefQ P w K mg base wd (k + 1) x qual st ps (runDef ios ps.length N.length body) f :=
  ⟨fd, F, FunD.bindsN F hbind, def_ok (FunD.fun F) S hb fun as => .inr rfl⟩
theorem DefQ.fnP {wd : Wd} {lvl k : Nat} {x qual : Str} {st : Stmt} {ps : List Str} {g : GF} {f : Addr} {n : Nat} (d : DefQ P w K mg base wd lvl x qual st ps g f) (hk : lvl ≤ k) (hn : ps.length = n := by rfl) : FnP P w K mg base (L2.CX P w) k f (spF wd n g) := by
  subst hn
  obtain ⟨fd, F, hb, G⟩ := d.ex
  exact (G.fnP hb).up hk
theorem DefQ.defP {wd : Wd} {lvl : Nat} {x : Str} {st : Stmt} {ps : List Str} {g : GF} {f : Addr} (d : DefQ P w K mg base wd lvl x x st ps g f) (hm : mg x = some (.ref f)) : DefP P w K mg base wd lvl x st ps g := by
  obtain ⟨fd, F, hb, G⟩ := d.ex
  exact ⟨f, fd, hm, F, hb, G⟩

/-! ### def f(a, .., *v), def f(a, .., *v, **d) called without keywords -/
/-- the arguments behind np as a tuple -/
def packS (np : Nat) (kw : Bool) (as : List (Bool × Val)) : List (Bool × Val) := as.take np ++ (false, .tup ((as.drop np).map (·.2))) :: (if kw then [(false, .dct false [])] else [])
def runDefS (kw : Bool) (ios : List Nat) (np N : Nat) (body : SF) : GF := fun as =>
  if np ≤ as.length ∧ lents (as.drop np) = 0 ∧ as.length ≤ 100000 ∧ (∀ i ∈ ownIx (packS np kw as), i < np) then runDef ios (np + 1 + (if kw then 1 else 0)) N body (packS np kw as) else .bad
theorem arel_take {wd : Wd} {G H : Hp} : ∀ {as : List (Bool × Val)} {xs : List V} (n : Nat), ARel wd G H as xs → ARel wd G H (as.take n) (xs.take n)
  | [], xs, n, h => by have h' : xs = [] := h; subst h'; simp; exact rfl
  | _ :: _, xs, 0, h => by simp; exact rfl
  | (false, v) :: as, _, n + 1, ⟨y, ys, e, r, t⟩ => by subst e; exact ⟨y, ys.take n, rfl, r, arel_take n t⟩
  | (true, v) :: as, _, n + 1, ⟨a, ys, e, r, z, t⟩ => by subst e; exact ⟨a, ys.take n, rfl, r, z, arel_take n t⟩
theorem arel_drop {wd : Wd} {G H : Hp} : ∀ {as : List (Bool × Val)} {xs : List V} (n : Nat), ARel wd G H as xs → ARel wd G H (as.drop n) (xs.drop n)
  | [], xs, n, h => by have h' : xs = [] := h; subst h'; simp; exact rfl
  | _ :: _, xs, 0, h => by simpa using h
  | (false, v) :: as, _, n + 1, ⟨y, ys, e, r, t⟩ => by subst e; simpa using arel_drop n t
  | (true, v) :: as, _, n + 1, ⟨a, ys, e, r, z, t⟩ => by subst e; simpa using arel_drop n t
theorem arel_reps {wd : Wd} {G H : Hp} : ∀ {as : List (Bool × Val)} {xs : List V}, lents as = 0 → ARel wd G H as xs → Reps wd G (as.map (·.2)) xs
  | [], xs, _, h => by have h' : xs = [] := h; subst h'; exact reps_nil.mpr rfl
  | (true, v) :: as, _, z, _ => by simp [lents] at z
  | (false, v) :: as, _, z, ⟨y, ys, e, r, t⟩ => by subst e; exact reps_cons.mpr ⟨y, ys, rfl, r, arel_reps (by simpa [lents] using z) t⟩
theorem arel_append {wd : Wd} {G H : Hp} : ∀ {as bs : List (Bool × Val)} {xs ys : List V}, ARel wd G H as xs → ARel wd G H bs ys → ARel wd G H (as ++ bs) (xs ++ ys)
  | [], _, xs, _, h, h2 => by have h' : xs = [] := h; subst h'; simpa using h2
  | (false, v) :: as, _, _, _, ⟨y, ys, e, r, t⟩, h2 => by subst e; exact ⟨y, _, rfl, r, arel_append t h2⟩
  | (true, v) :: as, _, _, _, ⟨a, ys, e, r, z, t⟩, h2 => by subst e; exact ⟨a, _, rfl, r, z, arel_append t h2⟩
theorem arel_mono {wd : Wd} {G H G' H' : Hp} (g : Le G G') (e : ∀ a o, H a = some o → H' a = some o) (n : ∀ a, H a ≠ none → G a = none → G' a = none) : ∀ {as : List (Bool × Val)} {xs : List V}, ARel wd G H as xs → ARel wd G' H' as xs
  | [], _, h => h
  | (false, v) :: as, _, ⟨y, ys, q, r, t⟩ => ⟨y, ys, q, r.mono g, arel_mono g e n t⟩
  | (true, v) :: as, _, ⟨a, ys, q, r, z, t⟩ => ⟨a, ys, q, r.mono g (e a), n a (by obtain ⟨o, ho, _⟩ := r.has; rw [ho]; simp) z, arel_mono g e n t⟩
theorem lents_take {as : List (Bool × Val)} (np : Nat) (h : lents (as.drop np) = 0) : lents (as.take np) = lents as := by
  have : as = as.take np ++ as.drop np := (List.take_append_drop np as).symm
  have e : lents (as.take np ++ as.drop np) = lents (as.take np) + lents (as.drop np) := by
    show ((as.take np ++ as.drop np).filter (·.1)).length = _
    rw [List.filter_append, List.length_append]; rfl
  rw [← this] at e
  omega
theorem packS_lents {as : List (Bool × Val)} {np : Nat} {kw : Bool} (h : lents (as.drop np) = 0) : lents (packS np kw as) = lents as := by
  have e : lents (packS np kw as) = lents (as.take np) := by cases kw <;> simp [packS, lents]
  rw [e, lents_take np h]
theorem drop_get {α : Type} (l : List α) (n i : Nat) : (l.drop n)[i]? = l[n + i]? := List.getElem?_drop
/-- what is lent is the same ahead of the packing and behind it -/
theorem lent_pack {as : List (Bool × Val)} {vs sv : List V} {np : Nat} {kw : Bool} (hl : vs.length = as.length) (hnp : np ≤ as.length) (h : lents (as.drop np) = 0) (a : Addr) :
    Lent (packS np kw as) (vs.take np ++ sv) a ↔ Lent as vs a := by
  constructor
  · rintro ⟨i, v, h1, h2⟩
    by_cases hi : i < np
    · refine ⟨i, v, ?_, ?_⟩
      · unfold packS at h1
        rwa [List.getElem?_append_left (by simp; omega), List.getElem?_take_of_lt hi] at h1
      · rwa [List.getElem?_append_left (by simp; omega), List.getElem?_take_of_lt hi] at h2
    · exfalso
      unfold packS at h1
      rw [List.getElem?_append_right (by simp; omega)] at h1
      generalize i - (as.take np).length = j at h1
      cases j with
      | zero => simp at h1
      | succ j =>
        cases kw with
        | false => simp at h1
        | true =>
          cases j with
          | zero => simp at h1
          | succ j => simp at h1
  · rintro ⟨i, v, h1, h2⟩
    have hi : i < np := by
      rcases Nat.lt_or_ge i np with z | z
      · exact z
      · exfalso
        refine lents_zero h (p := i - np) (v := v) ?_
        rw [drop_get]
        rw [show np + (i - np) = i by omega]
        exact h1
    refine ⟨i, v, ?_, ?_⟩
    · unfold packS
      rwa [List.getElem?_append_left (by simp; omega), List.getElem?_take_of_lt hi]
    · rwa [List.getElem?_append_left (by simp; omega), List.getElem?_take_of_lt hi]
theorem post_back {wd : Wd} {G H G2 H2 G' H' : Hp} {as as2 : List (Bool × Val)} {vs vs2 : List V} {out : Option (Bool × Val)} (g : Grow G H G2 H2) (hl : ∀ a, Lent as2 vs2 a ↔ Lent as vs a) (p : Post wd G2 H2 as2 vs2 out G' H') : Post wd G H as vs out G' H' where
  g := g.g.trans p.g
  s := p.s
  gr := fun a h h' => by
    by_cases q : G2 a = none
    · rcases p.gr a q h' with z | z
      · exact .inl (g.h.back z)
      · exact .inr ((hl a).mp z)
    · exact .inl (g.n a h q)
  kp := fun a o h n => p.kp a o (g.h _ _ h) fun z => n ((hl a).mp z)
  out := fun a h => p.out a ((hl a).mpr h)
theorem nrep_back {wd : Wd} {G H G2 H2 G' H' : Hp} {o : Bool} {v : Val} {x : V} (g : Grow G H G2 H2) (h : NRep wd G2 H2 G' H' o v x) : NRep wd G H G' H' o v x := by
  cases o with
  | true => obtain ⟨a, e, ro, n, n2⟩ := h; exact ⟨a, e, ro, n, g.h.back n2⟩
  | false => exact h
theorem spPost_back {wd : Wd} {G H G2 H2 : Hp} {as as2 : List (Bool × Val)} {vs vs2 : List V} {Q : VK} {E : XK} (g : Grow G H G2 H2) (hl : ∀ a, Lent as2 vs2 a ↔ Lent as vs a) : ∀ {x : GR}, spPost wd G H as vs Q E x → spPost wd G2 H2 as2 vs2 Q E x
  | .ok o z out, h => fun u G' H' p nr => h u G' H' (post_back g hl p) (nrep_back g nr)
  | .ex e out, h => by
    cases e with
    | exc c fs => exact fun G' H' C d p => h G' H' C d (post_back g hl p)
    | _ => exact h
  | .bad, h => h
theorem spF_post {wd : Wd} {n : Nat} {g : GF} {vs : List V} {H : Hp} {Q : VK} {E : XK} (h : spF wd n g vs H Q E) : ∃ G as, vs.length = n ∧ Le G H ∧ ARel wd G H as vs ∧ lents as ≤ 1 ∧ spPost wd G H as vs Q E (g as) := by
  obtain ⟨G, as, h1, h2, h3, h4, h5⟩ := h
  refine ⟨G, as, h1, h2, h3, h4, ?_⟩
  revert h5
  cases g as <;> exact id
/-- the start of a body behind the packing -/
theorem star_start {wd : Wd} {ios : List Nat} {np n : Nat} {kw : Bool} {N : List Str} {body : SF} {G H : Hp} {as : List (Bool × Val)} {vs : List V} {Q : VK} {E : XK} (hlen : vs.length = n) (hle : Le G H) (ar : ARel wd G H as vs) (l1 : lents as ≤ 1)
    (hm : spPost wd G H as vs Q E (runDefS kw ios np N.length body as)) :
    np ≤ vs.length ∧ vs.length ≤ 100000 ∧ ∀ (G2 H2 : Hp) (sv : List V), Grow G H G2 H2 → ARel wd G2 H2 ((false, .tup ((as.drop np).map (·.2))) :: (if kw then [(false, .dct false [])] else [])) sv → Reps wd G ((as.drop np).map (·.2)) (vs.drop np) →
      ∃ as2, lents as2 ≤ 1 ∧ Le G2 H2 ∧ ARel wd G2 H2 as2 (vs.take np ++ sv) ∧ spPost wd G2 H2 as2 (vs.take np ++ sv) Q E (runDef ios (np + 1 + (if kw then 1 else 0)) N.length body as2) := by
  unfold runDefS at hm
  by_cases hc : np ≤ as.length ∧ lents (as.drop np) = 0 ∧ as.length ≤ 100000 ∧ (∀ i ∈ ownIx (packS np kw as), i < np)
  case neg => rw [if_neg hc] at hm; exact hm.elim
  rw [if_pos hc] at hm
  have hl := arel_length ar
  refine ⟨by omega, by omega, fun G2 H2 sv g ar2 _ => ⟨packS np kw as, by rw [packS_lents hc.2.1]; exact l1, g.s, ?_, spPost_back g (lent_pack hl hc.1 hc.2.1) hm⟩⟩
  unfold packS
  refine arel_append (arel_mono g.g g.h (fun a h1 h2 => ?_) (arel_take np ar)) ar2
  cases q : G2 a with
  | none => rfl
  | some o => exact absurd (g.n a h2 (by rw [q]; simp)) h1
theorem star_reps {wd : Wd} {ios : List Nat} {np : Nat} {kw : Bool} {N : Nat} {body : SF} {G H : Hp} {as : List (Bool × Val)} {vs : List V} {Q : VK} {E : XK} (ar : ARel wd G H as vs)
    (hm : spPost wd G H as vs Q E (runDefS kw ios np N body as)) : Reps wd G ((as.drop np).map (·.2)) (vs.drop np) := by
  unfold runDefS at hm
  by_cases hc : np ≤ as.length ∧ lents (as.drop np) = 0 ∧ as.length ≤ 100000 ∧ (∀ i ∈ ownIx (packS np kw as), i < np)
  case neg => rw [if_neg hc] at hm; exact hm.elim
  exact arel_reps hc.2.1 (arel_drop np ar)
theorem scope_len {N qs : List Str} {sc : Scope} (S : FnScope N qs sc) : qs.length ≤ N.length := by
  have := congrArg List.length S.pre
  rw [List.length_take] at this; omega
/-- def f(a, .., *v) -/
theorem fnP_star {pv x qual : Str} {st : Stmt} {f : Addr} {fd : FuncData} {N ps : List Str} {k n : Nat} {wd : Wd} {ios : List Nat} {body : SF} (F : FunQ K x qual st f fd) (S : FnScope N (ps ++ [pv]) (defScope st))
    (hb : ∀ (cdv : Value) (A : Around) (outer : List PySem.Env) (s : Shared) (H : Hp) (E : XK), RoomG k (A.deeper (PyProof.Rows.envOfC qual (defScope st) s.heap.objs.size f cdv)) →
      SV (cxOf (L2.CX P w) P w K mg base N qual (defScope st) f cdv A outer s H E) wd ios (defBody st) body)
    (hbind : ∀ (kV doc pm : Value) (an : Option Addr) (cdv ct : Value) (us rest : List Value), us.length = ps.length → bindArgs (PySem.W.fnOf x qual (defArgs st) (defBody st) (defScope st) .none kV doc pm an cdv ct) ⟨us ++ rest, []⟩ = (newTuple rest >>= fun t => pure (ps.zip us ++ [(pv, t)]))) :
    FnP P w K mg base (L2.CX P w) (k + 1) f (spF wd n (runDefS false ios ps.length N.length body)) := by
  intro A outer s H us vs Q E hr e0 rv hsp
  obtain ⟨G, as, hlen, hle, ar, l1, hm⟩ := spF_post hsp
  obtain ⟨hnp, hmax, go⟩ := star_start hlen hle ar l1 hm
  have rr := star_reps ar hm
  obtain ⟨oc, od, kV, doc, pm, an, cdv, ct, osl, rfl, lk, hcd⟩ := (FunD.fun F).ex
  obtain ⟨ws, hws⟩ : ∃ ws, ws = vs.take ps.length := ⟨_, rfl⟩
  obtain ⟨rest, hrest⟩ : ∃ rest, rest = vs.drop ps.length := ⟨_, rfl⟩
  have ev : vs = ws ++ rest := by rw [hws, hrest, List.take_append_drop]
  rw [ev] at rv
  obtain ⟨u1, u2, eu, r1, r2⟩ := StX.vals_split rv
  subst eu
  have hn : H s.heap.objs.size = Option.none := e0.hok.fresh (Nat.le_refl _)
  have hlw : ws.length = ps.length := by rw [hws, List.length_take]; omega
  have hl1 : u1.length = ps.length := by rw [← r1.length]; exact hlw
  have hzr : rest.length ≤ sizeLine := line_of (by rw [hrest, List.length_drop]; omega)
  have hl2 : u2.length ≤ sizeLine := by rw [← r2.length]; exact hzr
  refine StX.run_bnd lk hcd S hr.room e0 (G := fun xs H2 => ∃ p, H p = Option.none ∧ xs = ws ++ [V.ref p] ∧ H2 = upd H p (.tup rest)) (fun A' Ex Q' h => ?_) fun s2 H2 xs ⟨p, hp, ex, eH⟩ hr' => ?_
  · rw [hbind kV doc pm an cdv ct u1 u2 hl1]
    refine wpAny_bind (wpAny_newTuple (wpAny_pure ?_) hl2)
    obtain ⟨ob, hob⟩ : ∃ ob : Obj, ob = { cls := .type "tuple", data := .seq u2.toArray } := ⟨_, rfl⟩
    have new : ObjOk P w (upd H s.heap.objs.size (.tup rest)) (s.heap.push ob) s.heap.objs.size (.tup rest) := ⟨hzr, u2, r2, (by subst hob; exact ⟨_, Heap.get?_push_size _ rfl, rfl, _, rfl⟩)⟩
    have un := StX.un_laid (fs := frs outer) (s := s) (o := ob) (u := .tup rest) hn
    have z := h _ _ (ws ++ [V.ref s.heap.objs.size]) (u1 ++ [Value.ref s.heap.objs.size]) (StX.env0_laid e0 new) un rfl (fun e s' => StX.cxUp outer s H _ _ E e s' un (fun b o q => Heap.get?_push_of_some _ q) rfl) (r1.append (.cons rfl .nil))
      (by rw [List.length_append, List.length_append, hlw] <;> rfl) ⟨_, hn, rfl, rfl⟩
    rw [List.zip_append hl1.symm, hob] at z
    exact z
  · subst ex eH
    have g : Grow G H (upd G p (.tup rest)) (upd H p (.tup rest)) := Grow.laidG hle hp
    obtain ⟨as2, l2, le2, ar2, hm2⟩ := go _ _ [.ref p] g ⟨.ref p, [], rfl, rep_tup.mpr ⟨p, rest, rfl, .inl (.inl upd_same), by have z := rr.mono g.g; rw [← hrest] at z; exact z⟩, rfl⟩ rr
    rw [← hws] at ar2 hm2
    exact body_ok (hb cdv A outer s2 _ E ⟨hr', hr.gs⟩) (takes_of rfl rfl rfl rfl) (by have := scope_len S; simp at this ⊢; omega) (by simp [hlw]) le2 ar2 l2 hm2
/-- def f(a, .., *v, **d), called without keywords -/
theorem fnP_starkw {pv pd x qual : Str} {st : Stmt} {f : Addr} {fd : FuncData} {N ps : List Str} {k n : Nat} {wd : Wd} {ios : List Nat} {body : SF} (F : FunQ K x qual st f fd) (S : FnScope N (ps ++ [pv, pd]) (defScope st))
    (hb : ∀ (cdv : Value) (A : Around) (outer : List PySem.Env) (s : Shared) (H : Hp) (E : XK), RoomG k (A.deeper (PyProof.Rows.envOfC qual (defScope st) s.heap.objs.size f cdv)) →
      SV (cxOf (L2.CX P w) P w K mg base N qual (defScope st) f cdv A outer s H E) wd ios (defBody st) body)
    (hbind : ∀ (kV doc pm : Value) (an : Option Addr) (cdv ct : Value) (us rest : List Value), us.length = ps.length → bindArgs (PySem.W.fnOf x qual (defArgs st) (defBody st) (defScope st) .none kV doc pm an cdv ct) ⟨us ++ rest, []⟩ =
      (newTuple rest >>= fun t => (alloc ({ cls := .type "dict", data := .dict #[] } : Obj) : Sem Addr) >>= fun d => pure (ps.zip us ++ [(pv, t), (pd, Value.ref d)]))) :
    FnP P w K mg base (L2.CX P w) (k + 1) f (spF wd n (runDefS true ios ps.length N.length body)) := by
  intro A outer s H us vs Q E hr e0 rv hsp
  obtain ⟨G, as, hlen, hle, ar, l1, hm⟩ := spF_post hsp
  obtain ⟨hnp, hmax, go⟩ := star_start hlen hle ar l1 hm
  have rr := star_reps ar hm
  obtain ⟨oc, od, kV, doc, pm, an, cdv, ct, osl, rfl, lk, hcd⟩ := (FunD.fun F).ex
  obtain ⟨ws, hws⟩ : ∃ ws, ws = vs.take ps.length := ⟨_, rfl⟩
  obtain ⟨rest, hrest⟩ : ∃ rest, rest = vs.drop ps.length := ⟨_, rfl⟩
  have ev : vs = ws ++ rest := by rw [hws, hrest, List.take_append_drop]
  rw [ev] at rv
  obtain ⟨u1, u2, eu, r1, r2⟩ := StX.vals_split rv
  subst eu
  have hn : H s.heap.objs.size = Option.none := e0.hok.fresh (Nat.le_refl _)
  have hlw : ws.length = ps.length := by rw [hws, List.length_take]; omega
  have hl1 : u1.length = ps.length := by rw [← r1.length]; exact hlw
  have hzr : rest.length ≤ sizeLine := line_of (by rw [hrest, List.length_drop]; omega)
  have hl2 : u2.length ≤ sizeLine := by rw [← r2.length]; exact hzr
  obtain ⟨oD, hoD⟩ : ∃ oD : Obj, oD = { cls := .type "dict", data := .dict #[] } := ⟨_, rfl⟩
  refine StX.run_bnd lk hcd S hr.room e0 (G := fun xs H2 => ∃ p d, H p = Option.none ∧ H d = Option.none ∧ d ≠ p ∧ xs = ws ++ [V.ref p, V.ref d] ∧ H2 = upd (upd H p (.tup rest)) d (.frz oD (.dK []))) (fun A' Ex Q' h => ?_) fun s2 H2 xs ⟨p, d, hp, hd, hne, ex, eH⟩ hr' => ?_
  · rw [hbind kV doc pm an cdv ct u1 u2 hl1]
    refine wpAny_bind (wpAny_newTuple (wpAny_bind (wpAny_alloc (wpAny_pure ?_))) hl2)
    obtain ⟨ob, hob⟩ : ∃ ob : Obj, ob = { cls := .type "tuple", data := .seq u2.toArray } := ⟨_, rfl⟩
    rw [← hob, ← hoD]
    have new : ObjOk P w (upd H s.heap.objs.size (.tup rest)) (s.heap.push ob) s.heap.objs.size (.tup rest) := ⟨hzr, u2, r2, (by subst hob; exact ⟨_, Heap.get?_push_size _ rfl, rfl, _, rfl⟩)⟩
    have e1 := StX.env0_laid e0 new
    have un1 := StX.un_laid (fs := frs outer) (s := s) (o := ob) (u := .tup rest) hn
    have hn2 := e1.hok.fresh (Nat.le_refl _)
    have dkO : ObjOk P w (upd (upd H s.heap.objs.size (.tup rest)) (s.heap.push ob).objs.size (.frz oD (.dK []))) ((s.heap.push ob).push oD) (s.heap.push ob).objs.size (.frz oD (.dK [])) := by
      rw [hoD]
      exact ⟨Heap.get?_push_size _ rfl, dk_empty _ (StX.env0_big e1)⟩
    have e2 := StX.env0_laid (u := .frz oD (.dK [])) (o := oD) e1 dkO
    have un2 := un1.trans (StX.un_laid (fs := frs outer) (s := { s with heap := s.heap.push ob }) (o := oD) (u := .frz oD (.dK [])) hn2)
    have sz : (s.heap.push ob).objs.size = s.heap.objs.size + 1 := Heap.size_push _ _
    have ne : (s.heap.push ob).objs.size ≠ s.heap.objs.size := by
      rw [sz]
      exact Nat.succ_ne_self _
    have hd : H (s.heap.push ob).objs.size = Option.none := e0.hok.fresh (by rw [sz]; exact Nat.le_succ _)
    have z := h _ _ (ws ++ [V.ref s.heap.objs.size, V.ref (s.heap.push ob).objs.size]) (u1 ++ [Value.ref s.heap.objs.size, Value.ref (s.heap.push ob).objs.size]) e2 un2 rfl
      (fun e s' => StX.cxUp outer s H _ _ E e s' un2 (fun b o q => Heap.get?_push_of_some _ (Heap.get?_push_of_some _ q)) rfl) (r1.append (.cons rfl (.cons rfl .nil))) (by rw [List.length_append, List.length_append, hlw] <;> rfl) ⟨_, _, hn, hd, ne, rfl, rfl⟩
    rw [List.zip_append hl1.symm] at z
    exact z
  · subst ex eH
    have g1 : Grow G H (upd G p (.tup rest)) (upd H p (.tup rest)) := Grow.laidG hle hp
    have hd2 : upd H p (.tup rest) d = none := by rw [upd_ne hne]; exact hd
    have g2 := Grow.laidG (o := .frz oD (.dK [])) g1.s hd2
    have g := g1.trans g2
    have rd : Rep wd (upd (upd G p (.tup rest)) d (.frz oD (.dK []))) (.dct false []) (.ref d) := by
      rw [Rep]; exact ⟨d, rfl, .inl ⟨rfl, [], oD, upd_same, by rw [RepK]⟩⟩
    obtain ⟨as2, l2, le2, ar2, hm2⟩ := go _ _ [.ref p, .ref d] g ⟨.ref p, [.ref d], rfl, rep_tup.mpr ⟨p, rest, rfl, .inl (.inl (by rw [upd_ne (Ne.symm hne), upd_same])), by have z := rr.mono g.g; rw [← hrest] at z; exact z⟩, ⟨.ref d, [], rfl, rd, rfl⟩⟩ rr
    rw [← hws] at ar2 hm2
    exact body_ok (hb cdv A outer s2 _ E ⟨hr', hr.gs⟩) (takes_of rfl rfl rfl rfl) (by have := scope_len S; simp at this ⊢; omega) (by simp [hlw]) le2 ar2 l2 hm2
end
end M
/-! MPY: dict comprehensions, items, enumerate, get, sorted, f-strings. -/
namespace M
open PySem L2

/-! ### dict comprehensions of one clause -/
def dcL (t : TF) (c : BF) (fk f : EF) (sl : List Nat) : List Val → List (Val × Val) → Env → DR
  | [], acc, r => .ok acc r
  | v :: vs, acc, r => match t v r with
    | some r1 => match c r1 with
      | .ok true r2 => match frz fk r2 with
        | .ok _ k r3 => match frz f r3 with
          | .ok _ y r4 => match keyOf k with
            | some q => if acc.length < 100000 then dcL t c fk f sl vs (dPut acc q y) (wipeR r4 sl) else .bad
            | none => .bad
          | _ => .bad
        | _ => .bad
      | .ok false r2 => dcL t c fk f sl vs acc (wipeR r2 sl)
      | _ => .bad
    | none => .bad
def dc (fi : IF) (t : TF) (c : BF) (fk f : EF) (sl : List Nat) : EF := fun r => match fi r with
  | .ok vs r1 => match dcL t c fk f sl vs [] (wipeR r1 sl) with
    | .ok ys r2 => .ok true (.dct false ys) (restR r1 r2 sl)
    | _ => .bad
  | .ex e r1 => .ex e r1
  | .bad => .bad
theorem repK_nil0 {w : Wd} {G : Hp} : RepK w G [] [] := by rw [RepK]
theorem root_dK {w : Wd} {G H : Hp} {a : Addr} {ds : List (Val × Val)} {kvs : List (Key × V)} (h : H a = some (.dK kvs)) (q : RepK w G ds kvs) : Root w G H (.dct false ds) a := .inl ⟨rfl, kvs, h, q⟩
theorem dc_of {A : Act} {W : WX} {fi : IF} {t : TF} {c : BF} {fk f : EF} {sl st' : List Nat} {σ : L2.St} {H : Hp} {Q : VK} (tok : TOk st' t) (hs : ∀ j ∈ st', j ∈ sl) (hio : ∀ i ∈ A.io, i ∉ sl) (h : tE A W (dc fi t c fk f sl) σ H Q) :
    tDc (tIt A W fi) (tTg A st' t) (tBo A (fun _ _ _ _ => False) c) (tE A (fun _ _ _ _ => False) (frz fk)) (tE A (fun _ _ _ _ => False) (frz f)) sl σ H Q := by
  obtain ⟨r, G, k, m⟩ := h
  refine ⟨r, G, k, ?_⟩
  unfold dc at m
  cases hf : fi r with
  | bad => rw [hf] at m; exact m.elim
  | ex e r' => rw [hf] at m; exact m
  | ok vs r1 =>
    simp only [hf] at m ⊢
    intro J G1 H1 k1 st1 io D hD
    have gr0 := Grow.laidH (o := .dK []) k1.sub hD
    have kw := (k1.wipe (sl := sl) hio).grow gr0
    let Fl : DR → Prop := fun a => match a with
      | .ok ys r2 => ∀ x G' H', Res A σ r G H (restR r1 r2 sl) G' H' true (.dct false ys) x → Q x H'
      | _ => False
    have m0 : Fl (dcL t c fk f sl vs [] (wipeR r1 sl)) := by
      cases hL : dcL t c fk f sl vs [] (wipeR r1 sl) with
      | ok ys r2 => rw [hL] at m; exact m
      | ex e r2 => rw [hL] at m; exact m
      | bad => rw [hL] at m; exact m
    refine ⟨fun i n H' => ∃ r' G' acc ds, i ≤ vs.length ∧ n = vs.length - i ∧ Ok A G' H' (wipe σ sl) r' ∧ Step (wipe σ sl) (wipeR r1 sl) G1 H1 r' G' H' ∧ H' D = some (.dK acc) ∧ RepK A.w G' ds acc ∧ G' D = none ∧ ¬ Rt r' (wipe σ sl) D ∧ Fl (dcL t c fk f sl (vs.drop i) ds r'),
      ⟨vs.length, wipeR r1 sl, G1, [], [], Nat.zero_le _, rfl, kw, gr0.step, upd_same, repK_nil0, k1.sub.back hD, (k1.wipe (sl := sl) hio).notRt hD, by simpa using m0⟩, ?_⟩
    rintro i n H2 ⟨r2, G2, acc, ds, hi, hn, k2, st2, hacc, hreps, hGD, hnr, hFl⟩
    have lD : A.L D ∨ A.H0 D = none := k1.fresh hD
    by_cases hlt : i < vs.length
    · refine .inr ⟨io.go G2 H2 i st2.ex k2.sub hlt, fun H' => ∃ r' G' acc ds, Ok A G' H' (wipe σ sl) r' ∧ Step (wipe σ sl) (wipeR r1 sl) G1 H1 r' G' H' ∧ H' D = some (.dK acc) ∧ RepK A.w G' ds acc ∧ G' D = none ∧ ¬ Rt r' (wipe σ sl) D ∧ Fl (dcL t c fk f sl (vs.drop (i + 1)) ds r'),
        fun H' ⟨r', G', acc, ds, q⟩ => ⟨vs.length - (i + 1), by omega, r', G', acc, ds, hlt, rfl, q⟩, fun x H3 hy => ?_⟩
      have ev : vs[i]? = some vs[i] := by simp [hlt]
      obtain ⟨G3, gr, rp⟩ := io.yld G2 H2 i vs[i] x H3 st2.ex k2.sub ev hy
      refine ⟨r2, G3, vs[i], k2.grow gr, rp, ?_⟩
      rw [List.drop_eq_getElem_cons hlt, dcL] at hFl
      cases ht : t vs[i] r2 with
      | none => simp only [ht] at hFl; exact hFl.elim
      | some r3 =>
        simp only [ht] at hFl ⊢
        intro σ2 k3 hj hl
        have hw := wipe_eq (σ := σ) (σ2 := σ2) hs hj hl
        obtain ⟨tk1, tk2⟩ := tok _ _ _ ht
        have rt3 : ∀ a, Rt r3 σ2 a → Rt r2 (wipe σ sl) a := fun a ⟨j, w, h1, h2⟩ => by
          by_cases q : j ∈ st'
          · exact absurd h1 (tk2 j q w)
          · exact ⟨j, w, by rw [← tk1 j q]; exact h1, by rw [← hj j q]; exact h2⟩
        have hacc3 : H3 D = some (.dK acc) := gr.h _ _ hacc
        have hGD3 : G3 D = none := by
          cases z : G3 D with
          | none => rfl
          | some o => have := gr.n D hGD (by rw [z]; simp); rw [hacc] at this; cases this
        have st3 := st2.trans gr.step
        -- from the target's state to the block's
        have conv : ∀ {r4 : Env} {G4 H4 : Hp}, Ok A G4 H4 σ2 r4 → Step σ2 r3 G3 H3 r4 G4 H4 → Ok A G4 H4 (wipe σ sl) (wipeR r4 sl) ∧ Step (wipe σ sl) (wipeR r1 sl) G1 H1 (wipeR r4 sl) G4 H4 ∧ H4 D = some (.dK acc) ∧ G4 D = none ∧ ¬ Rt (wipeR r4 sl) (wipe σ sl) D := fun {r4 G4 H4} k4 st4 => by
          have rt4 : ∀ a, Rt (wipeR r4 sl) (wipe σ sl) a → Rt r2 (wipe σ sl) a := fun a h => rt3 a (st4.rts a (by rw [← hw] at h; exact rt_wipe h))
          refine ⟨?_, st3.trans ⟨st4.ex, fun a o h n => st4.keep a o h fun z => n (rt3 a z), fun a h h' => (st4.grow a h h').imp id (rt3 a), rt4⟩, st4.keep D _ hacc3 fun z => hnr (rt3 D z), ?_, fun z => hnr (rt4 D z)⟩
          · have := k4.wipe (sl := sl) hio
            rw [hw] at this; exact this
          · cases z : G4 D with
            | none => rfl
            | some o =>
              rcases st4.grow D hGD3 (by rw [z]; simp) with y | y
              · rw [hacc3] at y; cases y
              · exact absurd (rt3 D y) hnr
        refine ⟨hw, r3, G3, k3, ?_⟩
        cases hc : c r3 with
        | bad => simp only [hc] at hFl; exact hFl.elim
        | ex e r4 => simp only [hc] at hFl; exact hFl.elim
        | ok b r4 =>
          simp only [hc] at hFl ⊢
          intro G4 H4 k4 st4
          cases b with
          | false =>
            simp only [Bool.false_eq_true, if_false]
            obtain ⟨c1, c2, c3, c4, c5⟩ := conv k4 st4
            exact ⟨_, G4, acc, ds, c1, c2, c3, hreps.mono (gr.g.trans st4.ex), c4, c5, hFl⟩
          | true =>
            simp only [if_true] at hFl ⊢
            refine ⟨r4, G4, k4, ?_⟩
            cases hk : frz fk r4 with
            | bad => simp only [hk] at hFl; exact hFl.elim
            | ex e r5 => simp only [hk] at hFl; exact hFl.elim
            | ok ok' kd rk =>
              have eo := frz_false hk
              subst eo
              simp only [hk] at hFl ⊢
              intro yk Gk Hk Rk
              refine ⟨rk, Gk, Rk.ok, ?_⟩
              cases he : frz f rk with
              | bad => simp only [he] at hFl; exact hFl.elim
              | ex e r5 => simp only [he] at hFl; exact hFl.elim
              | ok o y r5 =>
                have eo := frz_false he
                subst eo
                simp only [he] at hFl ⊢
                intro y' G5 H5 R5
                cases hq : keyOf kd with
                | none => simp only [hq] at hFl; exact hFl.elim
                | some q =>
                  simp only [hq] at hFl
                  by_cases hz : ds.length < 100000
                  case neg => rw [if_neg hz] at hFl; exact hFl.elim
                  rw [if_pos hz] at hFl
                  obtain ⟨c1, c2, c3, c4, c5⟩ := conv R5.ok ((st4.trans Rk.st).trans R5.st)
                  have le5 : Le G2 G5 := (gr.g.trans (st4.ex.trans Rk.st.ex)).trans R5.st.ex
                  obtain ⟨ekv, hb⟩ := rrep_key (H := Hk) (.inl (show Rep A.w Gk kd yk from Rk.tr)) hq
                  refine ⟨acc, q, ekv, c3, by rw [← repK_length hreps]; exact Nat.lt_of_lt_of_le hz (by decide), _, G5, putK acc q y', dPut ds q y, c1.tmp c4 c5 lD, ⟨c2.ex, fun a o h nn => ?_, c2.grow, c2.rts⟩, upd_same, repK_put (hreps.mono le5) hb R5.tr, c4, c5, hFl⟩
                  have ne : a ≠ D := fun z => by subst z; rw [hD] at h; cases h
                  rw [upd_ne ne]; exact c2.keep a o h nn
    · have e : i = vs.length := by omega
      subst e
      rw [List.drop_length, dcL] at hFl
      obtain ⟨k3, st3⟩ := k1.unwipe k2 st2
      refine .inl ⟨io.stop G2 H2 _ st2.ex k2.sub (Nat.le_refl _), ?_⟩
      refine hFl (.ref D) G2 H2 ⟨k3, st1.trans st3, trep_t (root_dK hacc hreps) hGD ?_ lD, fun _ a e => by cases e; exact st1.fresh hD⟩
      intro z
      rcases k1.rt (st3.rts D z) with ⟨⟨o, ho⟩, _⟩
      rw [hD] at ho; cases ho
section
variable {X : Cx} {A : Act} {W : WX} {kx vx tg iter : Expr} {ifs : List Expr} {scope : Scope} {own : List (Str × Nat)} {pos : Pos} {fi : IF} {t : TF} {c : BF} {fk f : EF} {st' sl : List Nat}
theorem pe_dcM (hc : X.calm = true) (hN : X.N.Nodup) (hi : PI X tg iter (tIt A W fi)) (ok : BlkOk X.N X.env.scope scope own)
    (hg : ∀ (s : Shared) (H : Hp) (C : Addr) (cl : List (Str × Addr)) (fp : List Addr), PG (X.blk s H scope (compEnvC scope cl C X.env) fp) tg (tTg A st' t))
    (ht : ∀ (s : Shared) (H : Hp) (C : Addr) (cl : List (Str × Addr)) (fp : List Addr), PTs (X.blk s H scope (compEnvC scope cl C X.env) fp) ifs (tBo A W0 c))
    (hk : ∀ (s : Shared) (H : Hp) (C : Addr) (cl : List (Str × Addr)) (fp : List Addr), PE (X.blk s H scope (compEnvC scope cl C X.env) fp) kx (tE A W0 fk))
    (he : ∀ (s : Shared) (H : Hp) (C : Addr) (cl : List (Str × Addr)) (fp : List Addr), PE (X.blk s H scope (compEnvC scope cl C X.env) fp) vx (tE A W0 f))
    (tok : TOk st' t) (hs' : ∀ j ∈ st', j ∈ sl) (hio : ∀ i ∈ A.io, i ∉ sl) (hsl : own.map (·.2) = sl := by rfl) (hs : ∀ x, foldedSetIterable iter X.env x = pure x := by intro _; rfl) :
    PE X (.DictComp kx vx [⟨tg, iter, ifs, 0⟩] scope pos) (tE A W (dc fi t c fk f sl)) := by
  subst hsl
  exact PE.imp (pe_dc hc hN hi ok hg ht (fun s H C cl fp => pe_frz (hk s H C cl fp)) (fun s H C cl fp => pe_frz (he s H C cl fp)) hs) fun _ _ _ q => dc_of tok hs' hio q
end
/-! ### what is walked: items, values, enumerate -/
def pairsOf (kvs : List (Val × Val)) : List Val := kvs.map fun p => .tup [p.1, p.2]
def itI (f : EF) : IF := fun r => match frz f r with
  | .ok _ (.dct false kvs) r' => .ok (pairsOf kvs) r'
  | .ok _ _ _ => .bad
  | .ex e r' => .ex e r'
  | .bad => .bad
def itVs (f : EF) : IF := fun r => match frz f r with
  | .ok _ (.dct false kvs) r' => .ok (kvs.map (·.2)) r'
  | .ok _ _ _ => .bad
  | .ex e r' => .ex e r'
  | .bad => .bad
theorem rep_two {w : Wd} {G : Hp} {u v : Val} {x y : V} {p : Addr} (h : G p = some (.tup [x, y])) (hu : Rep w G u x) (hv : Rep w G v y) : Rep w G (.tup [u, v]) (.ref p) :=
  rep_tup.mpr ⟨p, [x, y], rfl, .inl (.inl h), reps_cons.mpr ⟨x, [y], rfl, hu, reps_one hv⟩⟩
section
variable {w : Wd} {K : PySem.W.Frag} {G H : Hp}
theorem itok_items {a : Addr} {o : Obj} {ds : List (Val × Val)} {kvs : List (Key × V)} (h : G a = some (.frz o (.dK kvs))) (r : RepK w G ds kvs) : ItOk w (Iti a o kvs) G (pairsOf ds) where
  go := fun G' H i le le' hi => ⟨le' _ _ (le _ _ h), by rw [← repK_length r]; simpa [pairsOf] using hi⟩
  stop := fun G' H i le le' hi => ⟨le' _ _ (le _ _ h), by rw [← repK_length r]; simpa [pairsOf] using hi⟩
  yld := fun G' H i v x H' le le' hv ⟨T, q, y, hk, hx, hT, e⟩ => by
    subst e
    subst hx
    obtain ⟨d, h1, h2, h3⟩ := repK_at r hk
    simp only [pairsOf, List.getElem?_map, h1, Option.map_some, Option.some.injEq] at hv
    subst hv
    have g := Grow.laidG (o := .tup [kV q, y]) le' hT
    exact ⟨_, g, rep_two upd_same ((rep_kv h2).mono g.g) ((h3.mono le).mono g.g)⟩
theorem itok_vals {a : Addr} {o : Obj} {ds : List (Val × Val)} {kvs : List (Key × V)} (h : G a = some (.frz o (.dK kvs))) (r : RepK w G ds kvs) : ItOk w (Itd a o kvs) G (ds.map (·.2)) where
  go := fun G' H i le le' hi => ⟨le' _ _ (le _ _ h), by rw [← repK_length r]; simpa using hi⟩
  stop := fun G' H i le le' hi => ⟨le' _ _ (le _ _ h), by rw [← repK_length r]; simpa using hi⟩
  yld := fun G' H i v x H' le le' hv ⟨e, q, hk⟩ => by
    subst e
    obtain ⟨d, h1, h2, h3⟩ := repK_at r hk
    simp only [List.getElem?_map, h1, Option.map_some, Option.some.injEq] at hv
    subst hv
    exact ⟨G', Grow.refl le', h3.mono le⟩
/-- i, x for the i-th x -/
def enumV (vs : List Val) : List Val := vs.mapIdx fun i v => .tup [.int (i : Nat), v]
theorem itok_enumL {a : Addr} {ds : List Val} {xs : List V} (h : SqL K G a xs) (r : Reps w G ds xs) : ItOk w (Ite K a) G (enumV ds) where
  go := fun G' H i le le' hi => by
    have hl := reps_length r
    have : i < xs.length := by rw [← hl]; simpa [enumV] using hi
    exact ⟨xs, xs[i], sql_mono (le.trans le') h, by simp [this]⟩
  stop := fun G' H i le le' hi => ⟨xs, sql_mono (le.trans le') h, by rw [← reps_length r]; simpa [enumV] using hi⟩
  yld := fun G' H i v x H' le le' hv ⟨T, y, hx, hT, e, hy⟩ => by
    subst e
    subst hx
    have hy' := hy xs (sql_mono (le.trans le') h)
    obtain ⟨d, h1, h2⟩ := reps_get' r hy'
    simp only [enumV, List.getElem?_mapIdx, h1, Option.map_some, Option.some.injEq] at hv
    subst hv
    have g := Grow.laidG (o := .tup [.int (i : Nat), y]) le' hT
    exact ⟨_, g, rep_two upd_same (rep_int.mpr rfl) ((h2.mono le).mono g.g)⟩
end
section
variable {X : Cx} {A : Act} {W : WX} {e : Expr} {f : EF} {apos cpos tpos : Pos} {elts : List Expr} {kk : Nat} {tg : Expr}
theorem itI_of {Iz : Addr → Obj → List (Key × V) → It} {vf : List (Val × Val) → List Val} {g : IF} {σ : L2.St} {H : Hp} {R : It → Hp → Prop}
    (hok : ∀ {G : Hp} {a : Addr} {o : Obj} {ds : List (Val × Val)} {kvs : List (Key × V)}, G a = some (.frz o (.dK kvs)) → RepK A.w G ds kvs → ItOk A.w (Iz a o kvs) G (vf ds))
    (hg : ∀ r, g r = match frz f r with
      | .ok _ (.dct false kvs) r' => .ok (vf kvs) r'
      | .ok _ _ _ => .bad
      | .ex e r' => .ex e r'
      | .bad => .bad) (h : tIt A W g σ H R) : tE A W (frz f) σ H fun x H1 => ∃ d o kvs, x = .ref d ∧ H1 d = some (.frz o (.dK kvs)) ∧ R (Iz d o kvs) H1 := by
  obtain ⟨r, G, k, m⟩ := h
  refine ⟨r, G, k, ?_⟩
  rw [hg] at m
  cases hf : frz f r with
  | bad => simp only [hf] at m
  | ex e r' => simp only [hf] at m ⊢; exact m
  | ok o v r' =>
    have eo := frz_false hf
    subst eo
    simp only [hf] at m ⊢
    intro x G1 H1 R1
    have rp : Rep A.w G1 v x := R1.tr
    cases v with
    | dct t ds =>
      cases t with
      | true => simp only at m
      | false =>
        simp only at m
        rw [Rep] at rp
        obtain ⟨a, rfl, ⟨_, kvs, o, h, rk⟩ | ⟨ht, _⟩⟩ := rp
        · exact ⟨a, o, kvs, rfl, R1.ok.sub _ _ h, m _ G1 H1 R1.ok R1.st (hok h rk)⟩
        · cases ht
    | _ => simp only at m
theorem pi_I (he : PE X e (tE A W f)) (hbase : attributeBase e "items" X.env (eval e X.env) = eval e X.env := by rfl) (hline : (apos.endLine == cpos.line) = true := by rfl) :
    PI X (.Tuple elts kk tpos) (.Call (.Attribute e "items" apos) [] [] cpos) (tIt A W (itI f)) :=
  PI.imp (pi_items (pe_frz he) hbase hline) fun σ H R h => itI_of (Iz := Iti) itok_items (fun r => by unfold itI; rfl) h
theorem pi_Vs (he : PE X e (tE A W f)) (hbase : attributeBase e "values" X.env (eval e X.env) = eval e X.env := by rfl) (hline : (apos.endLine == cpos.line) = true := by rfl) :
    PI X tg (.Call (.Attribute e "values" apos) [] [] cpos) (tIt A W (itVs f)) :=
  PI.imp (pi_values (pe_frz he) hbase hline) fun σ H R h => itI_of (Iz := Itd) itok_vals (fun r => by unfold itVs; rfl) h
end
end M
namespace PySem
open Sem (wp)
set_option maxHeartbeats 1000000 in
theorem meets_enum1 {v : Value} {o : Obj} {H : Heap → Prop} (B : Begins v o H) :
    Meets (Builtin.«enumerate.__new__» ⟨[.type "enumerate", v], []⟩) (fun _ R s => H s.heap ∧
      R (.ok (.ret (.ref (s.heap.push o).objs.size))) { s with heap := (s.heap.push o).push { cls := .type "enumerate", data := .fields #[.none, .bool false, .ref s.heap.objs.size, rawInt 0, .none, .none] } }) :=
  .of_wp fun prog w A R s h => by
    obtain ⟨hp, g, d, tk, os⟩ := s; obtain ⟨h1, h⟩ := h
    have hsub := sub_enumerate
    have q1 : ∀ {A' : Around} {E : Value → Shared → Prop} {Q : Value → Shared → Prop}, Q (.ref hp.objs.size) ⟨hp.push o, g, d, tk, os⟩ → wpAny (model prog w) A' (pyIter v) Q E ⟨hp, g, d, tk, os⟩ :=
      fun q => B.iter prog w _ _ ⟨hp, g, d, tk, os⟩ _ h1 q
    wp_walk using q1
    refine wpAny_stack_any fun st => wpAny_pure ?_
    split
    · rename_i c _ _ _ _ _
      cases (c == Value.type "enumerate")
      · wp_walk using q1
        exact ⟨_, rfl, h⟩
      · wp_walk using q1
        exact ⟨_, rfl, h⟩
    · wp_walk using q1
      exact ⟨_, rfl, h⟩
theorem enum_begins1 {prog : Program} {w : World} {A : Around} {E : Value → Shared → Prop} {s : Shared} {v : Value} {o : Obj} {H : Heap → Prop} {Q : Value → Shared → Prop} (B : Begins v o H) (h1 : H s.heap)
    (h : ∀ h', IsEnum h' (s.heap.objs.size + 1) s.heap.objs.size 0 .none → h'.get? s.heap.objs.size = some o → h'.objs.size = s.heap.objs.size + 2 →
      (∀ b o, s.heap.get? b = some o → h'.get? b = some o) → Q (.ref (s.heap.objs.size + 1)) { s with heap := h' }) :
    wpAny (model prog w) A (call (.type "enumerate") [v]) Q E s := by
  refine callType_new F.called_enumerate (by decide) (F.typeCall_enumerate_1 _) (F.newCall_enumerate_1 _) (fun obj => F.args_object_init_2 obj _) F.entry_enumerate_new
    (meets_enum1 B) ⟨h1, ?_⟩
  have hz : (s.heap.push o).objs.size = s.heap.objs.size + 1 := Heap.size_push ..
  show _ ∧ _
  rw [hz]
  have he : IsEnum ((s.heap.push o).push { cls := .type "enumerate", data := .fields #[.none, .bool false, .ref s.heap.objs.size, rawInt 0, .none, .none] }) (s.heap.objs.size + 1) s.heap.objs.size 0 .none := by
    have := Heap.get?_push_size (s.heap.push o) (o := { cls := .type "enumerate", data := .fields #[.none, .bool false, .ref s.heap.objs.size, rawInt 0, .none, .none] }) rfl
    rw [hz] at this; exact this
  refine ⟨⟨_, he, rfl⟩, h _ he (Heap.get?_push_of_some _ (Heap.get?_push_size _ B.free)) (by rw [Heap.size_push, hz]) fun b o x => Heap.get?_push_of_some _ (Heap.get?_push_of_some _ x)⟩
theorem enumT_end {prog : Program} {w : World} {A : Around} {E : Value → Shared → Prop} {s : Shared} {e it l : Addr} {c : Int} {i : Nat} {items : Array Value} {old : Value} {Q : Option Value → Shared → Prop} (hh : A.in1.in1.handled = none)
    (he : IsEnum s.heap e it c old) (hit : s.heap.IsTupleIter it l i) (hl : s.heap.IsTuple l items) (hx : items[i]? = none) (hQ : ∀ h', Heap.ExtBut it s.heap h' → Q none { s with heap := h' }) : wpAny (model prog w) A (pyNext (.ref e)) Q E s := by
  have hT : s.TypeIs (.ref e) "enumerate" := ⟨_, he, rfl⟩
  unfold pyNext
  refine wpAny_bind (wpAny_attempt (wpAny_callSpecial?_slot (name := Str.ofString "__next__") hT F.slot_enumerate_next
    (wpAny_call_entry F.slot_enumerate_next hT F.entry_enumerate_next ?_ (F.args_enumerate_next_1 _))))
  show wpAny _ _ (field (.ref e) 2 >>= _) _ _ _
  refine wpAny_bind (wpAny_field he rfl (x := .ref it) rfl ?_)
  refine wpAny_bind (wpAny_nextOf_tuple_end (by first | exact hh | assumption) hit hl hx fun h' x he' hx' => ?_)
  obtain ⟨o, ho, hc⟩ := hx'
  refine wpAny_bind (wpAny_isInstance (T := "StopIteration") (b := true) ⟨o, ho, hc⟩ isSubtype_stop ?_)
  exact wpAny_pure (hQ _ he')
end PySem
namespace M
open PySem L2
/-- what an enumerate over the tuple at a yields -/
def IteT (K : PySem.W.Frag) (a : Addr) : It :=
  ⟨fun i H => ∃ (xs : List V) (x : V), SqT K H a xs ∧ xs[i]? = some x, fun i H v H' => ∃ T x, v = .ref T ∧ H T = none ∧ H' = upd H T (.tup [.int (i : Nat), x]) ∧ ∀ xs, SqT K H a xs → xs[i]? = some x, fun i H => ∃ xs : List V, SqT K H a xs ∧ xs.length ≤ i⟩
theorem turn_enumT {P : Program} {w : World} {K : PySem.W.Frag} {elts : List Expr} {kk : Nat} {tpos : Pos} (a e it : Addr) :
    Turn P w K (.Tuple elts kk tpos) (IteT K a) [e, it] e (fun i h => (∃ old, IsEnum h e it ((i : Nat) : Int) old) ∧ h.IsTupleIter it a i ∧ e ≠ it ∧ a ≠ it ∧ a ≠ e) where
  mem := by simp
  obj := fun i h st b hb => by
    obtain ⟨⟨old, he⟩, ⟨o, ho, hc, hd⟩, _⟩ := st
    have e' : b = e ∨ b = it := by simpa using hb
    rcases e' with z | z
    · rw [z]; exact ⟨_, he, fun v q => nomatch q⟩
    · rw [z]; exact ⟨o, ho, fun v q => by rw [hd] at q; cases q⟩
  keep := fun i h h' st k => let ⟨⟨old, he⟩, hi, hne⟩ := st; ⟨⟨old, k e (by simp) _ he⟩, hi.at fun o q => k it (by simp) o q, hne⟩
  item := by
    intro X hP hw hK hc i pins s σ H E I hf st hg
    subst hP hw hK
    obtain ⟨⟨old, he⟩, hit, hne, ha1, ha2⟩ := st
    obtain ⟨xs, x, hq, hx⟩ := hg
    obtain ⟨its, rv, p, hz⟩ := I.tuple hq
    obtain ⟨u, hu, ru⟩ := rv.get hx
    have hel : e < s.heap.objs.size := Heap.lt_size he
    have hil : it < s.heap.objs.size := by obtain ⟨_, q, _⟩ := hit; exact Heap.lt_size q
    have hh : X.A.in1.handled = none := I.ok.hd hc
    have D : Draws X.prog X.w X.A.in1 it [it, a] its.toArray.size (fun i v => its.toArray[i]? = some v) (fun i h => h.IsTupleIter it a i ∧ h.IsTuple a its.toArray) := Draws.tuple hh it a ha1 its.toArray
    have hlt : i < its.toArray.size := by
      have := (List.getElem?_eq_some_iff.mp hu).1
      simpa using this
    refine wpAny_pyNext_enum_itemD D he ⟨hit, p⟩ hlt hne (by simp; exact ⟨hne, fun z => ha2 z.symm⟩) fun u' h' tk hP ho st' hT hsz hk => ?_
    have eu : u' = u := by
      have hP' : its[i]? = some u' := by simpa using hP
      rw [hu] at hP'
      exact (Option.some.inj hP').symm
    subst eu
    refine ⟨_, rfl, wpAny_letOwnedTupleGo_enum (s := { s with heap := h', toks := tk + 1 }) ho fun h'' he' sb => ?_⟩
    have hT2 : h''.get? s.heap.objs.size = some { cls := .type "tuple", data := .seq #[.int i tk, u'] } := (sb.2 _ (Nat.ne_of_gt hel)).trans hT
    have new : ObjOk X.prog X.w (upd H s.heap.objs.size (.tup [.int (i : Nat), x])) h'' s.heap.objs.size (.tup [.int (i : Nat), x]) :=
      ⟨by show 2 ≤ sizeLine; decide, [.int i tk, u'], .cons ⟨_, rfl⟩ (.cons ru .nil), ⟨_, hT2, rfl, _, rfl⟩⟩
    have I1 : Inv X pins σ (upd H s.heap.objs.size (.tup [.int (i : Nat), x])) { s with heap := h'', toks := tk + 1 } :=
      I.turnedNew (ch := [e, it]) (fun b ob hb q => (sb.2 b (fun z => hb (by simp [z]))).trans (hk b ob (fun z => hb (by simp [z])) (fun z => hb (by simp [z])) q)) hf (Nat.le_refl _) new
    refine ⟨.ref s.heap.objs.size, _, I1, rfl, ⟨_, x, rfl, I.hok.fresh (Nat.le_refl _), rfl, fun ys hy => by rw [I.tuple_inj hy hq]; exact hx⟩, ⟨⟨u', ?_⟩, st'.1.at fun o q => (sb.2 it (Ne.symm hne)).trans q, hne, ha1, ha2⟩, fun b hb => ?_⟩
    · have e1 : ((i + 1 : Nat) : Int) = (i : Int) + 1 := by omega
      rw [e1]; exact he'
    · have hb' : b < s.heap.objs.size := by
        have e' : b = e ∨ b = it := by simpa using hb
        rcases e' with z | z
        · rw [z]; exact hel
        · rw [z]; exact hil
      rw [upd_ne (Nat.ne_of_lt hb')]
      exact (hf b hb).1
  done := by
    intro X hP hw hK hc i pins s σ H E I hf st hg
    subst hP hw hK
    obtain ⟨⟨old, he⟩, hit, hne, ha1, ha2⟩ := st
    obtain ⟨xs, hq, hx⟩ := hg
    obtain ⟨its, rv, p, hz⟩ := I.tuple hq
    obtain ⟨f0, f1, f2, f3, f4, f5⟩ := hf it (by simp)
    have hl := rv.length
    exact enumT_end (I.ok.hd hc) he hit p (by simp; omega) fun h' eb => ⟨rfl, I.turned (t' := s.toks) (fun b o hb q => eb b o hb q) f0 f1 f3 f4 f5⟩
  self := fun A i s Q E st h => let ⟨⟨_, he⟩, _⟩ := st; wpAny_pyIter_enum he h
section
variable {w : Wd} {K : PySem.W.Frag} {G : Hp}
theorem itok_enumT {a : Addr} {ds : List Val} {xs : List V} (h : SqT K G a xs) (r : Reps w G ds xs) : ItOk w (IteT K a) G (enumV ds) where
  go := fun G' H i le le' hi => by
    have hl := reps_length r
    have : i < xs.length := by rw [← hl]; simpa [enumV] using hi
    exact ⟨xs, xs[i], sqt_mono (le.trans le') h, by simp [this]⟩
  stop := fun G' H i le le' hi => ⟨xs, sqt_mono (le.trans le') h, by rw [← reps_length r]; simpa [enumV] using hi⟩
  yld := fun G' H i v x H' le le' hv ⟨T, y, hx, hT, e, hy⟩ => by
    subst e
    subst hx
    have hy' := hy xs (sqt_mono (le.trans le') h)
    obtain ⟨d, h1, h2⟩ := reps_get' r hy'
    simp only [enumV, List.getElem?_mapIdx, h1, Option.map_some, Option.some.injEq] at hv
    subst hv
    have g := Grow.laidG (o := .tup [.int (i : Nat), y]) le' hT
    exact ⟨_, g, rep_two upd_same (rep_int.mpr rfl) ((h2.mono le).mono g.g)⟩
end
def itE (f : EF) : IF := fun r => match frz f r with
  | .ok _ (.lst vs) r' => .ok (enumV vs) r'
  | .ok _ (.tup vs) r' => .ok (enumV vs) r'
  | .ok _ _ _ => .bad
  | .ex e r' => .ex e r'
  | .bad => .bad
section
variable {X : Cx} {A : Act} {W : WX} {e : Expr} {f : EF} {p pos tpos : Pos} {elts : List Expr} {kk : Nat}
theorem pi_E (hw : A.w.K = X.K) (hg : Gl X "enumerate") (hm : X.mg "enumerate" = none) (he : PE X e (tE A W f)) (hs : starEach [e] X.env = [(false, eval e X.env)] := by rfl) :
    PI X (.Tuple elts kk tpos) (.Call (.Name "enumerate" p) [e] [] pos) (tIt A W (itE f)) := by
  refine ⟨fun pins s σ H R I h => ?_⟩
  have h2 : tE A W (frz f) σ H fun x H1 => ∃ J, R J H1 ∧ ((∃ a xs, x = .ref a ∧ J = Ite X.K a ∧ SqL X.K H1 a xs) ∨ ∃ a xs, x = .ref a ∧ J = IteT X.K a ∧ SqT X.K H1 a xs) := by
    obtain ⟨r, G, k, m⟩ := h
    refine ⟨r, G, k, ?_⟩
    unfold itE at m
    cases hf : frz f r with
    | bad => simp only [hf] at m
    | ex e r' => simp only [hf] at m ⊢; exact m
    | ok o v r' =>
      have eo := frz_false hf
      subst eo
      simp only [hf] at m ⊢
      intro x G1 H1 R1
      have rp : Rep A.w G1 v x := R1.tr
      have le := R1.ok.sub
      cases v with
      | lst vs =>
        simp only at m
        obtain ⟨a, xs, rfl, h, rs⟩ := rep_lst.mp rp
        exact ⟨_, m _ G1 H1 R1.ok R1.st (itok_enumL (K := X.K) (.inl (.inl h)) rs), .inl ⟨a, xs, rfl, rfl, .inl (.inl (le _ _ h))⟩⟩
      | tup vs =>
        simp only at m
        obtain ⟨a, xs, rfl, h, rs⟩ := rep_tup.mp rp
        rw [hw] at h
        exact ⟨_, m _ G1 H1 R1.ok R1.st (itok_enumT h rs), .inr ⟨a, xs, rfl, rfl, sqt_mono le h⟩⟩
      | _ => simp only at m
  have pa : PA X [e] (fun σ H Q => tE A W (frz f) σ H fun x H1 => Q [x] H1) := ⟨fun pos pins s σ H Q I h => (pa_cons (pe_frz he) pa_nil hs).run pos pins s σ H Q I h⟩
  refine PyProof.Rows.Call_ (ld_blt I hg hm (show bootBuiltins "enumerate" = some (.type "enumerate") by decide +kernel) (PyProof.Rows.callWith_type1 (thn (pa.run pos pins s σ H (fun vs H1 => ∃ x, vs = [x] ∧ ∃ J, R J H1 ∧ ((∃ a xs, x = .ref a ∧ J = Ite X.K a ∧ SqL X.K H1 a xs) ∨ ∃ a xs, x = .ref a ∧ J = IteT X.K a ∧ SqT X.K H1 a xs)) I (by
    obtain ⟨r, G, k, m⟩ := h2
    refine ⟨r, G, k, ?_⟩
    cases hf : frz f r with
    | bad => rw [hf] at m; exact m.elim
    | ex e r' => rw [hf] at m; exact m
    | ok o v r' => rw [hf] at m; exact fun x G' H' R' => ⟨x, rfl, m x G' H' R'⟩)) fun us s1 ⟨vs, H1, I1, r1, x, ev, J, hR, hx⟩ => ?_) hs rfl))
  subst ev
  cases r1 with
  | cons r rr =>
    cases rr
    have foot : ∀ {h' : Heap}, h'.objs.size = s1.heap.objs.size + 2 → ∀ b ∈ [s1.heap.objs.size + 1, s1.heap.objs.size], s1.heap.objs.size ≤ b := fun {h'} _ b hb => by
      have e' : b = s1.heap.objs.size + 1 ∨ b = s1.heap.objs.size := by simpa using hb
      rcases e' with z | z <;> omega
    rcases hx with ⟨a, xs, rfl, rfl, hq⟩ | ⟨a, xs, rfl, rfl, hq⟩
    · cases r
      obtain ⟨its, rv, p', hz⟩ := I1.list hq
      refine PySem.enum_begins1 (begins_list a its.toArray) p'.isList fun h' he hit hsz hk => wpAny_pyIter_enum he ?_
      have I2 : Inv X pins σ H1 { s1 with heap := h' } := I1.kept (t' := s1.toks) hk
      exact ⟨s1.heap.objs.size + 1, [s1.heap.objs.size + 1, s1.heap.objs.size], _, _, H1, rfl, I2, turn_enum a (s1.heap.objs.size + 1) s1.heap.objs.size, ⟨⟨.none, he⟩, ⟨_, hit, rfl, rfl⟩, Nat.succ_ne_self _⟩, fun b hb => I1.fpOk (foot hsz b hb) (I1.hok.fresh (foot hsz b hb)), hR⟩
    · cases r
      obtain ⟨its, rv, p', hz⟩ := I1.tuple hq
      have la : a < s1.heap.objs.size := by obtain ⟨o, ho, _⟩ := p'; exact Heap.lt_size ho
      refine PySem.enum_begins1 (begins_tuple a its.toArray) p' fun h' he hit hsz hk => wpAny_pyIter_enum he ?_
      have I2 : Inv X pins σ H1 { s1 with heap := h' } := I1.kept (t' := s1.toks) hk
      exact ⟨s1.heap.objs.size + 1, [s1.heap.objs.size + 1, s1.heap.objs.size], _, _, H1, rfl, I2, turn_enumT a (s1.heap.objs.size + 1) s1.heap.objs.size, ⟨⟨.none, he⟩, ⟨_, hit, rfl, rfl⟩, Nat.succ_ne_self _, Nat.ne_of_lt la, Nat.ne_of_lt (Nat.lt_succ_of_lt la)⟩, fun b hb => I1.fpOk (foot hsz b hb) (I1.hok.fresh (foot hsz b hb)), hR⟩
end
end M
/-! MPZ: get, sorted, dict(..), isinstance of several types. -/
namespace M
open PySem L2

/-! ### d.get -/
def Pdget : List Val → Option (Bool × Val)
  | [.dct false ds, k, .tup d] => (keyOf k).map fun q => (false, (dGet ds q).getD (.tup d))
  | [.dct false ds, k, .non] => (keyOf k).map fun q => (false, (dGet ds q).getD .non)
  | [.dct false ds, k] => (keyOf k).map fun q => (false, (dGet ds q).getD .non)
  | _ => none
theorem mtp_dget {X : Cx} {w : Wd} (c : Cal X w) : MtP X w "dict.get" Pdget := by
  intro pins s σ H x xs v us Q I rx rxs ⟨G, vs, o, z, le, rr, hp, q⟩
  have hu : X.A.units + 1 < cLine := by have := c.un; omega
  have two : ∀ {ds : List (Val × Val)} {k d : Val}, vs = [.dct false ds, k, d] → (∀ y, RRep w G H d y → Rep w G d y) → (keyOf k).map (fun q => (false, (dGet ds q).getD d)) = some (o, z) → EP X pins σ Q (.ref 0) s ∨ True → wpAny (model X.prog X.w) X.A (call (.builtin "dict.get") (v :: us)) (fun u s' => EP X pins σ Q u s') X.xe s := by
    intro ds k d e hd hq _
    subst e
    rw [Option.map_eq_some_iff] at hq
    obtain ⟨qk, hk, e⟩ := hq
    cases e
    obtain ⟨y1, ys, e, r1, r2⟩ := rr
    cases e
    obtain ⟨y2, ys, e, r2, r3⟩ := r2
    cases e
    obtain ⟨y3, ys, e, r3, r4⟩ := r3
    cases e
    obtain rfl := r4
    obtain ⟨rfl, _⟩ := rrep_key r2 hk
    obtain ⟨a, rfl, ⟨_, kvs, h, rk⟩ | ⟨ht, _⟩⟩ := rrep_dct le r1
    · obtain ⟨u1, u2, rfl, g1, g2⟩ := rxs.two
      cases (show v = Value.ref a from rx)
      have g : DGet H a (kV qk) (valV kvs qk) := .inl ⟨kvs, qk, h, rfl, rfl⟩
      refine d_get2 hu I g g1 g2 fun w' s3 I3 rw' => ⟨_, H, I3, rw', ?_⟩
      obtain ⟨h1, h2⟩ := repK_get (w := w) (G := G) qk rk
      cases e : dGet ds qk with
      | none => rw [h2 e]; rw [e] at q; exact q _ G H (Grow.refl le) (nrep_f (hd _ r3))
      | some d' => obtain ⟨b, e1, rb⟩ := h1 _ e; rw [e1]; rw [e] at q; exact q _ G H (Grow.refl le) (nrep_f rb)
    · cases ht
  unfold Pdget at hp
  split at hp
  · exact two rfl (fun y r => r.elim id fun ⟨_, _, z⟩ => z.elim) hp (.inr trivial)
  · exact two rfl (fun y r => r.elim id fun ⟨_, _, z⟩ => z.elim) hp (.inr trivial)
  · rw [Option.map_eq_some_iff] at hp
    obtain ⟨qk, hk, e⟩ := hp
    cases e
    obtain ⟨_, _, e, r1, r2⟩ := rreps_two rr
    cases e
    obtain ⟨rfl, _⟩ := rrep_key r2 hk
    obtain ⟨a, rfl, ⟨_, kvs, h, rk⟩ | ⟨ht, _⟩⟩ := rrep_dct le r1
    · obtain ⟨u1, rfl, g1⟩ := vals1 rxs
      cases (show v = Value.ref a from rx)
      have g : DGet H a (kV qk) (valV kvs qk) := .inl ⟨kvs, qk, h, rfl, rfl⟩
      refine d_get1 hu I g g1 fun w' s3 I3 rw' => ⟨_, H, I3, rw', ?_⟩
      obtain ⟨h1, h2⟩ := repK_get (w := w) (G := G) qk rk
      cases e : dGet _ qk with
      | none => rw [h2 e]; rw [e] at q; exact q _ G H (Grow.refl le) (nrep_f (rep_non.mpr rfl))
      | some d' => obtain ⟨b, e1, rb⟩ := h1 _ e; rw [e1]; rw [e] at q; exact q _ G H (Grow.refl le) (nrep_f rb)
    · cases ht
  · cases hp

/-! ### the sorted list of texts -/
def sle (a b : Str) : Bool := !Spec.ltCps b.cps.toList a.cps.toList
def srt (l : List Str) : List Str := l.mergeSort sle
theorem sle_iff {a b : Str} : sle a b = true ↔ a.cps.toList ≤ b.cps.toList := by
  unfold sle
  rw [PyProof.Rows.ltCps_eq, Bool.not_eq_true', decide_eq_false_iff_not, List.not_lt]
theorem sle_trans (a b c : Str) (h : sle a b = true) (h' : sle b c = true) : sle a c = true := sle_iff.mpr (List.le_trans (sle_iff.mp h) (sle_iff.mp h'))
theorem sle_total (a b : Str) : (sle a b || sle b a) = true := by
  rw [Bool.or_eq_true, sle_iff, sle_iff]; exact List.le_total ..
theorem sle_antisymm {a b : Str} (h : sle a b = true) (h' : sle b a = true) : a = b := by
  have := List.le_antisymm (sle_iff.mp h) (sle_iff.mp h')
  cases a; cases b
  simpa using this
theorem srt_perm (l : List Str) : (srt l).Perm l := List.mergeSort_perm ..
theorem srt_pair (l : List Str) : (srt l).Pairwise fun a b => sle a b = true := List.pairwise_mergeSort sle_trans sle_total l
theorem rising_pair : ∀ {l : List Str} {p : Str}, PyProof.Rows.risingS p l = true → (p :: l).Pairwise fun a b => sle a b = true
  | [], p, _ => by simp
  | x :: r, p, h => by
    simp only [PyProof.Rows.risingS, Bool.and_eq_true] at h
    have i := rising_pair h.2
    refine List.pairwise_cons.mpr ⟨fun y hy => ?_, i⟩
    rcases List.mem_cons.mp hy with rfl | hy
    · exact h.1
    · exact sle_trans _ _ _ h.1 (List.rel_of_pairwise_cons i hy)
theorem sortedS_pair {l : List Str} (h : PyProof.Rows.sortedS l = true) : l.Pairwise fun a b => sle a b = true := by
  cases l with
  | nil => exact .nil
  | cons x r => exact rising_pair h
theorem srt_unique {l l' : List Str} (hp : l'.Perm l) (hs : l'.Pairwise fun a b => sle a b = true) : l' = srt l :=
  (hp.trans (srt_perm l).symm).eq_of_pairwise (fun a b _ _ h h' => sle_antisymm h h') hs (srt_pair l)
theorem srt_eq {l ys : List Str} (hp : ys.Perm l) (hs : PyProof.Rows.sortedS ys = true) : ys = srt l := srt_unique hp (sortedS_pair hs)
theorem srt_congr {l l' : List Str} (h : l.Perm l') : srt l = srt l' := srt_unique ((srt_perm l).trans h) (srt_pair l)
theorem srt_len (l : List Str) : (srt l).length = l.length := (srt_perm l).length_eq
theorem srt_mem {l : List Str} {x : Str} : x ∈ srt l ↔ x ∈ l := (srt_perm l).mem_iff

def Psorted : List Val → Option (Bool × Val)
  | [.lst ds] => match asStrs ds with
    | some ys => if ys.length < 64 then some (true, .lst ((srt ys).map .str)) else none
    | none => none
  | [.tup ds] => match asStrs ds with
    | some ys => if ys.length < 64 then some (true, .lst ((srt ys).map .str)) else none
    | none => none
  | _ => none
theorem reps_of_strs {w : Wd} {G : Hp} : ∀ {ss : List Str}, (∀ s ∈ ss, s.length ≤ sizeLine) → Reps w G (ss.map Val.str) (ss.map V.str)
  | [], _ => reps_nil.mpr rfl
  | s :: ss, h => reps_cons.mpr ⟨_, _, rfl, rep_str.mpr ⟨rfl, h s (by simp)⟩, reps_of_strs fun x hx => h x (by simp [hx])⟩
theorem reps_strs_le {w : Wd} {G : Hp} : ∀ {ss : List Str} {xs : List V}, Reps w G (ss.map Val.str) xs → ∀ s ∈ ss, s.length ≤ sizeLine
  | [], _, _, _, h => by simp at h
  | s :: ss, _, r, x, h => by
    rw [List.map_cons, reps_cons] at r; obtain ⟨y, ys, e, r1, r2⟩ := r
    rcases List.mem_cons.mp h with rfl | h
    · exact (rep_str.mp r1).2
    · exact reps_strs_le r2 x h
section
open PyProof.Rows
variable {X : Cx} {w : Wd}
/-- sorted(t) of a tuple of fewer than 64 texts -/
theorem call_sortedT : CallR X (.builtin "sorted") (fun xs H Q => ∃ (a : Addr) (ks : List Str), xs = [.ref a] ∧ SqT X.K H a (ks.map V.str) ∧ ks.length < 64 ∧
    ∀ ys p, ys.Perm ks → sortedS ys = true → H p = none → Q (.ref p) (upd H p (.lst (ys.map V.str)))) := by
  intro pins s σ H xs us Q I r q
  obtain ⟨a, ks, ex, hd, h64, q⟩ := q
  subst ex
  obtain ⟨u, eu, rx⟩ := vals1 r
  subst eu
  cases rx
  obtain ⟨its, rv, ⟨o, ho, hc, n, hdat⟩, hz⟩ := I.tuple hd
  have hS : StrsAre its ks := rv.strs
  have hl : its.length = ks.length := hS.length
  refine Calls.call_function_entry PyProof.Rows.kind_sorted PyProof.Rows.plain_sorted PyProof.Rows.entry_sorted (PyProof.Rows.args_sorted1 _) ?_
  unfold Builtin.«sorted»
  refine wpAny_bind (m := checkCount "sorted" 1 1 _) (wpAny_pure ?_)
  refine wpAny_bind (wpAny_collect_seq a (.inr rfl) ho hc hdat (fun h' hk => ?_) (by rw [List.size_toArray, hl, sizeLine_eq]; omega))
  have I1 : Inv X pins σ H { s with heap := h' } := I.kept (t' := s.toks) hk
  have e0 : its.toArray.toList = its := by simp
  rw [e0]
  refine wpAny_bind (wpAny_newList ?_ (by rw [hl, sizeLine_eq]; omega))
  have hoL : (h'.push (seqObj "list" its.toArray 0)).get? h'.objs.size = some (seqObj "list" its.toArray 0) := Heap.get?_push_size _ rfl
  show wpAny _ _ _ _ _ { s with heap := h'.push (seqObj "list" its.toArray 0) }
  refine wpAny_bind (wpAny_holding (wpAny_call_entry PyProof.Rows.slot_list_sort ⟨_, hoL, rfl⟩ PyProof.Rows.entry_list_sort
    (list_sort_treeK strKind_oneLt (s := { s with heap := h'.push (seqObj "list" its.toArray 0) }) hoL hS.keysOf (fun v₁ v₂ rest e => keyKind_strs (by rw [← e]; exact hS)) (by rw [hl]; exact h64) fun st' hp hs => ⟨_, rfl, ?_⟩)
    (PyProof.Rows.args_list_sort _)))
  obtain ⟨ys, g1, g2, g3⟩ := sorted_out_str hS hp hs
  obtain ⟨e', he'⟩ := PyProof.Rows.sortedHeap_at (vs := its) (out := (arrOf st').map (·.2)) hoL
  have hlen : (ys.map V.str).length ≤ sizeLine := by
    rw [List.length_map, g2.length_eq]
    exact Nat.le_trans (Nat.le_of_lt h64) (by decide)
  refine wpAny_pure ⟨_, rfl, .ref h'.objs.size, upd H h'.objs.size (.lst (ys.map V.str)), I1.laid (t' := s.toks) (fun b u e => ?_) (Nat.le_refl _)
    (show ObjOk X.prog X.w _ _ _ (.lst (ys.map V.str)) from ⟨hlen, ((arrOf st').map (·.2)).toList, e', vals_of_strs g1, by rw [Array.toArray_toList]; exact he'⟩), rfl, q ys _ g2 g3 (I1.hok.fresh (Nat.le_refl _))⟩
  have hb : b < h'.objs.size := Heap.lt_size e
  rw [PyProof.Rows.sortedHeap_old (Nat.ne_of_lt hb) (by rw [size_push']; exact Nat.lt_succ_of_lt hb)]
  exact Heap.get?_push_of_some _ e
theorem bi_sorted (c : Cal X w) : CallR X (.builtin "sorted") (rOf w Psorted) := by
  intro pins s σ H xs us Q I r ⟨G, vs, o, z, le, rr, hp, q⟩
  unfold Psorted at hp
  split at hp
  · split at hp
    · rename_i ys hy
      split at hp
      · rename_i hb
        cases hp
        obtain ⟨x, e, r1⟩ := rreps_one rr
        subst e
        obtain ⟨a, zs, rfl, h, rs⟩ := rrep_lst le r1
        rw [asStrs_some hy] at rs
        have hz := reps_strs_le rs
        rw [reps_strs rs] at h
        refine cr_sortedS pins s σ H _ us Q I r ⟨a, ys, rfl, .inl (.inl h), hb, fun ys' p hp hs hn => ?_⟩
        rw [srt_eq hp hs]
        exact new_lst le hn (reps_of_strs fun x hx => hz x (srt_mem.mp hx)) q
      · cases hp
    · cases hp
  · split at hp
    · rename_i ys hy
      split at hp
      · rename_i hb
        cases hp
        obtain ⟨x, e, r1⟩ := rreps_one rr
        subst e
        obtain ⟨a, zs, rfl, h, rs⟩ := rrep_tup le r1
        rw [asStrs_some hy] at rs
        have hz := reps_strs_le rs
        rw [reps_strs rs, c.K] at h
        refine call_sortedT pins s σ H _ us Q I r ⟨a, ys, rfl, h, hb, fun ys' p hp hs hn => ?_⟩
        rw [srt_eq hp hs]
        exact new_lst le hn (reps_of_strs fun x hx => hz x (srt_mem.mp hx)) q
      · cases hp
    · cases hp
  · cases hp
end

/-! ### isinstance(x, (T, U)) -/
def kitA (a : String) : List Val → Option Bool
  | [] => some false
  | .ty T :: ts => match kitB a T with
    | some true => some true
    | some false => kitA a ts
    | none => none
  | _ => none
def Pisis : List Val → Option (Bool × Val)
  | [v, .tup ts] => match tyOf v with
    | some a => (kitA a ts).map fun b => (false, .bl b)
    | none => none
  | _ => none
theorem kitA_any {K : PySem.W.Frag} {G : Hp} {w : Wd} {a : String} : ∀ {ts : List Val} {xs : List V} {us : List Value} {b : Bool}, kitA a ts = some b → Reps w G ts xs → Vals xs us → PySem.W.kitAny K (.type a) us = some b
  | [], _, _, b, h, r, v => by
    rw [reps_nil] at r; subst r; cases v; cases h; rfl
  | .ty T :: ts, _, _, b, h, r, v => by
    rw [reps_cons] at r; obtain ⟨y, ys, e, r1, r2⟩ := r
    subst e
    obtain rfl := rep_ty.mp r1
    cases v with
    | @cons _ u _ us h1 h2 =>
      obtain rfl : u = .type T := h1
      simp only [kitA] at h
      split at h
      · rename_i e; cases h
        exact L2.kitAny_cons (kit_ty e) (fun z => nomatch z) fun _ => rfl
      · rename_i e
        exact L2.kitAny_cons (kit_ty e) (fun _ => kitA_any h r2 h2) fun z => nomatch z
      · cases h
theorem bi_isis {X : Cx} {w : Wd} (c : Cal X w) : CallR X (.builtin "isinstance") (rOf w Pisis) := by
  intro pins s σ H xs us Q I r ⟨G, vs, o, z, le, rr, hp, q⟩
  unfold Pisis at hp
  split at hp
  · split at hp
    · rename_i T hT
      rw [Option.map_eq_some_iff] at hp
      obtain ⟨b, hb, e⟩ := hp
      cases e
      obtain ⟨x, y, e, r1, r2⟩ := rreps_two rr
      subst e
      obtain ⟨u1, u2, rfl, g1, g2⟩ := vals2 r
      obtain ⟨a, zs, rfl, h, rs⟩ := rrep_tup le r2
      obtain ⟨P, hx, hP, hn⟩ := kit_val c I g1 le r1 hT
      rw [c.K] at h
      obtain ⟨its, rv, ⟨ob, ho, hc, n, hd⟩, _⟩ := I.tuple h
      cases (show u2 = Value.ref a from g2)
      obtain ⟨oc, od, dt, sl⟩ := ob
      simp only at hc hd
      subst hc hd
      exact PySem.W.kia_tup hx I.kIn hP ho (kitA_any hb rs rv) hn fun tk => ⟨.bl b, H, I.tok tk, rfl, bl_new le q⟩
    · cases hp
  · cases hp
end M
/-! MPM: {**d, k: v}. -/
namespace M
open PySem L2 PySem.Spec
section
variable {prog : Program} {w : World} {A : Around} {E : Value → Shared → Prop} {s : Shared}
theorem wpAny_dictPut {d : Addr} {kvs : List (Key × Value)} {k : Key} {key v : Value} {Q : Unit → Shared → Prop} (hkey : (mixKind prog w).is k key = true) (hm : s.heap.DictOf (mixKind prog w) d kvs)
    (hQ : ∀ h', h'.DictOf (mixKind prog w) d (stored kvs k v) → Heap.SameBut d s.heap h' → Q () { s with heap := h' })
    (hsz : kvs.length ≤ sizeLine := by size_fits) :
    wpAny (model prog w) A (dictPut d ((mixKind prog w).hash k) key v) Q E s := by
  obtain ⟨o, es, ep, ho, hc, hd, hk, hp, hn⟩ := hm
  have hes : es.size ≤ sizeLine := by have e1 := hp.length; have e2 : es.toList.length = es.size := by simp
                                      omega
  unfold dictPut
  refine wpAny_bind (wpAny_dictFind_of hkey ho hd hk ?_)
  have hidx : (es.findIdx? fun e => (mixKind prog w).is k e.key) = kvs.findIdx? fun kv => decide (kv.1 = k) := by
    rw [← hp.findIdx k]; obtain ⟨l⟩ := es; simp
  cases hi : es.findIdx? fun e => (mixKind prog w).is k e.key with
  | some i =>
    refine wpAny_updateDict ho hd (hQ _ ⟨_, _, ep, Heap.get?_update_self _ ho (Obj.isFreed_of_dict (Obj.data_mapDict hd _)),
      hc.mapDict _, Obj.data_mapDict hd _, hk.modify _ _, ?_, ?_⟩ (Heap.SameBut.update ..))
    · rw [stored, if_pos (any_of_findIdx_some (hidx ▸ hi))]
      have hl : (es.toList.findIdx? fun e => (mixKind prog w).is k e.key) = some i := by rw [← hi]; obtain ⟨l⟩ := es; simp
      have := hp.modify hn hl v
      obtain ⟨l⟩ := es
      simpa using this
    · rw [stored, if_pos (any_of_findIdx_some (hidx ▸ hi)), keys_map_store]; exact hn
  | none =>
    have hnot : k ∉ kvs.map (·.1) := not_mem_of_findIdx_none (hidx ▸ hi)
    have hany : ¬ (kvs.any fun kv => decide (kv.1 = k)) = true := by
      rw [List.any_eq_true]; rintro ⟨kv, hkv, he⟩
      exact hnot (List.mem_map.mpr ⟨kv, hkv, of_decide_eq_true he⟩)
    refine wpAny_updateDictKeys (hz := hes) ho hd (hQ _ ⟨_, _, ep + 1, Heap.get?_update_self _ ho (Obj.isFreed_of_dict (Obj.data_mapDictKeys hd _)),
      hc.mapDictKeys _, Obj.data_mapDictKeys hd _, hk.push hkey _, ?_, ?_⟩ (Heap.SameBut.update ..))
    · rw [stored, if_neg hany]
      have := hp.append hkey ((mixKind prog w).hash k) v
      obtain ⟨l⟩ := es
      simpa using this
    · rw [stored, if_neg hany, List.map_append, List.nodup_append]
      refine ⟨hn, by simp, ?_⟩
      intro a ha b hb
      simp only [List.map_cons, List.map_nil, List.mem_singleton] at hb
      subst hb
      exact fun e => hnot (e ▸ ha)
theorem wpAny_mergeMapping {d o : Addr} {kvs more : List (Key × Value)} {Q : Unit → Shared → Prop} (hdo : d ≠ o) (hoS : (o == sysModules) = false)
    (hd : s.heap.DictOf (mixKind prog w) d kvs) (ho : s.heap.DictOf (mixKind prog w) o more)
    (hQ : ∀ h', h'.DictOf (mixKind prog w) d (merged kvs more) → h'.DictOf (mixKind prog w) o more → Heap.SameBut d s.heap h' → Q () { s with heap := h' })
    (hsz : kvs.length + more.length ≤ sizeLine := by size_fits) :
    wpAny (model prog w) A (mergeMapping d (.ref o) false) Q E s := by
  obtain ⟨od, esd, epd, hod, hcd, hdd, hkd, hpd, hnd⟩ := id hd
  obtain ⟨oo, eso, epo, hoo, hco, hdo', hko, hpo, hno⟩ := id ho
  have hlen : more.length = eso.size := by rw [← hpo.length]; simp
  unfold mergeMapping
  refine wpAny_bind (wpAny_isInstance ho.typeIs isSubtype_dict_dict ?_)
  simp only [if_true]
  refine wpAny_bind (wpAny_specialOf ho.typeIs F.slot_dict_iter.lookup ?_)
  simp only [beq_self_eq_true, pure_bind]
  rw [if_neg (by rw [hoS]; exact Bool.false_ne_true)]
  have loop : wpAny (model prog w) A (do
      let size := (← dictEntries o).size
      let epoch ← dictEpoch o
      for i in List.range size do
        let some e := (← dictEntries o)[i]? | unsupported "dict.changed-during-merge"
        holding [e.key, e.val] do
          if false = true then
            if (← dictFind d e.key e.hash).isSome then rule "dict.merge.duplicate-key"; raiseNew (← newExc (.type "KeyError") [e.key])
          dictPut d e.hash e.key e.val
        if (← dictEpoch o) != epoch then unsupported "dict.changed-during-merge") Q E s := by
    refine wpAny_bind (wpAny_dictEntries hoo hdo' ?_)
    refine wpAny_bind (wpAny_dictEpoch hoo hdo' ?_)
    refine wpAny_bind ?_
    rw [List.range_eq_range']
    refine wpAny_forIn_list _
      (fun rest _ s' => ∃ h' i, s' = { s with heap := h' } ∧ rest = List.range' i (eso.size - i) ∧ i ≤ eso.size ∧ h'.DictOf (mixKind prog w) d (merged kvs (more.take i)) ∧ h'.get? o = some oo ∧ Heap.SameBut d s.heap h')
      _ ?_ ?_ _ _ ⟨s.heap, 0, rfl, by simp, Nat.zero_le _, by simpa [merged] using hd, hoo, Heap.SameBut.refl _ _⟩
    · rintro x rest b s' ⟨h', i, rfl, hr, hi, hd', hoo', hs'⟩
      have hlt : i < eso.size := by
        rcases Nat.lt_or_ge i eso.size with h | h
        · exact h
        · rw [Nat.sub_eq_zero_of_le h] at hr; simp at hr
      obtain ⟨rfl, hrest⟩ : x = i ∧ rest = List.range' (i + 1) (eso.size - (i + 1)) := by
        have e : eso.size - i = (eso.size - (i + 1)) + 1 := by omega
        rw [e, List.range'_succ] at hr
        injection hr with h1 h2
        exact ⟨h1, h2⟩
      refine wpAny_bind (wpAny_dictEntries hoo' hdo' ?_)
      rw [Array.getElem?_eq_getElem hlt]
      obtain ⟨kv, hkv⟩ : ∃ kv, more[x]? = some kv := ⟨more[x]'(by rw [hlen]; exact hlt), List.getElem?_eq_getElem _⟩
      obtain ⟨k, v⟩ := kv
      obtain ⟨hkey, hval⟩ := hpo.get? (e := eso[x]) (by simp [hlt]) hkv
      obtain ⟨k', hkey', hhash⟩ := hko eso[x] (Array.getElem_mem hlt)
      obtain rfl : k' = k := (mixKind prog w).inj _ _ _ hkey' hkey
      show wpAny _ _ (holding [eso[x].key, eso[x].val] (dictPut d eso[x].hash eso[x].key eso[x].val) >>= _) _ _ _
      rw [hhash, hval]
      have hmx : (merged kvs (more.take x)).length ≤ sizeLine := by
        have e1 := merged_length_le kvs (more.take x)
        have e2 : (more.take x).length ≤ more.length := by rw [List.length_take]; omega
        omega
      refine wpAny_bind (wpAny_holding (wpAny_dictPut (hsz := hmx) hkey hd' fun h'' hd'' hs'' => ?_))
      have hoo'' : h''.get? o = some oo := (hs''.2 o (Ne.symm hdo)).trans hoo'
      refine wpAny_bind (wpAny_dictEpoch hoo'' hdo' ?_)
      rw [if_neg (by simp)]
      exact wpAny_pure ⟨h'', x + 1, rfl, hrest, hlt, by rw [merged_take_succ kvs more x (k', v) hkv]; exact hd'', hoo'', hs'.trans hs''⟩
    · rintro b s' ⟨h', i, rfl, hr, hi, hd', hoo', hs'⟩
      have hin : i = eso.size := by
        rcases Nat.lt_or_ge i eso.size with h | h
        · have e : eso.size - i = (eso.size - (i + 1)) + 1 := by omega
          rw [e, List.range'_succ] at hr; exact nomatch hr
        · exact Nat.le_antisymm hi h
      refine wpAny_pure (hQ h' ?_ ⟨oo, eso, epo, hoo', hco, hdo', hko, hpo, hno⟩ hs')
      rw [hin, ← hlen, List.take_length] at hd'; exact hd'
  refine wpAny_bind (wpAny_dictEntries hod hdd ?_)
  split
  · refine wpAny_bind (wpAny_dictEntries hoo hdo' ?_)
    refine wpAny_bind ?_
    rw [← Array.forIn_toList]
    refine wpAny_forIn_list _ (fun rest _ s' => s' = s ∧ ∀ e ∈ rest, e ∈ eso.toList) _ ?_ ?_ _ _ ⟨rfl, fun e h => h⟩
    · rintro x rest b s' ⟨rfl, hr⟩
      obtain ⟨k, hk, _⟩ := hko x (Array.mem_toList_iff.mp (hr x (by simp)))
      rcases keyIs_shape (show L2.keyIs k x.key = true from hk) with ⟨i, t, _, ev⟩ | ⟨z, t, _, ev⟩
      · rw [ev]
        exact wpAny_pure ⟨rfl, fun e h => hr e (by simp [h])⟩
      · rw [ev]
        exact wpAny_pure ⟨rfl, fun e h => hr e (by simp [h])⟩
    · rintro b s' ⟨rfl, _⟩
      exact loop
  · exact loop


theorem disp_star {v1 k v2 : Sem Value} {Q : Value → Shared → Prop}
    (h : wpAny (model prog w) A v1 (fun m s1 => wpAny (model prog w) A (mergeMapping s.heap.objs.size m false) (fun _ s2 => wpAny (model prog w) A (subDict [(k, v2)])
      (fun sub s3 => wpAny (model prog w) A (mergeMapping s.heap.objs.size (.ref sub) false) (fun _ s4 => Q (.ref s.heap.objs.size) s4) (fun _ _ => False) s3) E s2) (fun _ _ => False) s1) E
      { s with heap := s.heap.push { cls := .type "dict", data := .dict #[] } }) : wpAny (model prog w) A (dictDisplay [(none, v1), (some k, v2)]) Q E s := by
  unfold dictDisplay
  simp only [List.forIn_cons, List.forIn_nil, List.isEmpty_nil, if_true, pure_bind, List.nil_append, List.length_cons, List.length_nil, Bool.false_eq_true, if_false, List.isEmpty_cons, bind_assoc]
  refine wpAny_bind (wpAny_alloc ?_)
  refine wpAny_bind (wpAny_holding (wpAny_mono h (fun m s1 h1 => ?_) fun _ _ e => e))
  refine wpAny_bind (wpAny_onRaise (wpAny_tryCatch (wpAny_onRaise (wpAny_holding (wpAny_mono h1 (fun _ s2 h2 => ?_) fun _ _ z => z.elim)))))
  rw [if_neg (by decide)]
  simp only [pure_bind, List.isEmpty_cons, Bool.false_eq_true, if_false, bind_assoc]
  refine wpAny_bind (wpAny_holding (wpAny_mono h2 (fun sub s3 h3 => ?_) fun _ _ e => e))
  refine wpAny_bind (wpAny_onRaise (wpAny_holding (wpAny_mono h3 (fun _ s4 h4 => wpAny_pure h4) fun _ _ z => z.elim)))
end

/-- {**d, k: v} with keys ints and texts; the new dict and the one of the pair stand while the parts are made -/
def tDst (te tk tv : TE) : TE := fun σ H Q => ∀ n, H n = none → te σ (upd H n (.dK [])) fun x H1 => H1 n = some (.dK []) ∧ ∃ o more, x = .ref o ∧ o ≠ n ∧ Rd H1 o (.dK more) ∧ more.length < sizeLine ∧
  ∀ p, upd H1 n (.dK more) p = none → tk σ (upd (upd H1 n (.dK more)) p (.dK [])) fun y H2 => tv σ H2 fun z H3 => H3 p = some (.dK []) ∧ H3 n = some (.dK more) ∧ n ≠ p ∧ ∃ q : Key, y = kV q ∧
    Q (.ref n) (upd (upd H3 p (.dK [(q, z)])) n (.dK (putK more q z)))
theorem pe_dst {X : Cx} {pos : Pos} {e k v : Expr} {te tk tv : TE} (he : PE X e te) (hk : PE X k tk) (hv : PE X v tv) : PE X (.Dict [none, some k] [e, v] pos) (tDst te tk tv) := by
  refine ⟨fun pins s σ H Q I q => ?_⟩
  have hn := I.hok.fresh (Nat.le_refl s.heap.objs.size)
  have I1 := I.laid (a := s.heap.objs.size) (o := .dK []) (h' := s.heap.push { cls := .type "dict", data := .dict #[] }) (t' := s.toks) (fun _ _ q => Heap.get?_push_of_some _ q) (Nat.le_refl _) (dk_empty s.heap I.big)
  rw [arm_eval_Dict]
  refine wpAny_bind (wpAny_standAt ?_)
  show wpAny _ _ (dictDisplay [(none, do let x ← eval e X.env; standAt pos; pure x), (some (eval k X.env), do let x ← eval v X.env; standAt pos; pure x)]) _ _ _
  refine disp_star (wpAny_bind (wpAny_mono (he.run pins _ σ _ _ I1 (q _ hn)) (fun u s1 ⟨x, H1, I2, rx, e1, o, more, ex, hne, hr, hl, q1⟩ => ?_) fun _ _ z => z))
  subst ex
  obtain rfl : u = Value.ref o := rx
  obtain ⟨z, ho, vs, rel, dd⟩ := dk_rd I2.hok hr
  obtain ⟨_, hd, vs0, r0, d0⟩ := dk_of I2.hok e1
  cases r0
  refine wpAny_bind (wpAny_standAt (wpAny_pure ?_))
  have hnd : (vs.map (·.1)).Nodup := let ⟨_, _, _, _, _, _, _, _, hn⟩ := dd; hn
  refine wpAny_mergeMapping (Ne.symm hne) ho d0 dd (fun h' dn dd' hs => ?_) (by rw [List.length_nil, ← rel.length]; omega)
  rw [merged_nil_of_nodup vs hnd] at dn
  have I3 : Inv X pins σ (upd H1 s.heap.objs.size (.dK more)) { s1 with heap := h' } := d_write (t' := s1.toks) I2 (by rw [e1]; exact True.intro) hs (let ⟨q, _, _, hq, _⟩ := dn; ⟨q, hq⟩) (dk_new z hd rel dn)
  have hp := I3.hok.fresh (Nat.le_refl h'.objs.size)
  have I4 := I3.laid (a := h'.objs.size) (o := .dK []) (h' := h'.push { cls := .type "dict", data := .dict #[] }) (t' := s1.toks) (fun _ _ q => Heap.get?_push_of_some _ q) (Nat.le_refl _) (dk_empty h' I3.big)
  refine wpAny_subDict (knd := mixKind X.prog X.w) (by show 1 ≤ 15; omega) (evalPairs_cons (wpAny_mono (hk.run pins _ σ _ _ I4 (q1 _ hp)) (fun u s2 ⟨y, H2, I5, ry, q2⟩ => wpAny_bind (wpAny_mono (hv.run pins _ σ _ _ I5 q2) (fun u' s3 ⟨zz, H3, I6, rz, e3, e4, hnp, qk, ey, q3⟩ => ?_) fun _ _ z => z)) fun _ _ z => z))
  subst ey
  refine wpAny_bind (wpAny_standAt (wpAny_pure (evalPairs_nil ?_)))
  obtain ⟨_, hd3, vs3, r3, d3⟩ := dk_of I6.hok e3
  cases r3
  refine ⟨[(qk, u')], ⟨kV_is ry, rfl, True.intro⟩, d3, fun h4 d4 hs4 => ?_⟩
  have d4' : h4.DictOf (mixKind X.prog X.w) h'.objs.size [(qk, u')] := d4
  have I7 : Inv X pins σ (upd H3 h'.objs.size (.dK [(qk, zz)])) { s3 with heap := h4, toks := s3.toks + 1 } := d_write (t' := s3.toks + 1) I6 (by rw [e3]; exact True.intro) hs4 (let ⟨q, _, _, hq, _⟩ := d4'; ⟨q, hq⟩)
    (dk_new (by show 1 ≤ sizeLine; rw [sizeLine_eq]; omega) hd3 (.cons ⟨rfl, rz⟩ .nil) d4')
  have e5 : upd H3 h'.objs.size (.dK [(qk, zz)]) s.heap.objs.size = some (.dK more) := by rw [upd_ne hnp]; exact e4
  obtain ⟨z5, hd5, vs5, r5, d5⟩ := dk_of I7.hok e5
  refine wpAny_mergeMapping hnp hd3 d5 d4' (fun h6 d6 _ hs6 => ?_) (by rw [← r5.length]; show more.length + 1 ≤ sizeLine; omega)
  have hlp := length_putK more qk zz
  exact ⟨.ref s.heap.objs.size, _, d_write (t' := s3.toks + 1) I7 (by rw [e5]; exact True.intro) hs6 (let ⟨q, _, _, hq, _⟩ := d6; ⟨q, hq⟩) (dk_new (by omega) hd5 (r5.put qk rz) d6), rfl, q3⟩
end M
/-! MPT: {**d, k: v} by combinators; len, list, dict, tuple of dicts. -/
namespace M
open PySem L2
def dst (fe fk fv : EF) : EF := fun r => match frz fe r with
  | .ok _ (.dct false ds) r1 => if ds.length < 100000 then match frz fk r1 with
      | .ok _ k r2 => match frz fv r2 with
        | .ok _ v r3 => match keyOf k with
          | some q => .ok true (.dct false (dPut ds q v)) r3
          | none => .bad
        | .ex e r3 => .ex e r3
        | .bad => .bad
      | .ex e r2 => .ex e r2
      | .bad => .bad
    else .bad
  | .ok _ _ _ => .bad
  | .ex e r1 => .ex e r1
  | .bad => .bad
section
variable {A : Act}
/-- a temporary of ours stays out of the known heap -/
theorem Step.none {σ : L2.St} {r r1 : Env} {G G1 H H1 : Hp} {p : Addr} (st : Step σ r G H r1 G1 H1) (h : G p = none) (e : H p ≠ none) (nr : ¬ Rt r σ p) : G1 p = none := by
  cases z : G1 p with
  | none => rfl
  | some u =>
    rcases st.grow p h (by rw [z]; simp) with y | y
    · exact absurd y e
    · exact absurd y nr
end
theorem pe_dstM {X : Cx} {A : Act} {W : WX} {pos : Pos} {e k v : Expr} {fe fk fv : EF} (he : PE X e (tE A W fe)) (hk : PE X k (tE A W fk)) (hv : PE X v (tE A W fv)) : PE X (.Dict [none, some k] [e, v] pos) (tE A W (dst fe fk fv)) := by
  refine PE.imp (pe_dst (pe_frz he) (pe_frz hk) (pe_frz hv)) fun σ H Q ⟨r, G, k, m⟩ n hn => ?_
  have k0 := k.grow (Grow.laidH (o := .dK []) k.sub hn)
  refine ⟨r, G, k0, ?_⟩
  unfold dst at m
  cases h1 : frz fe r with
  | bad => simp only [h1] at m
  | ex e r1 => simp only [h1] at m ⊢; exact m
  | ok o1 dv r1 =>
    have eo := frz_false h1
    subst eo
    simp only [h1] at m ⊢
    intro x G1 H1 R1
    cases dv with
    | dct t ds =>
      cases t with
      | true => exact m.elim
      | false =>
        simp only at m
        have nr := k.notRt hn
        have e1 : H1 n = some (.dK []) := R1.st.keep n _ upd_same nr
        have n1 : G1 n = none := R1.st.none (k.sub.back hn) (by rw [upd_same]; simp) nr
        have nr1 : ¬ Rt r1 σ n := fun z => nr (R1.st.rts n z)
        have tr := (show Rep A.w G1 (.dct false ds) x from R1.tr)
        rw [Rep] at tr
        obtain ⟨a, ex, ⟨_, kvs, ob, hG, rk⟩ | ⟨z, _⟩⟩ := tr
        case inr => cases z
        by_cases hd : ds.length < 100000
        case neg => rw [if_neg hd] at m; exact m.elim
        rw [if_pos hd] at m
        have hl : kvs.length < sizeLine := by rw [← repK_length rk]; exact Nat.lt_of_lt_of_le hd (by decide)
        have hne : a ≠ n := fun z => by rw [z, n1] at hG; cases hG
        have k1 : Ok A G1 (upd H1 n (.dK kvs)) σ r1 := R1.ok.other n1 nr1 (k.fresh hn)
        refine ⟨e1, a, kvs, ex, hne, .inr ⟨ob, R1.ok.sub _ _ hG⟩, hl, fun p hp => ?_⟩
        have hpn : p ≠ n := fun z => by rw [z, upd_same] at hp; cases hp
        have hp1 : H1 p = none := by rw [upd_ne hpn] at hp; exact hp
        have k2 := k1.grow (Grow.laidH (o := .dK []) k1.sub hp)
        have nrp := R1.ok.notRt hp1
        refine ⟨r1, G1, k2, ?_⟩
        cases h2 : frz fk r1 with
        | bad => simp only [h2] at m
        | ex e r2 => simp only [h2] at m ⊢; exact m.mono R1.st.ex
        | ok o2 kd r2 =>
          have eo := frz_false h2
          subst eo
          simp only [h2] at m ⊢
          intro y G2 H2 R2
          refine ⟨r2, G2, R2.ok, ?_⟩
          cases h3 : frz fv r2 with
          | bad => simp only [h3] at m
          | ex e r3 => simp only [h3] at m ⊢; exact m.mono (R1.st.ex.trans R2.st.ex)
          | ok o3 vd r3 =>
            have eo := frz_false h3
            subst eo
            simp only [h3] at m ⊢
            intro z G3 H3 R3
            cases hq : keyOf kd with
            | none => simp only [hq] at m
            | some q =>
              simp only [hq] at m
              have st := R2.st.trans R3.st
              have i2 : upd (upd H1 n (.dK kvs)) p (.dK []) n = some (.dK kvs) := by rw [upd_ne (Ne.symm hpn), upd_same]
              have e3 : H3 p = some (.dK []) := st.keep p _ upd_same nrp
              have e4 : H3 n = some (.dK kvs) := st.keep n _ i2 nr1
              have p3 : G3 p = none := st.none (R1.ok.sub.back hp1) (by rw [upd_same]; simp) nrp
              have n3 : G3 n = none := st.none n1 (by rw [i2]; simp) nr1
              have nr3 : ¬ Rt r3 σ n := fun z => nr1 (st.rts n z)
              have np3 : ¬ Rt r3 σ p := fun z => nrp (st.rts p z)
              obtain ⟨ek, hb⟩ := rrep_key (H := H2) (.inl (show Rep A.w G2 kd y from R2.tr)) hq
              refine ⟨e3, e4, Ne.symm hpn, q, ek, ?_⟩
              have lp : A.L p ∨ A.H0 p = none := R1.ok.fresh hp1
              refine m _ G3 _ ⟨(R3.ok.other p3 np3 lp).other n3 nr3 (k.fresh hn), ⟨R1.st.ex.trans st.ex, fun b o hb nb => ?_, fun b hb hb' => ?_, fun b z => R1.st.rts b (st.rts b z)⟩, trep_t (.inl ⟨rfl, _, upd_same, repK_put (rk.mono st.ex) hb R3.tr⟩) n3 nr3 (k.fresh hn), fun _ a e => by cases e; exact .inl hn⟩
              · have ne : b ≠ n := ne_of_none hb hn
                have hb1 := R1.st.keep b o (by rw [upd_ne ne]; exact hb) nb
                have nep : b ≠ p := ne_of_none hb1 hp1
                rw [upd_ne ne, upd_ne nep]
                exact st.keep b o (by rw [upd_ne nep, upd_ne ne]; exact hb1) fun z => nb (R1.st.rts b z)
              · have ne : b ≠ n := fun z => hb' (by rw [z]; exact n3)
                have nep : b ≠ p := fun z => hb' (by rw [z]; exact p3)
                by_cases g : G1 b = none
                · rcases st.grow b g hb' with y | y
                  · rw [upd_ne nep, upd_ne ne] at y
                    have := R1.st.fresh y
                    rw [upd_ne ne] at this
                    exact this
                  · exact .inr (R1.st.rts b y)
                · have := R1.st.grow b hb g
                  rw [upd_ne ne] at this
                  exact this
    | _ => exact m.elim

/-! ### built-in functions on dicts -/
def PlenD : List Val → Option (Bool × Val)
  | [.dct false ds] => some (false, .int ds.length)
  | _ => none
def keysOfD (ds : List (Val × Val)) : List Val := ds.map (·.1)
def PlistD : List Val → Option (Bool × Val)
  | [.dct false ds] => some (true, .lst (keysOfD ds))
  | _ => none
def asPairs : List Val → Option (List (Val × Val))
  | [] => some []
  | .tup [k, v] :: l => (asPairs l).map ((k, v) :: ·)
  | _ => none
def Pdict : List Val → Option (Bool × Val)
  | [.dct false ds] => some (true, .dct false ds)
  | [.lst ds] => match asPairs ds with
    | some kvs => match putAll [] kvs with
      | some es => some (true, .dct false es)
      | none => none
    | none => none
  | _ => none
def PsortedD : List Val → Option (Bool × Val)
  | [.dct false ds] => match asStrs (keysOfD ds) with
    | some ys => if ys.length < 64 then some (true, .lst ((srt ys).map .str)) else none
    | none => none
  | _ => none
def PlenX := orP Plen PlenD
def PlistX := orP Plist PlistD
def PsortedX := orP Psorted PsortedD
section
variable {X : Cx} {w : Wd}
theorem reps_keys {G : Hp} : ∀ {ds : List (Val × Val)} {kvs : List (Key × V)}, RepK w G ds kvs → Reps w G (keysOfD ds) (kvs.map fun kv => kV kv.1)
  | [], _, r => by rw [RepK] at r; subst r; exact reps_nil.mpr rfl
  | (k, d) :: ds, _, r => by
    rw [RepK] at r
    obtain ⟨q, y, ys, e, ⟨ek, hb⟩, r1, r2⟩ := r
    subst e
    refine reps_cons.mpr ⟨kV q, _, rfl, ?_, reps_keys r2⟩
    subst ek
    cases q with
    | inl i => exact rep_int.mpr rfl
    | inr z => exact rep_str.mpr ⟨rfl, hb⟩
theorem rrep_dK {G H : Hp} {ds : List (Val × Val)} {x : V} (le : Le G H) (r : RRep w G H (.dct false ds) x) : ∃ a kvs, x = .ref a ∧ Rd H a (.dK kvs) ∧ RepK w G ds kvs := by
  obtain ⟨a, e, ⟨_, kvs, h, rk⟩ | ⟨ht, _⟩⟩ := rrep_dct le r
  · exact ⟨a, kvs, e, h, rk⟩
  · cases ht
theorem bi_lenD : CallR X (.builtin "len") (rOf w PlenD) := by
  intro pins s σ H xs us Q I r ⟨G, vs, o, z, le, rr, hp, q⟩
  unfold PlenD at hp
  split at hp
  · cases hp
    obtain ⟨x, e, r1⟩ := rreps_one rr
    subst e
    obtain ⟨a, kvs, rfl, h, rk⟩ := rrep_dK le r1
    obtain ⟨u, rfl, ru⟩ := vals1 r
    cases ru
    refine d_len I h fun t s' I' => ⟨.int kvs.length, H, I', ⟨t, rfl⟩, ?_⟩
    rw [← repK_length rk]
    exact int_new le q
  · cases hp
theorem bi_listD (c : Cal X w) : CallR X (.type "list") (rOf w PlistD) := by
  intro pins s σ H xs us Q I r ⟨G, vs, o, z, le, rr, hp, q⟩
  unfold PlistD at hp
  split at hp
  · cases hp
    obtain ⟨x, e, r1⟩ := rreps_one rr
    subst e
    obtain ⟨a, kvs, rfl, h, rk⟩ := rrep_dK le r1
    exact call_listD c.calm pins s σ H _ us Q I r ⟨a, kvs, rfl, h, fun p hp => new_lst le hp (reps_keys rk) q⟩
  · cases hp
theorem new_dK {G H : Hp} {p : Addr} {kvs : List (Key × V)} {ds : List (Val × Val)} {Q : VK} (le : Le G H) (hp : H p = none) (rp : RepK w G ds kvs)
    (q : ∀ u G' H', Grow G H G' H' → NRep w G H G' H' true (.dct false ds) u → Q u H') : Q (.ref p) (upd H p (.dK kvs)) :=
  q _ G _ (Grow.laidH le hp) ⟨_, rfl, root_dK upd_same rp, le.back hp, hp⟩
theorem pairs_reps {G H : Hp} (le : Le G H) : ∀ {ds : List Val} {kvs : List (Val × Val)} {xs : List V}, asPairs ds = some kvs → Reps w G ds xs → ∃ (ps : List Addr) (vs : List (V × V)), xs = ps.map V.ref ∧ Paired (fun p kv => SqT w.K H p [kv.1, kv.2]) ps vs ∧ Paired (fun (p : Val × Val) (q : V × V) => Rep w G p.1 q.1 ∧ Rep w G p.2 q.2) kvs vs
  | [], kvs, xs, h, r => by
    cases h
    rw [reps_nil] at r; subst r
    exact ⟨[], [], rfl, .nil, .nil⟩
  | .tup [k, v] :: ds, kvs, xs, h, r => by
    simp only [asPairs, Option.map_eq_some_iff] at h
    obtain ⟨l, hl, e⟩ := h
    subst e
    rw [reps_cons] at r
    obtain ⟨y, ys, e, r1, r2⟩ := r
    subst e
    obtain ⟨a, zs, rfl, hs, rs⟩ := rep_tup.mp r1
    rw [reps_cons] at rs
    obtain ⟨y1, ys1, e, g1, rs⟩ := rs
    subst e
    rw [reps_cons] at rs
    obtain ⟨y2, ys2, e, g2, rs⟩ := rs
    subst e
    rw [reps_nil] at rs
    subst rs
    obtain ⟨ps, vs, e1, e2, e3⟩ := pairs_reps le hl r2
    exact ⟨a :: ps, (y1, y2) :: vs, by rw [e1]; rfl, .cons (sqt_mono le hs) e2, .cons ⟨g1, g2⟩ e3⟩
theorem paired_map {α β γ : Type} {F : α → β → Prop} {f : γ → β} : ∀ {l : List α} {m : List γ}, Paired F l (m.map f) → Paired (fun a c => F a (f c)) l m
  | [], [], _ => .nil
  | [], _ :: _, h => nomatch h
  | _ :: _, [], h => nomatch h
  | _ :: _, _ :: _, .cons h t => .cons h (paired_map t)
theorem bi_dict (c : Cal X w) : CallR X (.type "dict") (rOf w Pdict) := by
  intro pins s σ H xs us Q I r ⟨G, vs, o, z, le, rr, hp, q⟩
  unfold Pdict at hp
  split at hp
  · cases hp
    obtain ⟨x, e, r1⟩ := rreps_one rr
    subst e
    obtain ⟨a, kvs, rfl, h, rk⟩ := rrep_dK le r1
    exact call_dictD pins s σ H _ us Q I r ⟨a, kvs, rfl, h, fun p hp => new_dK le hp rk q⟩
  · split at hp
    · rename_i kvs hk
      split at hp
      · rename_i es he
        cases hp
        obtain ⟨x, e, r1⟩ := rreps_one rr
        subst e
        obtain ⟨a, zs, rfl, h, rs⟩ := rrep_lst le r1
        obtain ⟨ps, ws, e1, e2, e3⟩ := pairs_reps le hk rs
        obtain ⟨qs, f1, f2, f3⟩ := reps_pairs (ks := []) he repK_nil0 e3
        subst e1
        subst f1
        refine call_dictP c.calm pins s σ H _ us Q I r ⟨a, ps, qs, rfl, .inl (.inl h), ?_, fun p hp => new_dK le hp f3 q⟩
        have e4 := paired_map (F := fun (p : Addr) (kv : V × V) => SqT w.K H p [kv.1, kv.2]) (f := fun kv : Key × V => (kV kv.1, kv.2)) e2
        rw [c.K] at e4
        exact e4
      · cases hp
    · cases hp
  · cases hp
theorem strs_keys {G : Hp} : ∀ {ds : List (Val × Val)} {kvs : List (Key × V)} {ys : List Str}, RepK w G ds kvs → asStrs (keysOfD ds) = some ys → kvs.map (·.1) = ys.map Sum.inr ∧ ∀ y ∈ ys, y.length ≤ sizeLine
  | [], _, ys, r, h => by rw [RepK] at r; subst r; cases h; exact ⟨rfl, fun _ h => nomatch h⟩
  | (k, d) :: ds, _, ys, r, h => by
    rw [RepK] at r
    obtain ⟨q, y, zs, e, ⟨ek, hb⟩, r1, r2⟩ := r
    subst e
    subst ek
    cases q with
    | inl i => cases h
    | inr z =>
      simp only [keysOfD, List.map_cons, kv, asStrs, Option.map_eq_some_iff] at h
      obtain ⟨l, hl, e⟩ := h
      subst e
      obtain ⟨e1, e2⟩ := strs_keys r2 hl
      exact ⟨by rw [List.map_cons, List.map_cons, e1], fun y h => (List.mem_cons.mp h).elim (fun h => by subst h; exact hb) (e2 y)⟩
theorem bi_sortedD (c : Cal X w) : CallR X (.builtin "sorted") (rOf w PsortedD) := by
  intro pins s σ H xs us Q I r ⟨G, vs, o, z, le, rr, hp, q⟩
  unfold PsortedD at hp
  split at hp
  · split at hp
    · rename_i ys hy
      split at hp
      · rename_i hb
        cases hp
        obtain ⟨x, e, r1⟩ := rreps_one rr
        subst e
        obtain ⟨a, kvs, rfl, h, rk⟩ := rrep_dK le r1
        obtain ⟨e1, e2⟩ := strs_keys rk hy
        refine call_sortedD c.calm pins s σ H _ us Q I r ⟨a, kvs, ys, rfl, h, e1, hb, fun ys' p hp hs hn => ?_⟩
        rw [srt_eq hp hs]
        exact new_lst le hn (reps_of_strs fun x hx => e2 x (srt_mem.mp hx)) q
      · cases hp
    · cases hp
  · cases hp
theorem bi_lenX (c : Cal X w) : CallR X (.builtin "len") (rOf w PlenX) := cr_or (bi_len c) bi_lenD
theorem bi_listX (c : Cal X w) : CallR X (.type "list") (rOf w PlistX) := cr_or (bi_list c) (bi_listD c)
theorem bi_sortedX (c : Cal X w) : CallR X (.builtin "sorted") (rOf w PsortedX) := cr_or (bi_sorted c) (bi_sortedD c)
theorem bi_isiX (c : Cal X w) : CallR X (.builtin "isinstance") (rOf w (orP Pisi Pisis)) := cr_or (bi_isi c) (bi_isis c)
end

/-! ### *d in a display -/
theorem star_dct {X : Cx} {pins : List (Addr × Obj)} {σ : L2.St} {H : Hp} {s : Shared} {a : Addr} {kvs : List (Key × V)} {E : Value → Shared → Prop} {Q : List Value → Shared → Prop} (hc : X.calm = true) (I : Inv X pins σ H s) (h : Rd H a (.dK kvs))
    (hQ : ∀ us s', Inv X pins σ H s' → Vals (kvs.map fun kv => kV kv.1) us → Q us s') : PySem.W.StarOf (model X.prog X.w) X.A E (.ref a) Q s := by
  obtain ⟨z, lo, vs, rel, dd⟩ := dk_rd I.hok h
  obtain ⟨ep, hat⟩ := dd.dictAt
  have ek : (kvs.map fun kv => kV kv.1) = vs.map fun p => kV p.1 := by
    have e := congrArg (List.map kV) rel.keys
    rw [List.map_map, List.map_map] at e
    exact e
  have z2 : wpAny (model X.prog X.w) X.A (collect (.ref a)) Q E s := by
    refine PySem.W.kdu_collect (PySem.W.kdl_dict (knd := mixKind X.prog X.w) (kvs := vs) (ep := ep) lo) (I.ok.hd hc) hat (by rw [← rel.length]; exact z) fun h' tk acc hk hacc => ?_
    have hv : Vals (vs.map fun p => kV p.1) acc.toList := keys_at (by rw [Array.length_toList]; exact hacc.1) fun j v e => hacc.2 j v (by rw [← Array.getElem?_toList]; exact e)
    exact hQ _ _ (I.kept (t' := tk) hk) (by rw [ek]; exact hv)
  unfold PySem.W.StarOf notIterableAtAll
  exact wpAny_bind (wpAny_specialOf dd.typeIs PySem.F.slot_dict_iter.lookup (wpAny_pure ⟨rfl, z2⟩))
def tStarD (te : TE) (t : TA) : TA := fun σ H Q => te σ H fun x H1 => ∃ a kvs, x = V.ref a ∧ Rd H1 a (.dK kvs) ∧ t σ H1 fun ys H2 => Q ((kvs.map fun kv => kV kv.1) ++ ys) H2
theorem pa_starD0 {X : Cx} {e : Expr} {es : List Expr} {te : TE} {t : TA} {p : Pos} (hc : X.calm = true) (he : PE X e te) (hr : PA X es t) (hs : starEach (.Starred e p :: es) X.env = (true, eval e X.env) :: starEach es X.env := by rfl) : PA X (.Starred e p :: es) (tStarD te t) := by
  refine ⟨fun pos pins s σ H Q I h => ?_⟩
  refine PySem.W.items_star (thn (he.run pins s σ H _ I h) fun v s1 ⟨y, H1, I1, ry, a, kvs, ey, hx, q⟩ => ?_) hs
  subst ey
  obtain rfl : v = Value.ref a := ry
  refine star_dct hc I1 hx fun us s2 I2 rv => ?_
  exact thn (hr.run pos pins s2 σ H1 _ I2 q) fun ws s3 ⟨vs, H3, I3, r3, q3⟩ => ⟨_ ++ vs, H3, I3, rv.append r3, q3⟩
/-- d in a display, told by the shape of the text: the value is a dict -/
def asStD (f : EF) (g : AF) : AF := fun r => match frz f r with
  | .ok _ (.dct false ds) r1 => match g r1 with
    | .ok vs r2 => .ok (keysOfD ds ++ vs) r2
    | .ex e r2 => .ex e r2
    | .bad => .bad
  | .ok _ _ _ => .bad
  | .ex e r1 => .ex e r1
  | .bad => .bad
theorem pa_asStD {X : Cx} {A : Act} {W : WX} {e : Expr} {es : List Expr} {f : EF} {g : AF} {p : Pos} (hc : X.calm = true) (he : PE X e (tE A W f)) (hr : PA X es (tAs A W g)) (hs : starEach (.Starred e p :: es) X.env = (true, eval e X.env) :: starEach es X.env := by rfl) : PA X (.Starred e p :: es) (tAs A W (asStD f g)) :=
  PA.imp (pa_starD0 hc (pe_frz he) hr hs) fun σ H Q ⟨r, G, k, m⟩ => ⟨r, G, k, by
    unfold asStD at m
    cases hf : frz f r with
    | bad => simp only [hf] at m
    | ex e r' => simp only [hf] at m ⊢; exact m
    | ok o v r1 =>
      have eo := frz_false hf
      subst eo
      simp only [hf] at m ⊢
      intro x G1 H1 R1
      cases v with
      | dct t ds =>
        cases t with
        | true => exact m.elim
        | false =>
          simp only at m
          obtain ⟨a, kvs, rfl, h, rk⟩ := rrep_dK R1.ok.sub (.inl R1.tr)
          refine ⟨a, kvs, rfl, h, r1, G1, R1.ok, ?_⟩
          cases hg : g r1 with
          | bad => simp only [hg] at m
          | ex e r2 => simp only [hg] at m ⊢; exact m.mono R1.st.ex
          | ok vs r2 =>
            simp only [hg] at m ⊢
            intro ys G2 H2 k2 st2 rs2
            exact m _ G2 H2 k2 (R1.st.trans st2) (reps_append ((reps_keys rk).mono st2.ex) rs2)
      | _ => exact m.elim⟩
end M
/-! MPQ: dict comprehensions of two clauses. One lemma says what a clause's loop does, whatever stands behind its tests; it serves for both clauses. -/
namespace M
open PySem L2 PySem.Spec PyProof.Rows
/-- σ' knows what σ knows -/
def Kp (σ σ' : L2.St) : Prop := σ'.length = σ.length ∧ ∀ (j : Nat) (v : V), σ[j]? = some (some v) → σ'[j]? = some (some v)
theorem Kp.refl (σ : L2.St) : Kp σ σ := ⟨rfl, fun _ _ h => h⟩
/-- a clause's turn, behind whose tests stands m -/
def turnOf (e : Expr) (d : Nat) (tg iter : Expr) (ifs : List Expr) (m : Sem Unit) (it acc : Value) (env : PySem.Env) : Sem PySem.Fin := do
  standAt iter.pos
  match ← pyNext it with
  | none => pure (.done .next)
  | some v =>
    letOwnedTupleGo tg it v
    assign tg env v
    let ok ← forIn ifs true fun c r => if r = true then do let ok ← isTrue c env (eval c env); pure (ForInStep.yield ok) else pure (ForInStep.yield r)
    if ok = true then
      m
      again (.compLoop e d it acc env)
    else again (.compLoop e d it acc env)
theorem clause_loop {X : Cx} {pins : List (Addr × Obj)} {σb : L2.St} {e tg iter : Expr} {d : Nat} {it : Addr} {acc : Value} {fp : List Addr} {tn : Nat → Heap → Prop} {J : It} {ifs : List Expr} {g : TG} {tt : TT} {m : Sem Unit} {R : Result → Shared → Prop} {Fin' : Hp → Prop}
    {body : L2.St → Hp → (Hp → Prop) → Prop} {W : Nat → Nat → Hp → Prop} {m0 i0 : Nat} {H0 : Hp} {s0 : Shared}
    (hc : X.calm = true) (hx : X.xe = fun _ _ => False) (hturn : compTurn e d (.ref it) acc X.env = turnOf e d tg iter ifs m (.ref it) acc X.env) 
    (hu : X.A.under (.compLoop e d (.ref it) acc X.env) = X.A) (hd : (model X.prog X.w).den (.compLoop e d (.ref it) acc X.env) = (compTurn e d (.ref it) acc X.env).onRaise fun x => do noteFrame x X.env; theTreesLotGoes x)
    (T : Turn X.prog X.w X.K tg J fp it tn) (pg : PG X tg g) (pt : PTs X ifs tt)
    (stat : ∀ (σ : L2.St) (H : Hp) (s : Shared), Inv X pins σ H s → (∀ b ∈ fp, H b = none) → ∀ b ∈ fp, FpOk X pins H b)
    (hb : ∀ (ps : List (Addr × Obj)) (s : Shared) (σ : L2.St) (H : Hp) (Q : Hp → Prop), Inv X (pins ++ ps) σ H s → Kp σb σ → body σ H Q → wpAny (model X.prog X.w) X.A m (fun _ s' => ∃ σ' H', Inv X (pins ++ ps) σ' H' s' ∧ Kp σb σ' ∧ Q H') (fun _ _ => False) s)
    (hf : ∀ (s : Shared) (H : Hp), Inv X pins σb H s → Fin' H → R (.ok .next) s)
    (turn : ∀ i m H, W i m H → (J.stop i H ∧ Fin' H) ∨ (J.go i H ∧ ∃ Nx : Hp → Prop, (∀ H', Nx H' → ∃ m', m' < m ∧ W (i + 1) m' H') ∧
      ∀ x H', J.yld i H x H' → g x σb H' fun σ2 H2 => Kp σb σ2 ∧ tt σ2 H2 fun b H3 => if b = true then body σ2 H3 Nx else Nx H3))
    (I0 : Inv X pins σb H0 s0) (t0 : tn i0 s0.heap) (n0 : ∀ b ∈ fp, H0 b = none) (w0 : W i0 m0 H0) :
    codeAny (model X.prog X.w) X.A (.compLoop e d (.ref it) acc X.env) R s0 := by
  refine codeAny_loop rfl (fun k s => ∃ i H, Inv X pins σb H s ∧ tn i s.heap ∧ (∀ b ∈ fp, H b = none) ∧ W i k H) (fun k s ⟨i, H, I, t, n, wk⟩ => ?_) m0 ⟨i0, H0, I0, t0, n0, w0⟩
  rw [hu, hd]
  refine wpAny_noted ?_
  rw [hturn]
  refine wpAny_bind (wpAny_standAt (wpAny_bind ?_))
  rcases turn i k H wk with ⟨stop, fin⟩ | ⟨go, Nx, hNx, step⟩
  · refine thnF (T.done X rfl rfl rfl hc i pins s σb H (fun _ _ => False) I (stat _ _ _ I n) t stop) fun r s1 ⟨hr, I1⟩ => ?_
    subst hr
    exact wpAny_pure (hf s1 H I1 fin)
  · refine thnF (T.item X rfl rfl rfl hc i pins s σb H (fun _ _ => False) I (stat _ _ _ I n) t go) fun r s1 ⟨u, hr, h1⟩ => ?_
    subst hr
    refine wpAny_bind (thnF h1 fun _ s2 ⟨x, H2, I2, r2, y2, t2, n2⟩ => ?_)
    have P2 := I2.pinned (stat _ _ _ I2 n2) (T.obj _ _ t2)
    have again_ : ∀ {σ' : L2.St} {s' : Shared} {H' : Hp}, Inv X (pins ++ pinsAt fp s2.heap) σ' H' s' → Kp σb σ' → Nx H' → ∃ k', k' < k ∧ ∃ i H, Inv X pins σb H s' ∧ tn i s'.heap ∧ (∀ b ∈ fp, H b = none) ∧ W i k' H := fun {σ' s' H'} I' kp nx => by
      obtain ⟨k', hk, w'⟩ := hNx H' nx
      have pin : ∀ b ∈ fp, ∀ o, s2.heap.get? b = some o → s'.heap.get? b = some o ∧ H' b = none := fun b hb o e =>
        have z := I'.pin (b, o) (List.mem_append_right _ (List.mem_append_right _ (mem_pinsAt hb e)))
        ⟨z.1, z.2.1⟩
      exact ⟨k', hk, i + 1, H', I'.unpinned.weak kp.1.symm kp.2, T.keep _ _ _ t2 fun b hb o e => (pin b hb o e).1, fun b hb => let ⟨o, e, _⟩ := T.obj _ _ t2 b hb; (pin b hb o e).2, w'⟩
    have no : ∀ {α : Type} {t : Sem α} {Q Q' : α → Shared → Prop} {E : Value → Shared → Prop} {s : Shared}, wpAny (model X.prog X.w) X.A t Q X.xe s → (∀ a s, Q a s → Q' a s) → wpAny (model X.prog X.w) X.A t Q' E s := fun h hQ => thnF (by rw [hx] at h; exact h) hQ
    refine wpAny_bind (no (pg.run _ s2 _ H2 x u _ P2 r2 (step x H2 y2)) fun _ s3 ⟨σ3, H3, I3, kp3, q3⟩ => ?_)
    refine wpAny_bind (no (pt.run _ s3 σ3 H3 _ I3 q3) fun b s4 ⟨H4, I4, q4⟩ => ?_)
    cases b with
    | false =>
      simp only [Bool.false_eq_true, if_false] at q4 ⊢
      exact wpAny_pure ⟨rfl, again_ I4 kp3 q4⟩
    | true =>
      simp only [if_true] at q4 ⊢
      exact wpAny_bind (thnF (hb _ s4 σ3 H4 Nx I4 kp3 q4) fun _ s5 ⟨σ5, H5, I5, kp5, q5⟩ => wpAny_pure ⟨rfl, again_ I5 kp5 q5⟩)

section
variable {kx vx t0 i0 t1 i1 : Expr} {ifs0 ifs1 : List Expr} {scope : Scope} {pos : Pos}
abbrev dc2E (kx vx t0 i0 : Expr) (ifs0 : List Expr) (t1 i1 : Expr) (ifs1 : List Expr) (scope : Scope) (pos : Pos) : Expr := .DictComp kx vx [⟨t0, i0, ifs0, 0⟩, ⟨t1, i1, ifs1, 0⟩] scope pos
/-- the pair that is laid in -/
def putKV (kx vx : Expr) (D : Addr) (env : PySem.Env) : Sem Unit := do
  let kv ← eval kx env
  let vv ← holding [kv] (eval vx env)
  standAt { kx.pos with endLine := vx.pos.endLine, endCol := vx.pos.endCol }
  holding [kv, vv] (dictSet D kv vv)
/-- the second clause -/
def runSecond (e i1 : Expr) (acc : Value) (env : PySem.Env) : Sem Unit := do
  let x ← eval i1 env
  standAt i1.pos
  let x ← foldedSetIterable i1 env x
  let _ ← runOwn (.compStart e 1 (← holding [x] (pyIter x)) acc env) env
theorem turn_second (it : Value) (D : Addr) (env : PySem.Env) : compTurn (dc2E kx vx t0 i0 ifs0 t1 i1 ifs1 scope pos) 1 it (.ref D) env = turnOf (dc2E kx vx t0 i0 ifs0 t1 i1 ifs1 scope pos) 1 t1 i1 ifs1 (putKV kx vx D env) it (.ref D) env := by rfl
theorem turn_first (it : Value) (D : Addr) (env : PySem.Env) : compTurn (dc2E kx vx t0 i0 ifs0 t1 i1 ifs1 scope pos) 0 it (.ref D) env = turnOf (dc2E kx vx t0 i0 ifs0 t1 i1 ifs1 scope pos) 0 t0 i0 ifs0 (runSecond (dc2E kx vx t0 i0 ifs0 t1 i1 ifs1 scope pos) i1 (.ref D) env) it (.ref D) env := by
  simp only [turnOf, runSecond, bind_assoc]
  rfl

/-- the second clause's start: once more iter, where the model does not follow the text -/
theorem second_start {prog : Program} {w : World} {A : Around} {R : Result → Shared → Prop} {s : Shared} {it acc : Value} {env : PySem.Env}
    (h : codeAny (model prog w) A (.compLoop (dc2E kx vx t0 i0 ifs0 t1 i1 ifs1 scope pos) 1 it acc env) R s)
    (hs : wpAny (model prog w) A (pyIter it) (fun it' s' => codeAny (model prog w) A (.compLoop (dc2E kx vx t0 i0 ifs0 t1 i1 ifs1 scope pos) 1 it' acc env) R s') (notedBy (model prog w) A env fun x s' => R (.error x) s') s) :
    codeAny (model prog w) A (.compStart (dc2E kx vx t0 i0 ifs0 t1 i1 ifs1 scope pos) 1 it acc env) R s := by
  refine codeAny_of_tree ?_
  show wpAny _ A ((compStart (dc2E kx vx t0 i0 ifs0 t1 i1 ifs1 scope pos) 1 it acc env).onRaise fun x => do noteFrame x env; standAt theWindowsPlace) _ _ s
  refine wpAny_notedAt ?_
  unfold compStart
  show wpAny _ _ (ask >>= _) _ _ s
  refine wpAny_bind (wpAny_askSetting (wpAny_ite ?_))
  split
  · exact wpAny_pure ⟨rfl, h⟩
  · refine wpAny_bind (wpAny_rule ?_)
    show wpAny _ _ (standAt i1.pos >>= _) _ _ s
    exact wpAny_bind (wpAny_standAt (wpAny_bind (wpAny_mono hs (fun it' s' h' => wpAny_pure ⟨rfl, h'⟩) fun _ _ x => x)))
end
/-- one more pair of a comprehension's dict -/
def tLay (D : Addr) (tk tv : TE) (σ : L2.St) (H : Hp) (Nx : Hp → Prop) : Prop := tk σ H fun y H4 => tv σ H4 fun z H5 => ∃ kvs k, y = kV k ∧ H5 D = some (.dK kvs) ∧ kvs.length < sizeLine ∧ Nx (upd H5 D (.dK (putK kvs k z)))
/-- the second clause, from what the first knows -/
def tSec (D : Addr) (wi1 : TI) (g1 : TG) (tt1 : TT) (tk tv : TE) (vs1 : List Nat) (σ : L2.St) (H : Hp) (Nx : Hp → Prop) : Prop := wi1 σ H fun J H1 => ∃ W : Nat → Nat → Hp → Prop, (∃ m, W 0 m H1) ∧ ∀ j k H, W j k H →
  (J.stop j H ∧ Nx H) ∨ (J.go j H ∧ ∃ Nx1 : Hp → Prop, (∀ H', Nx1 H' → ∃ k', k' < k ∧ W (j + 1) k' H') ∧ ∀ x H', J.yld j H x H' → g1 x (wipe σ vs1) H' fun σ3 H5 => Kp (wipe σ vs1) σ3 ∧ tt1 σ3 H5 fun b H6 =>
    if b = true then tLay D tk tv σ3 H6 Nx1 else Nx1 H6)
def tDc2 (wi : TI) (g : TG) (tt : TT) (wi1 : TI) (g1 : TG) (tt1 : TT) (tk tv : TE) (vs vs1 : List Nat) : TE := fun σ H Q => wi σ H fun J H1 => ∀ D, H1 D = none → ∃ W : Nat → Nat → Hp → Prop, (∃ m, W 0 m (upd H1 D (.dK []))) ∧ ∀ i m H, W i m H →
  (J.stop i H ∧ Q (.ref D) H) ∨ (J.go i H ∧ ∃ Nx : Hp → Prop, (∀ H', Nx H' → ∃ m', m' < m ∧ W (i + 1) m' H') ∧ ∀ x H', J.yld i H x H' → g x (wipe σ vs) H' fun σ2 H2 => Kp (wipe σ vs) σ2 ∧ tt σ2 H2 fun b H3 =>
    if b = true then tSec D wi1 g1 tt1 tk tv vs1 σ2 H3 Nx else Nx H3)
theorem kp_wipe {σ σ' : L2.St} {vs vs1 : List Nat} (h : Kp (wipe σ vs) σ') (hv : ∀ i ∈ vs1, i ∈ vs) : Kp (wipe σ vs) (wipe σ' vs1) := ⟨(wipe_length _ _).trans h.1, fun j v e => by
  rw [wipe_out fun z => (wipe_some e).2 (hv j z)]
  exact h.2 j v e⟩
section
variable {X : Cx} {pins : List (Addr × Obj)} {kx vx t0 i0 t1 i1 : Expr} {ifs0 ifs1 : List Expr} {scope : Scope} {pos : Pos} {D : Addr} {tk tv : TE} {wi1 : TI} {g1 : TG} {tt1 : TT} {σb : L2.St} {vs vs1 : List Nat}
theorem lay_run (hx : X.xe = fun _ _ => False) (hk : PE X kx tk) (hv : PE X vx tv) {ps : List (Addr × Obj)} {s : Shared} {σ : L2.St} {H : Hp} {Q : Hp → Prop} (I : Inv X ps σ H s) (kp : Kp σb σ) (h : tLay D tk tv σ H Q) :
    wpAny (model X.prog X.w) X.A (putKV kx vx D X.env) (fun _ s' => ∃ σ' H', Inv X ps σ' H' s' ∧ Kp σb σ' ∧ Q H') (fun _ _ => False) s := by
  have r1 := hk.run ps s σ H _ I h
  rw [hx] at r1
  refine wpAny_bind (thnF r1 fun u s1 ⟨y, H1, I1, ry, q1⟩ => ?_)
  have r2 := hv.run ps s1 σ H1 _ I1 q1
  rw [hx] at r2
  refine wpAny_bind (wpAny_holding (thnF r2 fun u2 s2 ⟨z, H2, I2, rz, kvs, k, ek, hD, hl, nx⟩ => ?_))
  subst ek
  exact wpAny_bind (wpAny_standAt (wpAny_holding (d_dictSet I2 hD hl ry rz fun s3 I3 => ⟨σ, _, I3, kp, nx⟩)))
theorem sec_run (hx : X.xe = fun _ _ => False) (hc : X.calm = true) (hk : PE X kx tk) (hv : PE X vx tv) (hi1 : PI X t1 i1 wi1) (hg1 : PG X t1 g1) (ht1 : PTs X ifs1 tt1) (hs1 : ∀ x, foldedSetIterable i1 X.env x = pure x) (hvs : ∀ i ∈ vs1, i ∈ vs)
    {ps : List (Addr × Obj)} {s : Shared} {σ0 σ : L2.St} {H : Hp} {Q : Hp → Prop} (I : Inv X ps σ H s) (kp : Kp (wipe σ0 vs) σ) (h : tSec D wi1 g1 tt1 tk tv vs1 σ H Q) :
    wpAny (model X.prog X.w) X.A (runSecond (dc2E kx vx t0 i0 ifs0 t1 i1 ifs1 scope pos) i1 (.ref D) X.env) (fun _ s' => ∃ σ' H', Inv X ps σ' H' s' ∧ Kp (wipe σ0 vs) σ' ∧ Q H') (fun _ _ => False) s := by
  have r1 := hi1.run ps s σ H _ I h
  rw [hx] at r1
  refine wpAny_bind (thnF r1 fun xv s1 h1 => wpAny_bind (wpAny_standAt (wpAny_bind (wpAny_of_eq (hs1 xv) (wpAny_bind (wpAny_holding (thnF h1 fun itv s2 h2 => ?_)))))))
  obtain ⟨it, fp, tn, J, H2, e, I2, T, st2, f2, W, ⟨m1, w1⟩, turn⟩ := h2
  subst e
  refine wpAny_bind (wpAny_runOwn ?_)
  rw [Around.mark_none]
  have loop : codeAny (model X.prog X.w) X.A (.compLoop (dc2E kx vx t0 i0 ifs0 t1 i1 ifs1 scope pos) 1 (.ref it) (.ref D) X.env)
      (fun r s' => match r with
        | .ok _ => ∃ σ' H', Inv X ps σ' H' s' ∧ Kp (wipe σ0 vs) σ' ∧ Q H'
        | .error _ => False) s2 :=
    clause_loop hc hx (turn_second _ _ _) rfl rfl T hg1 ht1 (fun σ' H' s' I' n b hb => ⟨n b hb, (f2 b hb).2⟩) (fun ps' s' σ' H' Q' I' kp' q' => lay_run hx hk hv I' kp' q')
      (fun s' H' I' q' => ⟨_, H', I', kp_wipe kp hvs, q'⟩) turn (I2.weak (wipe_length _ _) fun j v e => (wipe_some e).1) st2 (fun b hb => (f2 b hb).1) w1
  refine codeAny_mono (second_start loop (T.self X.A 0 _ _ _ st2 loop)) fun r s' hr => ?_
  cases r with
  | ok f => exact wpAny_pure hr
  | error e => exact hr.elim
end

section
variable {X : Cx}
theorem pe_dc2 {kx vx t0 i0 t1 i1 : Expr} {ifs0 ifs1 : List Expr} {scope : Scope} {own : List (Str × Nat)} {vs1 : List Nat} {pos : Pos} {wi wi1 : TI} {g g1 : TG} {tt tt1 : TT} {tk tv : TE} (hc : X.calm = true) (hN : X.N.Nodup) (hi : PI X t0 i0 wi)
    (ok : BlkOk X.N X.env.scope scope own) (hv : ∀ i ∈ vs1, i ∈ own.map (·.2))
    (hg : ∀ (s : Shared) (H : Hp) (C : Addr) (cl : List (Str × Addr)) (fp : List Addr), PG (X.blk s H scope (compEnvC scope cl C X.env) fp) t0 g)
    (ht : ∀ (s : Shared) (H : Hp) (C : Addr) (cl : List (Str × Addr)) (fp : List Addr), PTs (X.blk s H scope (compEnvC scope cl C X.env) fp) ifs0 tt)
    (hi1 : ∀ (s : Shared) (H : Hp) (C : Addr) (cl : List (Str × Addr)) (fp : List Addr), PI (X.blk s H scope (compEnvC scope cl C X.env) fp) t1 i1 wi1)
    (hg1 : ∀ (s : Shared) (H : Hp) (C : Addr) (cl : List (Str × Addr)) (fp : List Addr), PG (X.blk s H scope (compEnvC scope cl C X.env) fp) t1 g1)
    (ht1 : ∀ (s : Shared) (H : Hp) (C : Addr) (cl : List (Str × Addr)) (fp : List Addr), PTs (X.blk s H scope (compEnvC scope cl C X.env) fp) ifs1 tt1)
    (hk : ∀ (s : Shared) (H : Hp) (C : Addr) (cl : List (Str × Addr)) (fp : List Addr), PE (X.blk s H scope (compEnvC scope cl C X.env) fp) kx tk)
    (he : ∀ (s : Shared) (H : Hp) (C : Addr) (cl : List (Str × Addr)) (fp : List Addr), PE (X.blk s H scope (compEnvC scope cl C X.env) fp) vx tv)
    (hs : ∀ x, foldedSetIterable i0 X.env x = pure x := by intro _; rfl) (hs1 : ∀ env x, foldedSetIterable i1 env x = pure x := by intro _ _; rfl) :
    PE X (dc2E kx vx t0 i0 ifs0 t1 i1 ifs1 scope pos) (tDc2 wi g tt wi1 g1 tt1 tk tv (own.map (·.2)) vs1) := by
  refine ⟨fun pins s σ H Q I h => ?_⟩
  rw [arm_eval_DictComp]
  have hfree : ∀ y ∈ scope.names, y.2 = .free → ∃ c, X.env.cells.lookup y.1 = some c := fun y hy e => (ok.free y hy e).elim (fun k => I.ok.has _ (.inl k)) fun k => I.ok.has _ (.inr k)
  refine wpAny_comprehension_free (use := none) rfl hs (closure_ok hfree) ok.kind (fun y hy e => by rw [ok.uniq y hy, e]) (thn (hi.run pins s σ H _ I h) fun xv s1 hx => thn hx fun itv s2 h2 => ?_)
  obtain ⟨it, fp, tn, J, H2, e, I2, T, t2, f2, q⟩ := h2
  subst e
  refine wpAny_newObj_type (newEnv_comp ?_)
  obtain ⟨W, ⟨m0, w0⟩, turn⟩ := q _ (I2.hok.fresh (Nat.le_refl _))
  -- the dict, then the block's own namespace
  obtain ⟨s3, e3⟩ : ∃ s3 : Shared, s3 = { s2 with heap := s2.heap.push { cls := .type "dict", data := .dict #[] } } := ⟨_, rfl⟩
  obtain ⟨H3, eH⟩ : ∃ H3 : Hp, H3 = upd H2 s2.heap.objs.size (.dK []) := ⟨_, rfl⟩
  have I3 : Inv X pins σ H3 s3 := by
    rw [e3, eH]
    exact I2.laid (t' := s2.toks) (fun b o e => Heap.get?_push_of_some _ e) (Nat.le_refl _) (dk_empty s2.heap I2.big)
  have old : ∀ b ∈ fp, b < s2.heap.objs.size := fun b hb => let ⟨o, e, _⟩ := T.obj _ _ t2 b hb; Heap.lt_size e
  have push3 : ∀ {b o}, s2.heap.get? b = some o → s3.heap.get? b = some o := fun e => by rw [e3]; exact Heap.get?_push_of_some _ e
  have f3 : ∀ b ∈ fp, FpOk X pins H3 b ∧ b < s3.heap.objs.size := fun b hb => by
    refine ⟨⟨by rw [eH, upd_ne (Nat.ne_of_lt (old b hb))]; exact (f2 b hb).1, (f2 b hb).2⟩, ?_⟩
    obtain ⟨o, e, _⟩ := T.obj _ _ t2 b hb
    exact Heap.lt_size (push3 e)
  have t3 : tn 0 s3.heap := T.keep _ _ _ t2 fun b _ o e => push3 e
  have I4 := block_start I3 ok hN f3
  rw [← e3]
  rw [← eH] at w0
  show codeAny _ _ (.compStart (dc2E kx vx t0 i0 ifs0 t1 i1 ifs1 scope pos) 0 (.ref it) (.ref s2.heap.objs.size) (compEnvC scope (cellsFrom (s3.heap.objs.size + 1) scope.names (cloFrom X.env.cells scope.names [])) s3.heap.objs.size X.env))
    (compPost (model X.prog X.w) X.A X.xe none _ (.ref s2.heap.objs.size) s3.heap.objs.size) { s3 with heap := pushCells (s3.heap.push { cls := .type "dict", data := .dict #[] }) scope.names }
  have pi1 := hi1 s3 H3 s3.heap.objs.size (cellsFrom (s3.heap.objs.size + 1) scope.names (cloFrom X.env.cells scope.names [])) fp
  have pg1 := hg1 s3 H3 s3.heap.objs.size (cellsFrom (s3.heap.objs.size + 1) scope.names (cloFrom X.env.cells scope.names [])) fp
  have pt1 := ht1 s3 H3 s3.heap.objs.size (cellsFrom (s3.heap.objs.size + 1) scope.names (cloFrom X.env.cells scope.names [])) fp
  have pk := hk s3 H3 s3.heap.objs.size (cellsFrom (s3.heap.objs.size + 1) scope.names (cloFrom X.env.cells scope.names [])) fp
  have pv := he s3 H3 s3.heap.objs.size (cellsFrom (s3.heap.objs.size + 1) scope.names (cloFrom X.env.cells scope.names [])) fp
  have pg := hg s3 H3 s3.heap.objs.size (cellsFrom (s3.heap.objs.size + 1) scope.names (cloFrom X.env.cells scope.names [])) fp
  have pt := ht s3 H3 s3.heap.objs.size (cellsFrom (s3.heap.objs.size + 1) scope.names (cloFrom X.env.cells scope.names [])) fp
  have t4 : tn 0 (pushCells (s3.heap.push { cls := .type "dict", data := .dict #[] }) scope.names) := T.keep _ _ _ t3 fun b _ o e => pushCells_keeps _ _ _ _ (Heap.get?_push_of_some _ e)
  have hL : (compEnvC scope (cellsFrom (s3.heap.objs.size + 1) scope.names (cloFrom X.env.cells scope.names [])) s3.heap.objs.size X.env).locals = s3.heap.objs.size := rfl
  generalize compEnvC scope (cellsFrom (s3.heap.objs.size + 1) scope.names (cloFrom X.env.cells scope.names [])) s3.heap.objs.size X.env = ce at I4 pi1 pg1 pt1 pk pv pg pt hL ⊢
  have loop : codeAny (model X.prog X.w) X.A (.compLoop (dc2E kx vx t0 i0 ifs0 t1 i1 ifs1 scope pos) 0 (.ref it) (.ref s2.heap.objs.size) ce) (compPost (model X.prog X.w) X.A X.xe none (fun v s' => EP X pins σ Q v s') (.ref s2.heap.objs.size) s3.heap.objs.size)
      { s3 with heap := pushCells (s3.heap.push { cls := .type "dict", data := .dict #[] }) scope.names } := by
    refine clause_loop (X := X.blk s3 H3 scope ce fp) (pins := []) (Fin' := Q (.ref s2.heap.objs.size)) hc rfl (turn_first _ _ _) rfl rfl T pg pt (fun σ' H' s' I' n b hb => ⟨n b hb, (I'.ok.exf b hb).1, I'.ok.exfs b hb, .inl hb, fun x c e => (I'.ok.exf b hb).2 x c e, fun p hp => absurd (show p ∈ ([] : List (Addr × Obj)) ++ [] from hp) (by simp)⟩)
      (fun ps s' σ' H' Q' I' kp q' => sec_run (X := X.blk s3 H3 scope ce fp) rfl hc pk pv pi1 pg1 pt1 (hs1 ce) hv I' kp q') (fun s' H' I' q' => ?_) turn I4 t4 (fun b hb => (f3 b hb).1.1) w0
    -- back in the def's context
    have back : Inv X pins σ H' s' := I3.call' (ch := fp) I'.os I'.base I'.hok I'.bare fun b hb => ⟨(f3 b hb).1.2.2.2.1, (f3 b hb).1.2.1, (f3 b hb).1.2.2.2.2.1, (f3 b hb).1.2.2.2.2.2⟩
    obtain ⟨m, hn, _⟩ := I'.loc
    have free : H' ce.locals = none := I'.free
    have hn : s'.heap.Ns ce.locals m := hn
    rw [hL] at hn free
    obtain ⟨a0, a1, a2, a3, a4, a5⟩ := I3.fpOk (b := s3.heap.objs.size) (H' := H') (Nat.le_refl _) free
    exact ⟨m, hn, fun h'' sb => ⟨.ref s2.heap.objs.size, H', back.turned (t' := s'.toks) (fun b o hb e => (sb.2 b hb).trans e) a0 a1 a3 a4 a5, rfl, q'⟩⟩
  exact codeAny_compStart_dict loop (T.self X.A 0 _ _ _ t4 loop)
end
end M
/-! MPR: dict comprehensions of two clauses, by combinators. -/
namespace M
open PySem L2
/-- the state while a comprehension's dict is built at D -/
structure Bd (A : Act) (D : Addr) (σ : L2.St) (r : Env) (G H : Hp) (ds : List (Val × Val)) : Prop where
  ok : Ok A G H σ r
  kv : ∃ acc, H D = some (.dK acc) ∧ RepK A.w G ds acc
  ng : G D = none
  nr : ¬ Rt r σ D
/-- what happens meanwhile, but for D -/
structure Chg (D : Addr) (σ : L2.St) (r : Env) (G H : Hp) (σ' : L2.St) (r' : Env) (G' H' : Hp) : Prop where
  ex : Le G G'
  keep : ∀ a o, a ≠ D → H a = some o → ¬ Rt r σ a → H' a = some o
  grow : ∀ a, a ≠ D → G a = none → G' a ≠ none → H a = none ∨ Rt r σ a
  rts : ∀ a, Rt r' σ' a → Rt r σ a
theorem Chg.refl {D : Addr} {σ : L2.St} {r : Env} {G H : Hp} : Chg D σ r G H σ r G H := ⟨Le.refl _, fun _ _ _ h _ => h, fun _ _ h h' => absurd h h', fun _ h => h⟩
theorem Chg.trans {D : Addr} {σ σ1 σ2 : L2.St} {r r1 r2 : Env} {G H G1 H1 G2 H2 : Hp} (a : Chg D σ r G H σ1 r1 G1 H1) (b : Chg D σ1 r1 G1 H1 σ2 r2 G2 H2) : Chg D σ r G H σ2 r2 G2 H2 where
  ex := a.ex.trans b.ex
  keep := fun x o ne h n => b.keep x o ne (a.keep x o ne h n) fun z => n (a.rts x z)
  grow := fun x ne h h' => by
    by_cases g : G1 x = none
    · rcases b.grow x ne g h' with y | y
      · by_cases n : Rt r σ x
        · exact .inr n
        · refine .inl ?_
          cases e : H x with
          | none => rfl
          | some o => rw [a.keep x o ne e n] at y; cases y
      · exact .inr (a.rts x y)
    · exact a.grow x ne h g
  rts := fun x z => a.rts x (b.rts x z)
theorem Step.chg {D : Addr} {σ : L2.St} {r r' : Env} {G H G' H' : Hp} (s : Step σ r G H r' G' H') : Chg D σ r G H σ r' G' H' := ⟨s.ex, fun a o _ h n => s.keep a o h n, fun a _ h h' => s.grow a h h', s.rts⟩
section
variable {A : Act} {D : Addr} {σ : L2.St} {r : Env} {G H : Hp} {ds : List (Val × Val)}
/-- a step that keeps D -/
theorem Bd.step {r' : Env} {G' H' : Hp} (b : Bd A D σ r G H ds) (k : Ok A G' H' σ r') (s : Step σ r G H r' G' H') : Bd A D σ r' G' H' ds :=
  ⟨k, let ⟨acc, h, q⟩ := b.kv; ⟨acc, s.keep D _ h b.nr, q.mono s.ex⟩, s.none b.ng (let ⟨acc, h, q⟩ := b.kv; by rw [h]; simp) b.nr, fun z => b.nr (s.rts D z)⟩
theorem Bd.wipe {sl : List Nat} (b : Bd A D σ r G H ds) (hio : ∀ i ∈ A.io, i ∉ sl) : Bd A D (L2.wipe σ sl) (wipeR r sl) G H ds := ⟨b.ok.wipe hio, b.kv, b.ng, fun z => b.nr (rt_wipe z)⟩
end
/-- m says what body does to the dict at D -/
def BodyOk (A : Act) (D : Addr) (sl : List Nat) (body : L2.St → Hp → (Hp → Prop) → Prop) (m : List (Val × Val) → Env → DR) : Prop := ∀ (σ : L2.St) (r : Env) (G H : Hp) (ds : List (Val × Val)) (Nx : Hp → Prop), Bd A D σ r G H ds →
  (match m ds r with
    | .ok ds' r' => ∀ σ' G' H', Bd A D σ' r' G' H' ds' → Chg D σ r G H σ' r' G' H' → wipe σ' sl = wipe σ sl → Nx H'
    | _ => False) → body σ H Nx
def clL (t : TF) (c : BF) (m : List (Val × Val) → Env → DR) (sl : List Nat) : List Val → List (Val × Val) → Env → DR
  | [], acc, r => .ok acc r
  | v :: vs, acc, r => match t v r with
    | some r1 => match c r1 with
      | .ok true r2 => match m acc r2 with
        | .ok acc' r3 => clL t c m sl vs acc' (wipeR r3 sl)
        | _ => .bad
      | .ok false r2 => clL t c m sl vs acc (wipeR r2 sl)
      | _ => .bad
    | none => .bad
def layM (fk f : EF) : List (Val × Val) → Env → DR := fun acc r => match frz fk r with
  | .ok _ k r1 => match frz f r1 with
    | .ok _ y r2 => match keyOf k with
      | some q => if acc.length < 100000 then .ok (dPut acc q y) r2 else .bad
      | none => .bad
    | _ => .bad
  | _ => .bad
def secM (fi : IF) (t : TF) (c : BF) (m : List (Val × Val) → Env → DR) (sl : List Nat) : List (Val × Val) → Env → DR := fun acc r => match fi r with
  | .ok vs r1 => clL t c m sl vs acc (wipeR r1 sl)
  | _ => .bad
theorem lay_ok {A : Act} {D : Addr} {sl : List Nat} {fk f : EF} (lD : A.L D ∨ A.H0 D = none) : BodyOk A D sl (tLay D (tE A W0 (frz fk)) (tE A W0 (frz f))) (layM fk f) := fun σ r G H ds Nx b h => by
  refine ⟨r, G, b.ok, ?_⟩
  unfold layM at h
  cases hk : frz fk r with
  | bad => simp only [hk] at h
  | ex e r1 => simp only [hk] at h
  | ok o1 kd r1 =>
    have eo := frz_false hk
    subst eo
    simp only [hk] at h ⊢
    intro x G1 H1 R1
    refine ⟨r1, G1, R1.ok, ?_⟩
    cases hv : frz f r1 with
    | bad => simp only [hv] at h
    | ex e r2 => simp only [hv] at h
    | ok o2 vd r2 =>
      have eo := frz_false hv
      subst eo
      simp only [hv] at h ⊢
      intro y G2 H2 R2
      cases hq : keyOf kd with
      | none => simp only [hq] at h
      | some q =>
        simp only [hq] at h
        by_cases hz : ds.length < 100000
        case neg => rw [if_neg hz] at h; exact h.elim
        rw [if_pos hz] at h
        have st := R1.st.trans R2.st
        have b2 := b.step R2.ok st
        obtain ⟨acc, hacc, rk⟩ := b2.kv
        obtain ⟨ek, hb⟩ := rrep_key (H := H1) (.inl (show Rep A.w G1 kd x from R1.tr)) hq
        refine ⟨acc, q, ek, hacc, by rw [← repK_length rk]; exact Nat.lt_of_lt_of_le hz (by decide), h σ G2 _ ⟨b2.ok.tmp b2.ng b2.nr lD, ⟨_, upd_same, repK_put rk hb R2.tr⟩, b2.ng, b2.nr⟩ ⟨st.ex, fun a o ne ha n => ?_, fun a _ ha ha' => st.grow a ha ha', st.rts⟩ rfl⟩
        rw [upd_ne ne]
        exact st.keep a o ha n
theorem clause_ok {A : Act} {D : Addr} {sl st' : List Nat} {t : TF} {c : BF} {m : List (Val × Val) → Env → DR} {body : L2.St → Hp → (Hp → Prop) → Prop} {σ : L2.St} {J : It} {vs : List Val} {G1 : Hp} {r0 : Env} {G0 H0 : Hp} {ds0 : List (Val × Val)} {Fin' : Hp → Prop}
    (tok : TOk st' t) (hs : ∀ j ∈ st', j ∈ sl) (hio : ∀ i ∈ A.io, i ∉ sl) (hb : BodyOk A D sl body m) (io : ItOk A.w J G1 vs) (b0 : Bd A D (wipe σ sl) r0 G0 H0 ds0) (le : Le G1 G0)
    (h : match clL t c m sl vs ds0 r0 with
      | .ok ds' r' => ∀ G' H', Bd A D (wipe σ sl) r' G' H' ds' → Chg D (wipe σ sl) r0 G0 H0 (wipe σ sl) r' G' H' → Fin' H'
      | _ => False) :
    ∃ W : Nat → Nat → Hp → Prop, (∃ m, W 0 m H0) ∧ ∀ i m H, W i m H → (J.stop i H ∧ Fin' H) ∨ (J.go i H ∧ ∃ Nx : Hp → Prop, (∀ H', Nx H' → ∃ m', m' < m ∧ W (i + 1) m' H') ∧
      ∀ x H', J.yld i H x H' → tTg A st' t x (wipe σ sl) H' fun σ2 H2 => Kp (wipe σ sl) σ2 ∧ tBo A W0 c σ2 H2 fun b H3 => if b = true then body σ2 H3 Nx else Nx H3) := by
  let Fl : DR → Prop := fun a => match a with
    | .ok ds' r' => ∀ G' H', Bd A D (wipe σ sl) r' G' H' ds' → Chg D (wipe σ sl) r0 G0 H0 (wipe σ sl) r' G' H' → Fin' H'
    | _ => False
  let Iv : Nat → Hp → Prop := fun i H => ∃ r G ds, Bd A D (wipe σ sl) r G H ds ∧ Chg D (wipe σ sl) r0 G0 H0 (wipe σ sl) r G H ∧ Fl (clL t c m sl (vs.drop i) ds r)
  refine ⟨fun i n H => i ≤ vs.length ∧ n = vs.length - i ∧ Iv i H, ⟨vs.length, Nat.zero_le _, rfl, r0, G0, ds0, b0, Chg.refl, h⟩, ?_⟩
  rintro i n H ⟨hi, hn, r, G, ds, b, ch, fl⟩
  have leG : Le G1 G := le.trans ch.ex
  by_cases hlt : i < vs.length
  · refine .inr ⟨io.go G H i leG b.ok.sub hlt, Iv (i + 1), fun H' q => ⟨vs.length - (i + 1), by omega, hlt, rfl, q⟩, fun x H' hy => ?_⟩
    obtain ⟨G2, gr, rp⟩ := io.yld G H i vs[i] x H' leG b.ok.sub (by simp [hlt]) hy
    have b2 := b.step (b.ok.grow gr) gr.step
    refine ⟨r, G2, vs[i], b2.ok, rp, ?_⟩
    rw [List.drop_eq_getElem_cons hlt, clL] at fl
    cases ht : t vs[i] r with
    | none => simp only [ht] at fl; exact fl.elim
    | some r3 =>
      simp only [ht] at fl ⊢
      intro σ2 k3 hj hl
      have hw := wipe_eq (σ := σ) (σ2 := σ2) hs hj hl
      obtain ⟨tk1, tk2⟩ := tok _ _ _ ht
      have rt3 : ∀ a, Rt r3 σ2 a → Rt r (wipe σ sl) a := fun a ⟨j, w, h1, h2⟩ => by
        by_cases q : j ∈ st'
        · exact absurd h1 (tk2 j q w)
        · exact ⟨j, w, by rw [← tk1 j q]; exact h1, by rw [← hj j q]; exact h2⟩
      have b3 : Bd A D σ2 r3 G2 H' ds := ⟨k3, b2.kv, b2.ng, fun z => b2.nr (rt3 D z)⟩
      have c3 : Chg D (wipe σ sl) r0 G0 H0 σ2 r3 G2 H' := ch.trans (gr.step.chg.trans ⟨Le.refl _, fun _ _ _ h _ => h, fun _ _ h h' => absurd h h', rt3⟩)
      -- the turn's end
      have fin : ∀ {σ4 : L2.St} {r4 : Env} {G4 H4 : Hp} {ds4 : List (Val × Val)}, Bd A D σ4 r4 G4 H4 ds4 → Chg D σ2 r3 G2 H' σ4 r4 G4 H4 → wipe σ4 sl = wipe σ2 sl → Fl (clL t c m sl (vs.drop (i + 1)) ds4 (wipeR r4 sl)) → Iv (i + 1) H4 := fun {σ4 r4 G4 H4 ds4} b4 c4 e4 f4 => by
        have e5 : wipe σ4 sl = wipe σ sl := e4.trans hw
        have b5 := b4.wipe (sl := sl) hio
        rw [e5] at b5
        refine ⟨_, G4, ds4, b5, c3.trans (c4.trans ⟨Le.refl _, fun _ _ _ h _ => h, fun _ _ h h' => absurd h h', fun a z => rt_wipe (sl := sl) (by rw [e5]; exact z)⟩), f4⟩
      refine ⟨⟨by rw [← hw, wipe_length], fun j v e => by rw [← hw] at e; exact (wipe_some e).1⟩, r3, G2, k3, ?_⟩
      cases hc : c r3 with
      | bad => simp only [hc] at fl; exact fl.elim
      | ex e r4 => simp only [hc] at fl; exact fl.elim
      | ok bb r4 =>
        simp only [hc] at fl ⊢
        intro G4 H4 k4 st4
        have b4 := b3.step k4 st4
        cases bb with
        | false =>
          simp only [Bool.false_eq_true, if_false]
          exact fin b4 st4.chg rfl fl
        | true =>
          simp only [if_true] at fl ⊢
          refine hb σ2 r4 G4 H4 ds _ b4 ?_
          cases hm : m ds r4 with
          | bad => simp only [hm] at fl; exact fl.elim
          | ex e r5 => simp only [hm] at fl; exact fl.elim
          | ok ds5 r5 =>
            simp only [hm] at fl ⊢
            intro σ5 G5 H5 b5 c5 e5
            exact fin b5 (st4.chg.trans c5) e5 fl
  · have e : i = vs.length := by omega
    subst e
    rw [List.drop_length, clL] at fl
    exact .inl ⟨io.stop G H _ leG b.ok.sub (Nat.le_refl _), fl G H b ch⟩

theorem wipe_wipe {σ : L2.St} {sl sl1 : List Nat} (h : ∀ i ∈ sl1, i ∈ sl) : wipe (wipe σ sl1) sl = wipe σ sl :=
  wipe_eq (sl' := sl) (fun _ h => h) (fun j hj => by rw [wipe_out hj, wipe_out fun z => hj (h j z)]) (by rw [wipe_length, wipe_length])
theorem sec_ok {A : Act} {D : Addr} {sl sl1 st1 : List Nat} {fi1 : IF} {t1 : TF} {c1 : BF} {fk f : EF} (lD : A.L D ∨ A.H0 D = none) (tok : TOk st1 t1) (hs : ∀ j ∈ st1, j ∈ sl1) (hio : ∀ i ∈ A.io, i ∉ sl1) (hsl : ∀ i ∈ sl1, i ∈ sl) :
    BodyOk A D sl (tSec D (tIt A W0 fi1) (tTg A st1 t1) (tBo A W0 c1) (tE A W0 (frz fk)) (tE A W0 (frz f)) sl1) (secM fi1 t1 c1 (layM fk f) sl1) := fun σ r G H ds Nx b h => by
  refine ⟨r, G, b.ok, ?_⟩
  unfold secM at h
  cases hf : fi1 r with
  | bad => simp only [hf] at h
  | ex e r1 => simp only [hf] at h
  | ok vs r1 =>
    simp only [hf] at h ⊢
    intro J G1 H1 k1 st1 io
    refine clause_ok tok hs hio (lay_ok lD) io ((b.step k1 st1).wipe hio) (Le.refl _) ?_
    cases hm : clL t1 c1 (layM fk f) sl1 vs ds (wipeR r1 sl1) with
    | bad => simp only [hm] at h
    | ex e r2 => simp only [hm] at h
    | ok ds2 r2 =>
      simp only [hm] at h ⊢
      intro G2 H2 b2 c2
      exact h _ G2 H2 b2 (st1.chg.trans (Chg.trans ⟨Le.refl _, fun _ _ _ h _ => h, fun _ _ h h' => absurd h h', fun a z => rt_wipe z⟩ c2)) (wipe_wipe hsl)
def dc2 (fi : IF) (t : TF) (c : BF) (fi1 : IF) (t1 : TF) (c1 : BF) (fk f : EF) (sl sl1 : List Nat) : EF := fun r => match fi r with
  | .ok vs r1 => match clL t c (secM fi1 t1 c1 (layM fk f) sl1) sl vs [] (wipeR r1 sl) with
    | .ok ys r2 => .ok true (.dct false ys) (restR r1 r2 sl)
    | _ => .bad
  | .ex e r1 => .ex e r1
  | .bad => .bad
theorem dc2_of {A : Act} {W : WX} {fi fi1 : IF} {t t1 : TF} {c c1 : BF} {fk f : EF} {sl sl1 st' st1 : List Nat} {σ : L2.St} {H : Hp} {Q : VK} (tok : TOk st' t) (hs : ∀ j ∈ st', j ∈ sl) (hio : ∀ i ∈ A.io, i ∉ sl) (tok1 : TOk st1 t1) (hs1 : ∀ j ∈ st1, j ∈ sl1) (hsl : ∀ i ∈ sl1, i ∈ sl)
    (h : tE A W (dc2 fi t c fi1 t1 c1 fk f sl sl1) σ H Q) :
    tDc2 (tIt A W fi) (tTg A st' t) (tBo A W0 c) (tIt A W0 fi1) (tTg A st1 t1) (tBo A W0 c1) (tE A W0 (frz fk)) (tE A W0 (frz f)) sl sl1 σ H Q := by
  obtain ⟨r, G, k, m⟩ := h
  refine ⟨r, G, k, ?_⟩
  unfold dc2 at m
  cases hf : fi r with
  | bad => rw [hf] at m; exact m.elim
  | ex e r' => rw [hf] at m; exact m
  | ok vs r1 =>
    simp only [hf] at m ⊢
    intro J G1 H1 k1 st1 io D hD
    have lD : A.L D ∨ A.H0 D = none := k1.fresh hD
    have b0 : Bd A D (wipe σ sl) (wipeR r1 sl) G1 (upd H1 D (.dK [])) [] :=
      ⟨(k1.wipe (sl := sl) hio).grow (Grow.laidH (o := .dK []) k1.sub hD), ⟨[], upd_same, repK_nil0⟩, k1.sub.back hD, (k1.wipe (sl := sl) hio).notRt hD⟩
    refine clause_ok tok hs hio (sec_ok lD tok1 hs1 (fun i hi z => hio i hi (hsl i z)) hsl) io b0 (Le.refl _) ?_
    cases hm : clL t c (secM fi1 t1 c1 (layM fk f) sl1) sl vs [] (wipeR r1 sl) with
    | bad => simp only [hm] at m
    | ex e r2 => simp only [hm] at m
    | ok ys r2 =>
      simp only [hm] at m ⊢
      intro G2 H2 b2 c2
      have st2 : Step (wipe σ sl) (wipeR r1 sl) G1 H1 r2 G2 H2 := ⟨c2.ex, fun a o ha n => c2.keep a o (ne_of_none ha hD) (by rw [upd_ne (ne_of_none ha hD)]; exact ha) n, fun a ha ha' => by
        have ne : a ≠ D := fun z => ha' (by rw [z]; exact b2.ng)
        have := c2.grow a ne ha ha'
        rw [upd_ne ne] at this
        exact this, c2.rts⟩
      obtain ⟨k3, st3⟩ := k1.unwipe b2.ok st2
      obtain ⟨acc, hacc, rk⟩ := b2.kv
      refine m (.ref D) G2 H2 ⟨k3, st1.trans st3, trep_t (root_dK hacc rk) b2.ng (fun z => ?_) lD, fun _ a e => by cases e; exact st1.fresh hD⟩
      rcases k1.rt (st3.rts D z) with ⟨⟨o, ho⟩, _⟩
      rw [hD] at ho; cases ho
section
variable {X : Cx} {A : Act} {W : WX} {kx vx t0 i0 t1 i1 : Expr} {ifs0 ifs1 : List Expr} {scope : Scope} {own : List (Str × Nat)} {pos : Pos} {fi fi1 : IF} {t t2 : TF} {c c1 : BF} {fk f : EF} {st' st1 sl sl1 : List Nat}
theorem pe_dc2M (hc : X.calm = true) (hN : X.N.Nodup) (hi : PI X t0 i0 (tIt A W fi)) (ok : BlkOk X.N X.env.scope scope own)
    (hg : ∀ (s : Shared) (H : Hp) (C : Addr) (cl : List (Str × Addr)) (fp : List Addr), PG (X.blk s H scope (compEnvC scope cl C X.env) fp) t0 (tTg A st' t))
    (ht : ∀ (s : Shared) (H : Hp) (C : Addr) (cl : List (Str × Addr)) (fp : List Addr), PTs (X.blk s H scope (compEnvC scope cl C X.env) fp) ifs0 (tBo A W0 c))
    (hi1 : ∀ (s : Shared) (H : Hp) (C : Addr) (cl : List (Str × Addr)) (fp : List Addr), PI (X.blk s H scope (compEnvC scope cl C X.env) fp) t1 i1 (tIt A W0 fi1))
    (hg1 : ∀ (s : Shared) (H : Hp) (C : Addr) (cl : List (Str × Addr)) (fp : List Addr), PG (X.blk s H scope (compEnvC scope cl C X.env) fp) t1 (tTg A st1 t2))
    (ht1 : ∀ (s : Shared) (H : Hp) (C : Addr) (cl : List (Str × Addr)) (fp : List Addr), PTs (X.blk s H scope (compEnvC scope cl C X.env) fp) ifs1 (tBo A W0 c1))
    (hk : ∀ (s : Shared) (H : Hp) (C : Addr) (cl : List (Str × Addr)) (fp : List Addr), PE (X.blk s H scope (compEnvC scope cl C X.env) fp) kx (tE A W0 fk))
    (he : ∀ (s : Shared) (H : Hp) (C : Addr) (cl : List (Str × Addr)) (fp : List Addr), PE (X.blk s H scope (compEnvC scope cl C X.env) fp) vx (tE A W0 f))
    (tok : TOk st' t) (hs' : ∀ j ∈ st', j ∈ sl) (tok1 : TOk st1 t2) (hs1' : ∀ j ∈ st1, j ∈ sl1) (hv : ∀ i ∈ sl1, i ∈ sl) (hio : ∀ i ∈ A.io, i ∉ sl) (hsl : own.map (·.2) = sl := by rfl)
    (hs : ∀ x, foldedSetIterable i0 X.env x = pure x := by intro _; rfl) (hs1 : ∀ env x, foldedSetIterable i1 env x = pure x := by intro _ _; rfl) :
    PE X (.DictComp kx vx [⟨t0, i0, ifs0, 0⟩, ⟨t1, i1, ifs1, 0⟩] scope pos) (tE A W (dc2 fi t c fi1 t2 c1 fk f sl sl1)) := by
  subst hsl
  exact PE.imp (pe_dc2 hc hN hi ok hv hg ht hi1 hg1 ht1 (fun s H C cl fp => pe_frz (hk s H C cl fp)) (fun s H C cl fp => pe_frz (he s H C cl fp)) hs hs1) fun _ _ _ q => dc2_of tok hs' hio tok1 hs1' hv q
end
end M
/-! MPJ: f-strings. -/
namespace M
open PySem L2
def Pfmt : List Val → Option (Bool × Val)
  | [.str s] => some (false, .str s)
  | [.int i] => if i.natAbs.log2 < 1920 ∧ (toString i : Str).length ≤ sizeLine then some (false, .str (toString i)) else none
  | _ => none
def fsL : List EF → Str → EF
  | [], acc, r => .ok false (.str acc) r
  | f :: fs, acc, r => match f r with
    | .ok _ (.str y) r1 => if (acc ++ y).length ≤ sizeLine then fsL fs (acc ++ y) r1 else .bad
    | .ok _ _ _ => .bad
    | .ex e r1 => .ex e r1
    | .bad => .bad
def fstr (fs : List EF) : EF := fsL fs Str.empty
section
variable {X : Cx} {A : Act} {W : WX} {pos : Pos}
theorem pe_fmtM {e : Expr} {fo : OF} (he : PE X e (tO A W fo)) : PE X (.FormattedValue e (-1) none pos) (tE A W (prim Pfmt (osCons fo osNil))) :=
  PE.imp (pe_fmt he) fun σ H Q q => by
    have q1 := prim_os1 q
    obtain ⟨r, G, k, m⟩ := q1
    refine ⟨r, G, k, ?_⟩
    cases hf : fo r with
    | bad => simp only [hf] at m
    | ex e r' => simp only [hf] at m ⊢; exact m
    | ok h r1 =>
      simp only [hf] at m ⊢
      intro x G1 H1 k1 st1 t1
      obtain ⟨G2, vs, o, z, le, rr, hp, q2⟩ := m x G1 H1 k1 st1 t1
      unfold Pfmt at hp
      split at hp
      · obtain ⟨y, e, r1⟩ := rreps_one rr
        cases e; cases hp
        obtain ⟨rfl, hz⟩ := rrep_str r1
        exact .inl ⟨_, rfl, hz, str_new le hz q2⟩
      · split at hp
        · rename_i hb
          obtain ⟨y, e, r1⟩ := rreps_one rr
          cases e; cases hp
          obtain rfl := rrep_int r1
          exact .inr ⟨_, rfl, hb.1, str_new le hb.2 q2⟩
        · cases hp
      · cases hp
theorem fs_of {σ : L2.St} : ∀ {fs : List EF} {acc : Str} {r : Env} {G H : Hp} {Q : VK}, Ok A G H σ r → acc.length ≤ sizeLine →
    (match fsL fs acc r with
      | .ok o v r' => ∀ x G' H', Res A σ r G H r' G' H' o v x → Q x H'
      | .ex e r' => ExP A W G σ e r'
      | .bad => False) → tJs (fs.map fun f => tE A W (frz f)) acc σ H fun out H1 => Q (.str out) H1
  | [], acc, r, G, H, Q, k, hz, m => m (.str acc) G H ⟨k, Step.refl, (show Rep A.w G (.str acc) (.str acc) from rep_str.mpr ⟨rfl, hz⟩), fun z => nomatch z⟩
  | f :: fs, acc, r, G, H, Q, k, hz, m => by
    show tE A W (frz f) σ H fun x H1 => ∃ y : Str, x = .str y ∧ (acc ++ y).length ≤ sizeLine ∧ tJs (fs.map fun f => tE A W (frz f)) (acc ++ y) σ H1 _
    refine ⟨r, G, k, ?_⟩
    simp only [fsL] at m
    unfold frz
    cases hf : f r with
    | bad => simp only [hf] at m
    | ex e r1 => simp only [hf] at m ⊢; exact m
    | ok o v r1 =>
      simp only [hf] at m ⊢
      intro x G1 H1 R1
      cases v with
      | str y =>
        simp only at m
        by_cases hb : (acc ++ y).length ≤ sizeLine
        case neg => rw [if_neg hb] at m; exact m.elim
        rw [if_pos hb] at m
        obtain ⟨rfl, _⟩ := rep_str.mp (show Rep A.w G1 (.str y) x from R1.tr)
        refine ⟨y, rfl, hb, fs_of R1.ok hb ?_⟩
        cases h2 : fsL fs (acc ++ y) r1 with
        | bad => simp only [h2] at m
        | ex e r2 => simp only [h2] at m ⊢; exact m.mono R1.st.ex
        | ok o2 v2 r2 =>
          simp only [h2] at m ⊢
          intro z G2 H2 R2
          refine m z G2 H2 ⟨R2.ok, R1.st.trans R2.st, R2.tr, fun e a ea => ?_⟩
          rcases R2.fr e a ea with y | y
          · exact R1.st.fresh y
          · exact .inr (R1.st.rts a y)
      | _ => exact m.elim
theorem pj_Nil : PJ X [] (([] : List EF).map fun f => tE A W (frz f)) := .nil
theorem pj_Cons {e : Expr} {es : List Expr} {f : EF} {fs : List EF} (h : PE X e (tE A W f)) (r : PJ X es (fs.map fun f => tE A W (frz f))) : PJ X (e :: es) ((f :: fs).map fun f => tE A W (frz f)) := .cons (pe_frz h) r
theorem pe_fstr {v1 v2 : Expr} {rest : List Expr} {fs : List EF} (h : PJ X (v1 :: v2 :: rest) (fs.map fun f => tE A W (frz f))) : PE X (.JoinedStr (v1 :: v2 :: rest) pos) (tE A W (fstr fs)) :=
  PE.imp (pe_joined h) fun σ H Q ⟨r, G, k, m⟩ => fs_of k (Nat.zero_le _) m
theorem pe_fstr1 {e : Expr} {f : EF} (h : PE X e (tE A W f)) : PE X (.JoinedStr [e] pos) (tE A W f) := pe_joined1 h
end
end M
/-! MPK: what a head says of classes. -/
namespace M
open PySem PySem.W PySem.Calls PyProof.Rows L2
/-- a property's getter -/
def pf (K : PySem.W.Frag) (C : Addr) (m : Str) : Addr := match recIn K (He.ma K C m) "property" with
  | some (.ref f :: _) => f
  | _ => 0
def propB (K : PySem.W.Frag) (C : Addr) (m : Str) : Bool := He.eqO (findIn K (.ref C) m) (some (some (.ref (He.ma K C m)))) && (He.eqO (specialIn K (.ref (He.ma K C m)) "__get__") (some (some (.builtin "property.__get__"))) &&
  (decide (takesIn K (.ref (He.ma K C m)) = some true) && (match recIn K (He.ma K C m) "property" with
    | some (.ref _ :: _) => true
    | _ => false)))
theorem propB_ok {K : PySem.W.Frag} {C : Addr} {m : Str} (h : propB K C m = true) : PropOf K C m (He.ma K C m) (pf K C m) := by
  obtain ⟨h1, h⟩ := He.ba h
  obtain ⟨h2, h⟩ := He.ba h
  obtain ⟨h3, h4⟩ := He.ba h
  refine ⟨He.eqO_ok h1, He.eqO_ok h2, of_decide_eq_true h3, ?_⟩
  unfold pf
  split at h4
  · rename_i f r e
    exact ⟨r, by rw [e]⟩
  · cases h4
def creadB (K : PySem.W.Frag) (C : Addr) : Bool := readsIn K C (.type "type") && He.eqO (specialIn K (.ref C) "__getattribute__") (some (some (.builtin "type.__getattribute__")))
theorem creadB_ok {K : PySem.W.Frag} {C : Addr} (h : creadB K C = true) : ClX.CRead K C (.type "type") := let ⟨h1, h2⟩ := He.ba h; ⟨h1, He.eqO_ok h2⟩
def cmetB (K : PySem.W.Frag) (C : Addr) (m : Str) : Bool := He5.wrapB K C "classmethod" "classmethod.__get__" m && fnIn K (He5.wf K C "classmethod" m)
theorem cmetB_ok {K : PySem.W.Frag} {C : Addr} {m : Str} (h : cmetB K C m = true) : ClX.CMet K C (.type "type") m (He.ma K C m) (He5.wf K C "classmethod" m) := let ⟨h1, h2⟩ := He.ba h; He5.cmet_of h1 h2
/-- an own exception class over ValueError -/
def oexB (K : PySem.W.Frag) (C : Addr) : Bool := (match K.lookup C with
  | some ⟨.type T, _, .cls cd, sl⟩ => match cd.mro, sl.toList with
    | .ref D :: bm, [_, _, _, _, k4, _] => decide (T = "type") && (decide (D = C) && (cd.hasDict && (!cd.hasDel && (decide (k4 = some (.builtin "ValueError.__new__")) && PySem.HandSPX.refsVE bm))))
    | _, _ => false
  | _ => false) && (He.eqO (findIn K (.ref C) "__setattr__") (some (some (.builtin "object.__setattr__"))) && (decide (subIn K (.ref C) (.type "BaseException") = some true) && (decide (typeIn K (.ref C) = some (.type "type")) && keepIn K (.ref C))))
theorem oexB_ok {K : PySem.W.Frag} {C : Addr} (h : oexB K C = true) : L2.OexC K C := by
  obtain ⟨h1, h⟩ := He.ba h
  obtain ⟨h2, h⟩ := He.ba h
  obtain ⟨h3, h⟩ := He.ba h
  obtain ⟨h4, h5⟩ := He.ba h
  refine ⟨?_, He.eqO_ok h2, of_decide_eq_true h3, of_decide_eq_true h4, h5⟩
  split at h1
  · rename_i T dd cd sl e
    split at h1
    · rename_i D bm k0 k1 k2 k3 k4 k5 e1 e2
      obtain ⟨g1, h1⟩ := He.ba h1
      obtain ⟨g2, h1⟩ := He.ba h1
      obtain ⟨g3, h1⟩ := He.ba h1
      obtain ⟨g4, h1⟩ := He.ba h1
      obtain ⟨g5, g6⟩ := He.ba h1
      have g1 := of_decide_eq_true g1
      have g2 := of_decide_eq_true g2
      have g5 := of_decide_eq_true g5
      subst g1 g2 g5
      obtain ⟨nm, bs, mro, ns, qn, hd, sn, sb, ab, col, del⟩ := cd
      dsimp only at e1 g3 g4
      subst e1 g3
      have g4 : del = false := by simpa using g4
      subst g4
      have e3 : sl = #[k0, k1, k2, k3, some (.builtin "ValueError.__new__"), k5] := by
        have := congrArg List.toArray e2
        simpa using this
      subst e3
      exact ⟨nm, qn, ns, bs, bm, sn, sb, ab, col, dd, k0, k1, k2, k3, k5, e, g6⟩
    · cases h1
  · cases h1
def eicB (K : PySem.W.Frag) (D : Addr) : Bool := He.eqO (findIn K (.ref D) "__getattribute__") (some (some (.builtin "BaseException.__getattribute__"))) && (He.eqO (findIn K (.ref D) "__getattr__") (some none) && (decide (subIn K (.ref D) (.type "BaseException") = some true) && (hasDictIn K D && (He.eqO (findIn K (.ref D) "__class__") (some (some (.builtin "object.__class__"))) &&
  (He.eqO (specialIn K (.builtin "object.__class__") "__get__") (some (some (.builtin "getset_descriptor.__get__"))) && (decide (takesIn K (.builtin "object.__class__") = some true) && decide (mroIn K D (.type "object") = some true)))))))
theorem eicB_ok {K : PySem.W.Frag} {D : Addr} (h : eicB K D = true) : L2.ExcC K D := by
  obtain ⟨h1, h⟩ := He.ba h
  obtain ⟨h2, h⟩ := He.ba h
  obtain ⟨h3, h⟩ := He.ba h
  obtain ⟨h4, h⟩ := He.ba h
  obtain ⟨h5, h⟩ := He.ba h
  obtain ⟨h6, h⟩ := He.ba h
  obtain ⟨h7, h8⟩ := He.ba h
  exact ⟨He.eqO_ok h1, He.eqO_ok h2, of_decide_eq_true h3, h4, He.eqO_ok h5, He.eqO_ok h6, of_decide_eq_true h7, of_decide_eq_true h8⟩
structure ExOk (K : PySem.W.Frag) (C : Addr) : Prop where
  o : L2.OexC K C
  f : L2.XfC K C
  i : L2.ExcC K C
def exkB (K : PySem.W.Frag) (C : Addr) : Bool := oexB K C && (L2.xfB K C && eicB K C)
theorem exkB_ok {K : PySem.W.Frag} {C : Addr} (h : exkB K C = true) : ExOk K C := let ⟨h1, h⟩ := He.ba h; let ⟨h2, h3⟩ := He.ba h; ⟨oexB_ok h1, L2.xfB_ok h2, eicB_ok h3⟩
structure IniOk (K : PySem.W.Frag) (C f : Addr) : Prop where
  iC : findIn K (.ref C) "__init__" = some (some (.ref f))
  tI : typeIn K (.ref f) = some (.type "function")
def iniB (K : PySem.W.Frag) (C : Addr) : Bool := He.eqO (findIn K (.ref C) "__init__") (some (some (.ref (He.ma K C "__init__")))) && decide (typeIn K (.ref (He.ma K C "__init__")) = some (.type "function"))
theorem iniB_ok {K : PySem.W.Frag} {C : Addr} (h : iniB K C = true) : IniOk K C (He.ma K C "__init__") := let ⟨h1, h2⟩ := He.ba h; ⟨He.eqO_ok h1, of_decide_eq_true h2⟩
/-- one fact more -/
inductive Fb where
  | fa (f : He.Fa)
  | prop (x m : Str)
  | cread (x : Str)
  | cmet (x m : Str)
  | con (x f : Str) (v : Value)
  | exk (x : Str)
  | ini (x : Str)
  | xno (x f : Str)
  | exm (x D : Str) (b : Bool)
  | kit (x D : Str) (b : Bool)
  | kitT (x : Str) (T : String) (b : Bool)
def Fb.ok (K : PySem.W.Frag) : Fb → Bool
  | .fa f => f.ok K
  | .prop x m => propB K (He.ga K x) m
  | .cread x => creadB K (He.ga K x)
  | .cmet x m => cmetB K (He.ga K x) m
  | .exk x => exkB K (He.ga K x)
  | .ini x => iniB K (He.ga K x)
  | .xno x f => He.eqO (findIn K (.ref (He.ga K x)) f) (some none)
  | .exm x D b => decide (exmOne K (.ref (He.ga K x)) (.ref (He.ga K D)) = some b)
  | .kit x D b => decide (kitOne K (.ref (He.ga K x)) (.ref (He.ga K D)) = some b)
  | .kitT x T b => decide (kitOne K (.ref (He.ga K x)) (.type T) = some b)
  | .con x f v => He.eqO (findIn K (.ref (He.ga K x)) f) (some (some v)) && He.eqO (specialIn K v "__get__") (some none)
def obsM (fa : List Fb) (fn : List He5.DefA) (K : PySem.W.Frag) : He.AlD := ((fa.all fun f => f.ok K) && fn.all fun d => d.ok K, fn.map fun d => He5.fnA K (d.at_ K))
def SaysM (fa : List Fb) (fn : List He5.DefA) (K : PySem.W.Frag) : Prop := obsM fa fn K = He5.valA fn
def obsMG (n : Nat) (fa : List Fb) (fn : List He5.DefA) (g : Addr → Option Obj) : He.AlD := obsM fa fn (He.frG g (He5.asA g n))
def hookM (n : Nat) (fa : List Fb) (fn : List He5.DefA) : PySem.W.Hook where
  α := He.AlD
  obs := fun s => obsMG n fa fn s.heap.get?
  val := fun _ => He5.valA fn
  says := fun _ h => ∃ K : PySem.W.Frag, K.In h ∧ SaysM fa fn K
  of := fun _ _ e => ⟨_, He.frG_in, e⟩
  keeps := fun _ _ _ ⟨K, hK, c⟩ k => ⟨K, Frag.In.keeps hK k, c⟩
theorem obsMG_eq {n : Nat} {fa : List Fb} {fn : List He5.DefA} {g : Addr → Option Obj} {s : Shared} (h : ∀ a, g a = s.heap.get? a) : obsMG n fa fn g = (hookM n fa fn).obs s := by
  have e : g = s.heap.get? := funext h
  rw [e] <;> rfl
section
variable {fa : List Fb} {fn : List He5.DefA} {K : PySem.W.Frag}
theorem SaysM.fact (c : SaysM fa fn K) (i : Nat) {f : Fb} (h : fa[i]? = some f := by rfl) : f.ok K = true := by
  have c1 := (He.ba (show ((fa.all fun f => f.ok K) && fn.all fun d => d.ok K) = true from congrArg (fun z : He.AlD => z.1) c)).1
  exact List.all_eq_true.mp c1 f (List.mem_of_getElem? h)
theorem SaysM.def_ (c : SaysM fa fn K) (i : Nat) {d : He5.DefA} (h : fn[i]? = some d := by rfl) : ∃ fd, L2.FunD K d.name d.qual d.params d.body d.scope (d.dvs K) (d.kws K) (d.at_ K) fd := by
  have c2 := (He.ba (show ((fa.all fun f => f.ok K) && fn.all fun d => d.ok K) = true from congrArg (fun z : He.AlD => z.1) c)).2
  have e : fn.map (fun d => He5.fnA K (d.at_ K)) = fn.map He5.DefA.val := congrArg (fun z : He.AlD => z.2) c
  have e2 : (fn.map fun d => He5.fnA K (d.at_ K))[i]? = (fn.map He5.DefA.val)[i]? := by rw [e]
  rw [List.getElem?_map, List.getElem?_map, h] at e2
  exact He5.DefA.funD (Option.some.inj e2) (List.all_eq_true.mp c2 d (List.mem_of_getElem? h))
end
/-- a def of the module, a method, a property's getter, a classmethod's def -/
def dGlo (x : Str) (st : Stmt) : He5.DefA := ⟨fun K => He.ga K x, x, x, defArgs st, defBody st, defScope st, [], []⟩
def dMth (x m q : Str) (st : Stmt) : He5.DefA := ⟨fun K => He.ma K (He.ga K x) m, m, q, defArgs st, defBody st, defScope st, [], []⟩
def dPrp (x m q : Str) (st : Stmt) : He5.DefA := ⟨fun K => pf K (He.ga K x) m, m, q, defArgs st, defBody st, defScope st, [], []⟩
def dCmt (x m q : Str) (st : Stmt) : He5.DefA := ⟨fun K => He5.wf K (He.ga K x) "classmethod" m, m, q, defArgs st, defBody st, defScope st, [], []⟩
/-- a statement of a class's body -/
def inCls : Stmt → Nat → Stmt
  | .ClassDef (body := b) .., i => b.getD i (.Pass ⟨0, 0, 0, 0⟩)
  | _, _ => .Pass ⟨0, 0, 0, 0⟩
end M
/-! MPN: name = {k: v for ..} on one line; what the walk of classes leans on. -/
namespace M
open PySem L2
theorem sw_trueD {kx vx : Expr} {gs : List Comprehension} {scope : Scope} {pos py : Pos} {y : Str} {l : Nat} {env : PySem.Env} (hk : env.scope.kind = .function) (hy : env.scope.names.lookup y = some .local) (hl : (py.line == pos.line) = true)
    (ha : (scope.names.any fun (n, k) => n == y && (k == .local || k == .cell)) = false) : swapsWith (.DictComp kx vx gs scope pos) (some (.Name y py)) l env = pure true := by
  have hb : env.blockKind = .function := by unfold PySem.Env.blockKind; rw [hk]; rfl
  unfold swapsWith
  simp only [hb, show env.kindOf y = some .local from hy, ha, Expr.pos, hl]
  rfl
section
variable {X : Cx} {A : Act} {W : WX} {kx vx tg iter : Expr} {ifs : List Expr} {scope : Scope} {own : List (Str × Nat)} {pos spos : Pos} {fi : IF} {t : TF} {c : BF} {fk f : EF} {st' sl : List Nat}
theorem ps_asgDc {i : Nat} {y : Str} {py : Pos} (hc : X.calm = true) (hN : X.N.Nodup) (hy : X.N[i]? = some y) (hyl : X.env.scope.names.lookup y = some .local) (hyi : i ∉ A.io)
    (hsw : swapsWith (.DictComp kx vx [⟨tg, iter, ifs, 0⟩] scope pos) (some (.Name y py)) spos.line X.env = pure true) (hi : PI X tg iter (tIt A W fi)) (ok : BlkOk X.N X.env.scope scope own)
    (hg : ∀ (s : Shared) (H : Hp) (C : Addr) (cl : List (Str × Addr)) (fp : List Addr), PG (X.blk s H scope (compEnvC scope cl C X.env) fp) tg (tTg A st' t))
    (ht : ∀ (s : Shared) (H : Hp) (C : Addr) (cl : List (Str × Addr)) (fp : List Addr), PTs (X.blk s H scope (compEnvC scope cl C X.env) fp) ifs (tBo A W0 c))
    (hk : ∀ (s : Shared) (H : Hp) (C : Addr) (cl : List (Str × Addr)) (fp : List Addr), PE (X.blk s H scope (compEnvC scope cl C X.env) fp) kx (tE A W0 fk))
    (he : ∀ (s : Shared) (H : Hp) (C : Addr) (cl : List (Str × Addr)) (fp : List Addr), PE (X.blk s H scope (compEnvC scope cl C X.env) fp) vx (tE A W0 f))
    (tok : TOk st' t) (hs' : ∀ j ∈ st', j ∈ sl) (hio : ∀ i ∈ A.io, i ∉ sl) (hsl : own.map (·.2) = sl := by rfl) (hs : ∀ x, foldedSetIterable iter X.env x = pure x := by intro _; rfl) :
    PS X (.Assign [.Name y py] (.DictComp kx vx [⟨tg, iter, ifs, 0⟩] scope pos) spos) (tSt A W (asg i (dc fi t c fk f sl))) := by
  subst hsl
  refine ⟨fun pins s σ H D I h => ?_⟩
  have h2 : tDc (tIt A W fi) (tTg A st' t) (tBo A W0 c) (tE A W0 (frz fk)) (tE A W0 (frz f)) (own.map (·.2)) σ H (fun x H1 => gName i x σ H1 D.nx) := by
    obtain ⟨r, G, k, m⟩ := tSt_iff.mp h
    refine dc_of tok hs' hio ⟨r, G, k, ?_⟩
    unfold asg at m
    cases hf : dc fi t c fk f (own.map (·.2)) r with
    | bad => rw [hf] at m; exact m.elim
    | ex e r' => simp only [hf] at m ⊢; exact m σ
    | ok o v r' => simp only [hf] at m ⊢; exact fun x G' H' R => m _ G' H' (R.ok.store R.tr hyi) R.st.ex
  rw [exec_Assign_Name_used _ _ _ _ hsw]
  refine wpAny_bind (wpAny_standAt (wpAny_bind ?_))
  show wpAny _ X.A (do let _ ← comprehension (.DictComp kx vx [⟨tg, iter, ifs, 0⟩] scope pos) scope X.env (firstIterPos [⟨tg, iter, ifs, 0⟩] pos) newDict false (eval iter X.env) (some (assign (.Name y py) X.env))) _ _ s
  refine wpAny_bind (thn (dc_core (Qf := fun _ s' => SP X pins D .next s') hc hN I hi ok hg ht (fun s H C cl fp => pe_frz (hk s H C cl fp)) (fun s H C cl fp => pe_frz (he s H C cl fp)) hs h2 fun L C s' m H' I' q hn fp => ?_) fun _ s' hq => wpAny_pure (wpAny_pure hq))
  obtain ⟨a0, a1, a2, a3, a4, a5⟩ := fp
  show wpAny _ _ (assign (.Name y py) X.env (.ref L)) _ _ _
  refine wpAny_assign_Name (store_ok2 (v := V.ref L) I' hN hy (.inl hyl) rfl (fun s2 I2 ⟨a, sb, ha⟩ => ?_) (.inr hyl))
  have ne : C ≠ a := ha.elim (fun z => by rw [z]; exact a1) fun z e => a4 y a z e.symm
  exact ⟨m, hn.sameBut sb ne, fun h3 sb3 => ⟨_, H', I2.turned (t' := s2.toks) (fun b o hb e => (sb3.2 b hb).trans e) a0 a1 a3 a4 a5, q⟩⟩
end
/-! ### classes -/
/-- the world of a module whose classes stand under their names -/
def cmK (K : PySem.W.Frag) : Str → Option Addr := fun c => some (He.ga K c)
section
variable {X : Cx} {wd : Wd} {lvl lv n : Nat} {m c q x : Str} {st : Stmt} {ps : List Str} {g : GF} {C f : Addr}
theorem mth_of (d : DefQ X.prog X.w X.K X.mg X.base wd lv m q st ps g f) (hk : lv ≤ lvl) (hC : wd.CM c = some C) (cl : Cls X.K C) (me : Meth X.K C m f) (hn : ps.length = n := by rfl) : MthOk X wd lvl m c n g := ⟨⟨_, _, hC, cl, me, d.fnP hk hn⟩⟩
theorem prp_of {p : Addr} (d : DefQ X.prog X.w X.K X.mg X.base wd lv m q st ps g f) (hk : lv ≤ lvl) (hC : wd.CM c = some C) (cl : Cls X.K C) (po : PropOf X.K C m p f) (hn : ps.length = n := by rfl) : PrpOk X wd lvl m c n g := ⟨⟨_, _, _, hC, cl, po, d.fnP hk hn⟩⟩
theorem mk_of (d : DefQ X.prog X.w X.K X.mg X.base wd lv x q st ps g f) (hk : lv ≤ lvl) (hC : wd.CM c = some C) (mo : Mk X.K C f) (hn : ps.length = n := by rfl) : MkOk X wd lvl c n g := ⟨⟨_, _, hC, mo, d.fnP hk hn⟩⟩
theorem mk_ofP (F : FnP X.prog X.w X.K X.mg X.base (L2.CX X.prog X.w) lv f (spF wd n g)) (hk : lv ≤ lvl) (hC : wd.CM c = some C) (mo : Mk X.K C f) : MkOk X wd lvl c n g := ⟨⟨_, _, hC, mo, F.up hk⟩⟩
theorem cmt_of {mc : Value} {p : Addr} (d : DefQ X.prog X.w X.K X.mg X.base wd lv m q st ps g f) (hk : lv ≤ lvl) (hC : wd.CM c = some C) (cr : ClX.CRead X.K C mc) (cm : ClX.CMet X.K C mc m p f) (hn : ps.length = n := by rfl) : CmtOk X wd lvl m c n g := ⟨⟨_, _, _, _, hC, cr, cm, d.fnP hk hn⟩⟩
theorem fld_nil {f : Str} : FldOk wd [] f := fun _ h => nomatch h
theorem fld_cons {cs : List Str} {f : Str} (hC : wd.CM c = some C) (cl : Cls wd.K C) (na : NoAttr wd.K C f) (h : FldOk wd cs f) : FldOk wd (c :: cs) f := fun d hd => (List.mem_cons.mp hd).elim (fun z => by subst z; exact ⟨C, hC, cl, na⟩) (h d)
end
theorem bf_sorted : bootBuiltins "sorted" = some (.builtin "sorted") := by decide +kernel
theorem bf_sum : bootBuiltins "sum" = some (.builtin "sum") := by decide +kernel
/-- ps_whl' with the bound found by the goal (an explicit argument behind the proofs would keep the elaborator from looking at the goal first) -/
theorem ps_whlN {X : Cx} {A : Act} {W : WX} {c : BF} {f : SF} {t : Expr} {body : List Stmt} {pos : Pos} {n : Nat} (hp : PassesOwn (model X.prog X.w) X.A X.env X.xe) (hc : PT X t (tBo A W c)) (hb : PSs X body (tSt A W f)) : PS X (.While t body [] pos) (tSt A W (whl c f n)) := ps_whl' hp hc hb n
end M
/-! MPDQ: == and != of dicts whose values are data. -/
namespace M
open PySem L2
def eqD1 (v u : Val) : Option Bool := match toD v, toD u with
  | some d, some e => if shp d = true ∧ shp e = true then some (PyData.eqv d e) else none
  | _, _ => none
def eqDL (es : List (Val × Val)) : List (Val × Val) → Option Bool
  | [] => some true
  | (k, v) :: ds => match keyOf k with
    | some q => match dGet es q with
      | some u => match eqD1 v u, eqDL es ds with
        | some b, some b' => some (b && b')
        | _, _ => none
      | none => some false
    | none => none
def PeqDD : List Val → Option (Bool × Val)
  | [.dct false ds, .dct false es] => (eqDL es ds).map fun b => (false, .bl (ds.length == es.length && b))
  | _ => none
def PneDD : List Val → Option (Bool × Val)
  | [.dct false ds, .dct false es] => (eqDL es ds).map fun b => (false, .bl (!(ds.length == es.length && b)))
  | _ => none
section
variable {X : Cx} {w : Wd} {G H : Hp}
theorem hits_of {pins : List (Addr × Obj)} {σ : L2.St} {s : Shared} (c : Cal X w) (I : Inv X pins σ H s) (le : Le G H) {es : List (Val × Val)} {kvs' : List (Key × V)} {kb : List (Key × Value)} (re : RepK w G es kvs') (ke : KV kvs' kb) :
    ∀ {ds : List (Val × Val)} {kvs : List (Key × V)} {vs : List (Key × Value)} {b : Bool}, RepK w G ds kvs → KV kvs vs → eqDL es ds = some b → PySem.W.KeqHits X.A.in1 s kb vs b
  | [], _, vs, b, r, kv, h => by
    rw [RepK] at r; subst r
    cases kv
    simp only [eqDL, Option.some.injEq] at h
    subst h
    exact .nil
  | (k, d) :: ds, _, vs, b, r, kv, h => by
    rw [RepK] at r
    obtain ⟨q, y, ys, rfl, ⟨rfl, _⟩, r1, r2⟩ := r
    cases kv with
    | @cons _ p _ vs' h1 t =>
      obtain ⟨e1, e2⟩ := h1
      obtain ⟨pk, pv⟩ := p
      have e1 : q = pk := e1
      subst e1
      have hq : keyOf (M.kv q) = some q := by cases q <;> rfl
      rw [eqDL, hq] at h
      dsimp only at h
      obtain ⟨g1, g2⟩ := repK_get q re
      have kq := ke.val q
      cases hg : dGet es q with
      | none =>
        rw [hg] at h
        simp only [Option.some.injEq] at h
        subst h
        rw [g2 hg] at kq
        refine .miss ?_
        cases hv : valueAt kb q with
        | none => rfl
        | some u => rw [hv] at kq; exact kq.elim
      | some u =>
        rw [hg] at h
        dsimp only at h
        obtain ⟨x, hx, rx⟩ := g1 u hg
        rw [hx] at kq
        cases hv : valueAt kb q with
        | none => rw [hv] at kq; exact kq.elim
        | some z =>
          rw [hv] at kq
          cases h3 : eqD1 d u with
          | none => rw [h3] at h; cases h
          | some b1 =>
            cases h4 : eqDL es ds with
            | none => rw [h3, h4] at h; cases h
            | some b2 =>
              rw [h3, h4] at h
              simp only [Option.some.injEq] at h
              subst h
              unfold eqD1 at h3
              split at h3
              · rename_i dd de h5 h6
                split at h3
                · rename_i hs
                  cases h3
                  obtain ⟨as, ra⟩ := Dp.reads I dd y pv (dp_of c.K le r1 h5) e2
                  obtain ⟨bs, rb⟩ := Dp.reads I de x z (dp_of c.K le rx h6) kq
                  refine .hit hv ?_ (hits_of c I le re ke r2 t h4)
                  exact PySem.W.keq_at ra rb hs.1 hs.2 (by have := c.un; show X.A.units + 1 + 64 < cLine; omega)
                · cases h3
              · cases h3
theorem opr_eqDD (c : Cal X w) : OpR X (compareOp .Eq) (r2Of w PeqDD) := by
  intro pins s σ H x y v u Q I rx ry ⟨G, vs, o, z, le, rr, hp, q⟩
  unfold PeqDD at hp
  split at hp
  · rename_i ds es
    obtain ⟨_, _, e, r1, r2⟩ := rreps_two rr
    cases e
    rw [Option.map_eq_some_iff] at hp
    obtain ⟨b, hb, e⟩ := hp
    cases e
    obtain ⟨a1, rfl, ⟨_, kvs, hk, rk⟩ | ⟨z, _⟩⟩ := rrep_dct le r1
    · obtain ⟨a2, rfl, ⟨_, kvs', hk', rk'⟩ | ⟨z, _⟩⟩ := rrep_dct le r2
      · obtain ⟨_, s1, vs1, kv1, d1⟩ := dk_rd I.hok hk
        obtain ⟨_, s2, vs2, kv2, d2⟩ := dk_rd I.hok hk'
        obtain rfl : v = Value.ref a1 := rx
        obtain rfl : u = Value.ref a2 := ry
        refine PySem.W.keq_eq s1 s2 d1 d2 (by have := c.un; omega) (fun _ => hits_of c I le rk' kv2 rk kv1 hb) ?_
        rw [show (vs1.length == vs2.length) = (ds.length == es.length) by rw [← kv1.length, ← kv2.length, ← repK_length rk, ← repK_length rk']]
        exact ⟨.bl _, H, I, rfl, bl_new le q⟩
      · cases z
    · cases z
  · cases hp
theorem opr_neDD (c : Cal X w) : OpR X (compareOp .NotEq) (r2Of w PneDD) := by
  intro pins s σ H x y v u Q I rx ry ⟨G, vs, o, z, le, rr, hp, q⟩
  unfold PneDD at hp
  split at hp
  · rename_i ds es
    obtain ⟨_, _, e, r1, r2⟩ := rreps_two rr
    cases e
    rw [Option.map_eq_some_iff] at hp
    obtain ⟨b, hb, e⟩ := hp
    cases e
    obtain ⟨a1, rfl, ⟨_, kvs, hk, rk⟩ | ⟨z, _⟩⟩ := rrep_dct le r1
    · obtain ⟨a2, rfl, ⟨_, kvs', hk', rk'⟩ | ⟨z, _⟩⟩ := rrep_dct le r2
      · obtain ⟨_, s1, vs1, kv1, d1⟩ := dk_rd I.hok hk
        obtain ⟨_, s2, vs2, kv2, d2⟩ := dk_rd I.hok hk'
        obtain rfl : v = Value.ref a1 := rx
        obtain rfl : u = Value.ref a2 := ry
        refine PySem.W.keq_ne s1 s2 d1 d2 (by have := c.un; omega) (fun _ => hits_of c I le rk' kv2 rk kv1 hb) ?_
        rw [show (vs1.length == vs2.length) = (ds.length == es.length) by rw [← kv1.length, ← kv2.length, ← repK_length rk, ← repK_length rk']]
        exact ⟨.bl _, H, I, rfl, bl_new le q⟩
      · cases z
    · cases z
  · cases hp
end
def PeqY := orP PeqX PeqDD
def PneY := orP PneX PneDD
theorem opr_eqY {X : Cx} {w : Wd} (c : Cal X w) : OpR X (compareOp .Eq) (r2Of w PeqY) := opr_or (opr_eqX c) (opr_eqDD c)
theorem opr_neY {X : Cx} {w : Wd} (c : Cal X w) : OpR X (compareOp .NotEq) (r2Of w PneY) := opr_or (opr_neX c) (opr_neDD c)
/-! dicts with text keys whose values are lists of texts -/
/-- the dict ps as a function -/
theorem eqDL_sd (f : Str → List Str) (es : List (Str × Val)) (hf : ∀ k u, es.lookup k = some u → ∃ l : List Str, u = .lst (l.map .str) ∧ ∀ s ∈ l, CpOk s) :
    ∀ ks : List Str, (∀ k ∈ ks, ∀ s ∈ f k, CpOk s) → ∃ b, eqDL (sd es) (sd (ks.map fun k => (k, .lst ((f k).map .str)))) = some b ∧ (b = true ↔ ∀ k ∈ ks, es.lookup k = some (.lst ((f k).map .str)))
  | [], _ => ⟨true, rfl, by simp⟩
  | k :: ks, hk => by
    obtain ⟨b, e, hb⟩ := eqDL_sd f es hf ks fun k' h => hk k' (List.mem_cons_of_mem _ h)
    simp only [List.map_cons, sd]
    rw [eqDL]
    simp only [keyOf]
    have hg := dGet_sd k es
    simp only [sd] at hg e ⊢
    rw [hg]
    cases hl : es.lookup k with
    | none =>
      refine ⟨false, rfl, ?_⟩
      simp [hl]
    | some u =>
      obtain ⟨l, rfl, hc⟩ := hf k u hl
      have e1 : eqD1 (.lst ((f k).map .str)) (.lst (l.map .str)) = some (PyData.eqv (.list ((f k).map .str)) (.list (l.map .str))) := by
        simp only [eqD1, toD, toDs_strs, Option.map_some]
        rw [if_pos ⟨shp_strs _ (hk k (by simp)), shp_strs _ hc⟩]
      simp only [e1, e]
      refine ⟨_, rfl, ?_⟩
      have e2 : PyData.eqv (.list ((f k).map .str)) (.list (l.map .str)) = true ↔ l = f k := by
        have key : ∀ a b : List Str, PyData.eqvAll (a.map .str) (b.map .str) = true ↔ b = a := by
          intro a
          induction a with
          | nil => intro b; cases b <;> simp [PyData.eqvAll]
          | cons x a ih =>
            intro b
            cases b with
            | nil => simp [PyData.eqvAll]
            | cons z b => simp only [List.map_cons, PyData.eqvAll, Bool.and_eq_true, ih, eqv_str, beq_iff_eq, List.cons.injEq]; exact ⟨fun h => ⟨h.1.symm, h.2⟩, fun h => ⟨h.1.symm, h.2⟩⟩
        simp only [PyData.eqv]
        exact key _ _
      rw [Bool.and_eq_true, e2, hb]
      simp only [List.mem_cons, forall_eq_or_imp, hl, Option.some.injEq, Val.lst.injEq]
      have e3 : l = f k ↔ l.map Val.str = (f k).map Val.str := ⟨fun h => by rw [h], fun h => by
        have := congrArg (List.map unstr) h
        rwa [unstr_map, unstr_map] at this⟩
      rw [e3]
end M
/-! MPWN: reading with continuations: objects, dicts, f-strings. -/
namespace M
open PySem L2
section
variable {r : Env} {i n : Nat} {f fk fv : EF} {fo : OF} {fs : OsF} {g : AF} {tbl : Tbl} {m c : Str} {gf : GF} {cs : List Str}
def koCl1 (c m : Str) (h : Hd) (r : Env) (Q : OR → Prop) : Option Val → Prop
  | some (.obj c' fs) => (if c' = c ∧ fs.lookup m = none then Q (.ok h r) else Q .bad)
  | _ => Q .bad
def koCl (c m : Str) (Q : OR → Prop) : OR → Prop
  | .ok h r1 => koCl1 c m h r1 Q (h.get r1)
  | .ex e r1 => Q (.ex e r1)
  | .bad => Q .bad
theorem wO_Cl {Q : OR → Prop} : wO (oCl c m fo) r Q = wO fo r (koCl c m Q) := by
  unfold wO oCl
  cases fo r with
  | ok h r1 =>
    simp only [koCl]
    cases h.get r1 with
    | none => rfl
    | some v =>
      cases v with
      | obj c' xs => simp only [koCl1]; split <;> rfl
      | _ => rfl
  | _ => rfl
def kcm2 (c m : Str) (fo : OF) (fs : OsF) (r : Env) (Q : ER → Prop) : Option (Nat × GF) → Prop
  | some (n, g) => wE (callG n g (osCons (oCl c m fo) fs)) r Q
  | none => Q .bad
def kcm1 (tbl : Tbl) (m : Str) (fo : OF) (fs : OsF) (r : Env) (Q : ER → Prop) : Option Val → Prop
  | some (.obj c _) => kcm2 c m fo fs r Q (tbl.lookup c)
  | _ => Q .bad
def kcm (tbl : Tbl) (m : Str) (fo : OF) (fs : OsF) (r : Env) (Q : ER → Prop) : OR → Prop
  | .ok h r1 => kcm1 tbl m fo fs r Q (h.get r1)
  | .ex e r1 => Q (.ex e r1)
  | .bad => Q .bad
theorem wE_callM {Q : ER → Prop} : wE (callM tbl m fo fs) r Q = wO fo r (kcm tbl m fo fs r Q) := by
  unfold wE wO callM
  cases fo r with
  | ok h r1 =>
    simp only [kcm]
    cases h.get r1 with
    | none => rfl
    | some v =>
      cases v with
      | obj c xs =>
        simp only [kcm1]
        cases tbl.lookup c with
        | none => rfl
        | some p => rfl
      | _ => rfl
  | _ => rfl
def knoX (Q : ER → Prop) : ER → Prop
  | .ok o v r' => Q (.ok o v r')
  | .ex _ _ => Q .bad
  | .bad => Q .bad
theorem wE_noX {Q : ER → Prop} : wE (noX f) r Q = wE f r (knoX Q) := by unfold wE noX; cases f r <;> rfl
def kmk3 (r1 : Env) (Q : ER → Prop) : Bool → Val → Option (Bool × Val) → Prop
  | false, .non, some (true, v) => Q (.ok true v r1)
  | _, _, _ => Q .bad
def kmk2 (r1 : Env) (Q : ER → Prop) : GR → Prop
  | .ok o z out => kmk3 r1 Q o z out
  | .ex e _ => Q (.ex e r1)
  | .bad => Q .bad
def kmk1 (c : Str) (n : Nat) (g : GF) (r1 : Env) (Q : ER → Prop) : Option (List (Bool × Val)) → Prop
  | some as => (if lents as = 0 ∧ as.length + 1 = n then wG g ((true, .obj c []) :: as) (kmk2 r1 Q) else Q .bad)
  | none => Q .bad
def kmk (c : Str) (n : Nat) (g : GF) (Q : ER → Prop) : OsR → Prop
  | .ok hs r1 => kmk1 c n g r1 Q (lend r1 hs)
  | .ex e r1 => Q (.ex e r1)
  | .bad => Q .bad
theorem wE_mkC {Q : ER → Prop} : wE (mkC c n gf fs) r Q = wOs fs r (kmk c n gf Q) := by
  unfold wE wOs mkC
  cases fs r with
  | ok hs r1 =>
    simp only [kmk]
    cases lend r1 hs with
    | none => rfl
    | some as =>
      simp only [kmk1, wG]
      split
      · cases gf ((true, .obj c []) :: as) with
        | ok o z out =>
          simp only [kmk2]
          rcases o with _ | _
          · cases z with
            | non =>
              rcases out with _ | ⟨_ | _, v⟩ <;> rfl
            | _ => rfl
          · rfl
        | _ => rfl
      · rfl
  | _ => rfl
def kmd1 (c : Str) (fs : OsF) (r : Env) (Q : ER → Prop) : Option (Nat × GF) → Prop
  | some (n, g) => wE (mkC c n g fs) r Q
  | none => Q .bad
def kmd (tbl : Tbl) (fs : OsF) (r : Env) (Q : ER → Prop) : Option Slot → Prop
  | some (some (false, .cls c)) => kmd1 c fs r Q (tbl.lookup c)
  | _ => Q .bad
theorem wE_mkD {Q : ER → Prop} : wE (mkD tbl i fs) r Q = kmd tbl fs r Q r[i]? := by
  unfold wE mkD
  rcases r[i]? with _ | _ | ⟨_ | _, v⟩
  · rfl
  · rfl
  · cases v with
    | cls c =>
      simp only [kmd]
      cases tbl.lookup c <;> rfl
    | _ => rfl
  · rfl
def ksf1 (cs : List Str) (i : Nat) (x : Str) (v : Val) (r1 : Env) (Q : SR → Prop) : Option Slot → Prop
  | some (some (true, .obj c fs)) => (if c ∈ cs ∧ fs.length < 1000 then Q (.nx (r1.set i (some (true, .obj c (putV x v fs))))) else Q .bad)
  | _ => Q .bad
def ksf (cs : List Str) (i : Nat) (x : Str) (Q : SR → Prop) : ER → Prop
  | .ok _ v r1 => ksf1 cs i x v r1 Q r1[i]?
  | .ex e r1 => Q (.ex e r1)
  | .bad => Q .bad
theorem wS_setFld {x : Str} {Q : SR → Prop} : wS (setFld cs i x f) r Q = wE f r (ksf cs i x Q) := by
  unfold wS wE setFld frz
  cases f r with
  | ok o v r1 =>
    simp only [ksf]
    rcases r1[i]? with _ | _ | ⟨_ | _, u⟩
    · rfl
    · rfl
    · rfl
    · cases u with
      | obj c xs => simp only [ksf1]; split <;> rfl
      | _ => rfl
  | _ => rfl
theorem wS_never {Q : SR → Prop} : wS never r Q = Q .bad := rfl
def kitI (Q : IR → Prop) : ER → Prop
  | .ok _ (.dct false kvs) r' => Q (.ok (pairsOf kvs) r')
  | .ok _ _ _ => Q .bad
  | .ex e r' => Q (.ex e r')
  | .bad => Q .bad
theorem wI_I {Q : IR → Prop} : wI (itI f) r Q = wE f r (kitI Q) := by
  unfold wI wE itI frz
  cases f r with
  | ok o v r' =>
    cases v with
    | dct t kvs => cases t <;> rfl
    | _ => rfl
  | _ => rfl
def kitE (Q : IR → Prop) : ER → Prop
  | .ok _ (.lst vs) r' => Q (.ok (enumV vs) r')
  | .ok _ (.tup vs) r' => Q (.ok (enumV vs) r')
  | .ok _ _ _ => Q .bad
  | .ex e r' => Q (.ex e r')
  | .bad => Q .bad
theorem wI_E {Q : IR → Prop} : wI (itE f) r Q = wE f r (kitE Q) := by
  unfold wI wE itE frz
  cases f r with
  | ok o v r' => cases v <;> rfl
  | _ => rfl
def kasD2 (ds : List (Val × Val)) (Q : AR → Prop) : AR → Prop
  | .ok vs r2 => Q (.ok (keysOfD ds ++ vs) r2)
  | .ex e r2 => Q (.ex e r2)
  | .bad => Q .bad
def kasD (g : AF) (Q : AR → Prop) : ER → Prop
  | .ok _ (.dct false ds) r1 => wA g r1 (kasD2 ds Q)
  | .ok _ _ _ => Q .bad
  | .ex e r1 => Q (.ex e r1)
  | .bad => Q .bad
theorem wA_StD {Q : AR → Prop} : wA (asStD f g) r Q = wE f r (kasD g Q) := by
  unfold wA wE asStD frz
  cases f r with
  | ok o v r' =>
    cases v with
    | dct t kvs =>
      cases t with
      | false => simp only [kasD, wA]; cases g r' <;> rfl
      | true => rfl
    | _ => rfl
  | _ => rfl
def wF (fs : List EF) (acc : Str) (r : Env) (Q : ER → Prop) : Prop := Q (fsL fs acc r)
theorem wE_fstr {l : List EF} {Q : ER → Prop} : wE (fstr l) r Q = wF l Str.empty r Q := rfl
theorem wF_nil {acc : Str} {Q : ER → Prop} : wF [] acc r Q = Q (.ok false (.str acc) r) := rfl
def kF (l : List EF) (acc : Str) (Q : ER → Prop) : ER → Prop
  | .ok _ (.str y) r1 => (if (acc ++ y).length ≤ sizeLine then wF l (acc ++ y) r1 Q else Q .bad)
  | .ok _ _ _ => Q .bad
  | .ex e r1 => Q (.ex e r1)
  | .bad => Q .bad
theorem wF_cons {l : List EF} {acc : Str} {Q : ER → Prop} : wF (f :: l) acc r Q = wE f r (kF l acc Q) := by
  unfold wF wE
  rw [fsL]
  cases f r with
  | ok o v r1 =>
    cases v with
    | str y => simp only [kF, wF]; split <;> rfl
    | _ => rfl
  | _ => rfl
def kdst4 (ds : List (Val × Val)) (v : Val) (r3 : Env) (Q : ER → Prop) : Option Key → Prop
  | some q => Q (.ok true (.dct false (dPut ds q v)) r3)
  | none => Q .bad
def kdst3 (ds : List (Val × Val)) (k : Val) (Q : ER → Prop) : ER → Prop
  | .ok _ v r3 => kdst4 ds v r3 Q (keyOf k)
  | .ex e r3 => Q (.ex e r3)
  | .bad => Q .bad
def kdst2 (ds : List (Val × Val)) (fv : EF) (Q : ER → Prop) : ER → Prop
  | .ok _ k r2 => wE fv r2 (kdst3 ds k Q)
  | .ex e r2 => Q (.ex e r2)
  | .bad => Q .bad
def kdst1 (fk fv : EF) (Q : ER → Prop) : ER → Prop
  | .ok _ (.dct false ds) r1 => (if ds.length < 100000 then wE fk r1 (kdst2 ds fv Q) else Q .bad)
  | .ok _ _ _ => Q .bad
  | .ex e r1 => Q (.ex e r1)
  | .bad => Q .bad
theorem wE_dst {Q : ER → Prop} : wE (dst f fk fv) r Q = wE f r (kdst1 fk fv Q) := by
  unfold wE dst frz
  cases f r with
  | ok o v r1 =>
    cases v with
    | dct t ds =>
      cases t with
      | true => rfl
      | false =>
        simp only [kdst1]
        by_cases h : ds.length < 100000
        · simp only [if_pos h, wE]
          cases fk r1 with
          | ok o2 k r2 =>
            simp only [kdst2, wE]
            cases fv r2 with
            | ok o3 v r3 => simp only [kdst3]; cases keyOf k <;> rfl
            | _ => rfl
          | _ => rfl
        · simp only [if_neg h]
    | _ => rfl
  | _ => rfl
theorem wG_runS {b : SF} {kw : Bool} {ios : List Nat} {np N : Nat} {as : List (Bool × Val)} {Q : GR → Prop} (h : np ≤ as.length ∧ lents (as.drop np) = 0 ∧ as.length ≤ 100000 ∧ (∀ i ∈ ownIx (packS np kw as), i < np)) :
    wG (runDefS kw ios np N b) as Q = wG (runDef ios (np + 1 + (if kw then 1 else 0)) N b) (packS np kw as) Q := by
  unfold wG runDefS
  rw [if_pos h]
def wDC (t : TF) (c : BF) (fk f : EF) (sl : List Nat) (vs : List Val) (acc : List (Val × Val)) (r : Env) (Q : DR → Prop) : Prop := Q (dcL t c fk f sl vs acc r)
def kdc2 (r1 : Env) (sl : List Nat) (Q : ER → Prop) : DR → Prop
  | .ok ys r2 => Q (.ok true (.dct false ys) (restR r1 r2 sl))
  | _ => Q .bad
def kdc (t : TF) (c : BF) (fk f : EF) (sl : List Nat) (Q : ER → Prop) : IR → Prop
  | .ok vs r1 => wDC t c fk f sl vs [] (wipeR r1 sl) (kdc2 r1 sl Q)
  | .ex e r1 => Q (.ex e r1)
  | .bad => Q .bad
theorem wE_dc {fi : IF} {t : TF} {c : BF} {sl : List Nat} {Q : ER → Prop} : wE (dc fi t c fk f sl) r Q = wI fi r (kdc t c fk f sl Q) := by
  unfold wE wI dc
  cases fi r with
  | ok vs r1 => simp only [kdc, wDC]; cases dcL t c fk f sl vs [] (wipeR r1 sl) <;> rfl
  | _ => rfl
theorem wDC_inv {t : TF} {c : BF} {sl : List Nat} {Q : DR → Prop} (I : List Val → List (Val × Val) → Env → Prop)
    (hs : ∀ v vs acc r, I (v :: vs) acc r → ∃ r1, t v r = some r1 ∧ wB c r1 fun s => (∃ r2, s = .ok false r2 ∧ I vs acc (wipeR r2 sl)) ∨ ∃ r2, s = .ok true r2 ∧
      wE fk r2 fun s => ∃ o k r3, s = .ok o k r3 ∧ wE f r3 fun s => ∃ o y r4 q, s = .ok o y r4 ∧ keyOf k = some q ∧ acc.length < 100000 ∧ I vs (dPut acc q y) (wipeR r4 sl))
    (he : ∀ acc r, I [] acc r → Q (.ok acc r)) : ∀ vs acc r, I vs acc r → wDC t c fk f sl vs acc r Q
  | [], acc, r, h => he acc r h
  | v :: vs, acc, r, h => by
    obtain ⟨r1, ht, hc⟩ := hs v vs acc r h
    unfold wDC
    rw [dcL, ht]
    rcases hc with ⟨r2, e, h2⟩ | ⟨r2, e, hk⟩
    · simp only [e]
      exact wDC_inv I hs he vs acc _ h2
    · obtain ⟨o, k, r3, e3, hv⟩ := hk
      obtain ⟨o', y, r4, q, e4, hq, hl, h4⟩ := hv
      simp only [e, frz, e3, e4, hq, if_pos hl]
      exact wDC_inv I hs he vs _ _ h4
end
theorem lk1 {α : Type} (c : Str) (x : α) : List.lookup c [(c, x)] = some x := by simp [List.lookup]
def kitVs (Q : IR → Prop) : ER → Prop
  | .ok _ (.dct false kvs) r' => Q (.ok (kvs.map (·.2)) r')
  | .ok _ _ _ => Q .bad
  | .ex e r' => Q (.ex e r')
  | .bad => Q .bad
section
variable {r : Env} {f : EF}
theorem wI_Vs {Q : IR → Prop} : wI (itVs f) r Q = wE f r (kitVs Q) := by
  unfold wI wE itVs frz
  cases f r with
  | ok o v r' =>
    cases v with
    | dct t kvs => cases t <;> rfl
    | _ => rfl
  | _ => rfl
end
/-! dict comprehensions by maps -/
theorem wDC_map {α : Type} {t : TF} {c : BF} {fk f : EF} {sl : List Nat} {env : Env} {Q : DR → Prop} (y : α → Val) (kf : α → Str) (z : α → Val) (p : α → Bool) (xs : List α)
    (h : ∀ x ∈ xs, ∃ r1, t (y x) env = some r1 ∧ wB c r1 (fun s => s = .ok (p x) r1) ∧ wipeR r1 sl = env ∧ (p x = true → wE fk r1 fun s => ∃ o, s = .ok o (.str (kf x)) r1 ∧ wE f r1 fun s => ∃ o r3, s = .ok o (z x) r3 ∧ wipeR r3 sl = env)) (hl : xs.length ≤ 100000)
    (nd : ((xs.filter p).map kf).Nodup) (q : Q (.ok (sd ((xs.filter p).map fun x => (kf x, z x))) env)) : wDC t c fk f sl (xs.map y) [] env Q := by
  have key : ∀ (xs : List α) (acc : List (Str × Val)), (∀ x ∈ xs, ∃ r1, t (y x) env = some r1 ∧ wB c r1 (fun s => s = .ok (p x) r1) ∧ wipeR r1 sl = env ∧ (p x = true → wE fk r1 fun s => ∃ o, s = .ok o (.str (kf x)) r1 ∧ wE f r1 fun s => ∃ o r3, s = .ok o (z x) r3 ∧ wipeR r3 sl = env)) → acc.length + xs.length ≤ 100000 →
      ((acc.map (·.1)) ++ (xs.filter p).map kf).Nodup → dcL t c fk f sl (xs.map y) (sd acc) env = .ok (sd (acc ++ (xs.filter p).map fun x => (kf x, z x))) env := by
    intro xs
    induction xs with
    | nil => intro acc _ _ _; simp [dcL]
    | cons x xs ih =>
      intro acc h hl nd
      obtain ⟨r1, e1, e2, e3, e4⟩ := h x (by simp)
      unfold wB at e2
      rw [List.length_cons] at hl
      rw [List.map_cons, dcL]
      cases hp : p x with
      | false =>
        rw [hp] at e2
        rw [List.filter_cons_of_neg (by simp [hp])] at nd
        simp only [e1, e2, e3]
        rw [ih acc (fun x' hx' => h x' (List.mem_cons_of_mem _ hx')) (by omega) nd, List.filter_cons_of_neg (by simp [hp])]
      | true =>
        rw [hp] at e2
        obtain ⟨o, e5, o2, r3, e6, e7⟩ := e4 hp
        rw [List.filter_cons_of_pos (by simp [hp]), List.map_cons] at nd
        have hn : kf x ∉ acc.map (·.1) := fun hm => by
          have := (List.nodup_append.mp nd).2.2 _ hm (kf x) (by simp)
          exact this rfl
        have ha : (sd acc).length < 100000 := by rw [sd_len]; omega
        simp only [e1, e2, frz, e5, e6, keyOf, if_pos ha, e7]
        rw [dPut_new hn, ih (acc ++ [(kf x, z x)]) (fun x' hx' => h x' (List.mem_cons_of_mem _ hx')) (by simp; omega) (by simpa using nd), List.filter_cons_of_pos (by simp [hp])]
        simp
  unfold wDC
  have := key xs [] h (by simpa using hl) (by simpa using nd)
  rw [show (sd [] : List (Val × Val)) = [] from rfl] at this
  rw [this]
  simpa using q
/-! dict comprehensions of two clauses: a set of texts -/
def insS (acc : List Str) (x : Str) : List Str := if x ∈ acc then acc else acc ++ [x]
def insAll (acc xs : List Str) : List Str := xs.foldl insS acc
theorem insS_mem {acc : List Str} {x y : Str} : y ∈ insS acc x ↔ y ∈ acc ∨ y = x := by
  unfold insS
  split
  · constructor
    · exact .inl
    · rintro (h | h)
      · exact h
      · rw [h]; assumption
  · simp
theorem insAll_mem {xs : List Str} : ∀ {acc : List Str} {y : Str}, y ∈ insAll acc xs ↔ y ∈ acc ∨ y ∈ xs := by
  induction xs with
  | nil => intro acc y; simp [insAll]
  | cons x xs ih =>
    intro acc y
    have := ih (acc := insS acc x) (y := y)
    rw [insAll, List.foldl_cons]
    rw [insAll] at this
    rw [this, insS_mem, List.mem_cons, or_assoc]
theorem insS_nodup {acc : List Str} {x : Str} (h : acc.Nodup) : (insS acc x).Nodup := by
  unfold insS
  split
  · exact h
  · rename_i hx
    rw [List.nodup_append]
    exact ⟨h, by simp, fun a ha b hb e => hx (by rw [List.mem_singleton.mp hb] at e; rw [← e]; exact ha)⟩
theorem insAll_nodup {xs : List Str} : ∀ {acc : List Str}, acc.Nodup → (insAll acc xs).Nodup := by
  induction xs with
  | nil => exact fun h => h
  | cons x xs ih => exact fun h => ih (insS_nodup h)
theorem insS_len {acc : List Str} {x : Str} : (insS acc x).length ≤ acc.length + 1 := by
  unfold insS
  split <;> simp
theorem insAll_len {xs : List Str} : ∀ {acc : List Str}, (insAll acc xs).length ≤ acc.length + xs.length := by
  induction xs with
  | nil => intro acc; simp [insAll]
  | cons x xs ih =>
    intro acc
    have := ih (acc := insS acc x)
    have h2 := insS_len (acc := acc) (x := x)
    rw [insAll, List.foldl_cons, List.length_cons]
    rw [insAll] at this
    omega
theorem insAll_app {acc xs ys : List Str} : insAll acc (xs ++ ys) = insAll (insAll acc xs) ys := by unfold insAll; rw [List.foldl_append]
/-- a dict that is a set -/
abbrev tdict (u : Val) (ks : List Str) : List (Val × Val) := sd (ks.map fun k => (k, u))
theorem dPut_set {u : Val} {acc : List Str} {x : Str} : dPut (tdict u acc) (.inr x) u = tdict u (insS acc x) := by
  unfold insS
  by_cases h : x ∈ acc
  · rw [if_pos h]
    have hk : ((tdict u acc).any fun p => M.keyIs (.inr x) p.1) = true := by
      rw [sd_any]; exact decide_eq_true (by simpa using h)
    unfold dPut
    rw [if_pos hk]
    refine (List.map_congr_left fun p hp => ?_).trans (List.map_id _)
    obtain ⟨q, hq, rfl⟩ := List.mem_map.mp hp
    obtain ⟨k, _, rfl⟩ := List.mem_map.mp hq
    simp
  · rw [if_neg h, dPut_new (by simpa using h)]
    simp [tdict]
def wCL (t : TF) (c : BF) (m : List (Val × Val) → Env → DR) (sl : List Nat) (vs : List Val) (acc : List (Val × Val)) (r : Env) (Q : DR → Prop) : Prop := Q (clL t c m sl vs acc r)
def kdcc (t : TF) (c : BF) (m : List (Val × Val) → Env → DR) (sl : List Nat) (Q : ER → Prop) : IR → Prop
  | .ok vs r1 => wCL t c m sl vs [] (wipeR r1 sl) (kdc2 r1 sl Q)
  | .ex e r1 => Q (.ex e r1)
  | .bad => Q .bad
section
variable {r : Env} {f fk : EF}
theorem wE_dc2 {fi fi1 : IF} {t t1 : TF} {c c1 : BF} {sl sl1 : List Nat} {Q : ER → Prop} : wE (dc2 fi t c fi1 t1 c1 fk f sl sl1) r Q = wI fi r (kdcc t c (secM fi1 t1 c1 (layM fk f) sl1) sl Q) := by
  unfold wE wI dc2
  cases fi r with
  | ok vs r1 => simp only [kdcc, wCL]; cases clL t c (secM fi1 t1 c1 (layM fk f) sl1) sl vs [] (wipeR r1 sl) <;> rfl
  | _ => rfl
/-- the inner clause -/
theorem clL_in {t1 : TF} {c1 : BF} {sl1 : List Nat} {env : Env} {u : Val} : ∀ (ys : List Str) (acc : List Str), (∀ y ∈ ys, ∃ r1 o, t1 (.str y) env = some r1 ∧ c1 r1 = .ok true r1 ∧ fk r1 = .ok o (.str y) r1 ∧ (∃ o2, f r1 = .ok o2 u r1) ∧ wipeR r1 sl1 = env) → acc.length + ys.length ≤ 100000 →
    clL t1 c1 (layM fk f) sl1 (ys.map .str) (tdict u acc) env = .ok (tdict u (insAll acc ys)) env
  | [], acc, _, _ => by simp [clL, insAll]
  | y :: ys, acc, h, hl => by
    obtain ⟨r1, o, e1, e2, e3, ⟨o2, e4⟩, e5⟩ := h y (by simp)
    rw [List.length_cons] at hl
    have ha : (tdict u acc).length < 100000 := by simp [sd_len]; omega
    rw [List.map_cons, clL]
    have hb := insS_len (acc := acc) (x := y)
    simp only [e1, e2, layM, frz, e3, e4, keyOf, if_pos ha, e5, dPut_set]
    rw [clL_in ys (insS acc y) (fun y' hy => h y' (List.mem_cons_of_mem _ hy)) (by omega)]
    rfl
theorem wCL_set {α : Type} {t : TF} {c : BF} {fi1 : IF} {t1 : TF} {c1 : BF} {sl sl1 : List Nat} {env : Env} {u : Val} {Q : DR → Prop} (y : α → Val) (ys : α → List Str) (xs : List α)
    (h : ∀ x ∈ xs, ∃ r1, t (y x) env = some r1 ∧ c r1 = .ok true r1 ∧ wI fi1 r1 (fun s => ∃ r2, s = .ok ((ys x).map .str) r2 ∧ wipeR (wipeR r2 sl1) sl = env ∧
      ∀ z ∈ ys x, ∃ r3 o, t1 (.str z) (wipeR r2 sl1) = some r3 ∧ c1 r3 = .ok true r3 ∧ fk r3 = .ok o (.str z) r3 ∧ (∃ o2, f r3 = .ok o2 u r3) ∧ wipeR r3 sl1 = wipeR r2 sl1))
    (hl : (xs.flatMap ys).length ≤ 100000) (q : Q (.ok (tdict u (insAll [] (xs.flatMap ys))) env)) : wCL t c (secM fi1 t1 c1 (layM fk f) sl1) sl (xs.map y) [] env Q := by
  have key : ∀ (xs : List α) (acc : List Str), (∀ x ∈ xs, ∃ r1, t (y x) env = some r1 ∧ c r1 = .ok true r1 ∧ wI fi1 r1 (fun s => ∃ r2, s = .ok ((ys x).map .str) r2 ∧ wipeR (wipeR r2 sl1) sl = env ∧
      ∀ z ∈ ys x, ∃ r3 o, t1 (.str z) (wipeR r2 sl1) = some r3 ∧ c1 r3 = .ok true r3 ∧ fk r3 = .ok o (.str z) r3 ∧ (∃ o2, f r3 = .ok o2 u r3) ∧ wipeR r3 sl1 = wipeR r2 sl1)) → acc.length + (xs.flatMap ys).length ≤ 100000 →
      clL t c (secM fi1 t1 c1 (layM fk f) sl1) sl (xs.map y) (tdict u acc) env = .ok (tdict u (insAll acc (xs.flatMap ys))) env := by
    intro xs
    induction xs with
    | nil => intro acc _ _; simp [clL, insAll]
    | cons x xs ih =>
      intro acc h hl
      obtain ⟨r1, e1, e2, r2, e3, e4, e5⟩ := h x (by simp)
      rw [List.flatMap_cons, List.length_append] at hl
      have hb := insAll_len (acc := acc) (xs := ys x)
      rw [List.map_cons, clL]
      simp only [e1, e2, secM, e3]
      rw [clL_in (ys x) acc e5 (by omega)]
      simp only [e4]
      have := ih (insAll acc (ys x)) (fun x' hx => h x' (List.mem_cons_of_mem _ hx)) (by omega)
      skip
      rw [this, List.flatMap_cons, insAll_app]
  unfold wCL
  have := key xs [] h (by simpa using hl)
  rw [show (tdict u [] : List (Val × Val)) = [] from rfl] at this
  rw [this]
  exact q
end
/-! values by equations -/
def tyOf_e1 := @tyOf.eq_1
def tyOf_e2 := @tyOf.eq_2
def tyOf_e3 := @tyOf.eq_3
def tyOf_e4 := @tyOf.eq_4
def tyOf_e5 := @tyOf.eq_5
def tyOf_e6 := @tyOf.eq_6
def tyOf_e7 := @tyOf.eq_7
def tyOf_e8 := @tyOf.eq_8
def itemsOf_e1 := @itemsOf.eq_1
def itemsOf_e2 := @itemsOf.eq_2
def itemsOf_e3 := @itemsOf.eq_3
def itemsOf_e4 := @itemsOf.eq_4
def itemsOf_e5 := @itemsOf.eq_5
def Plen_e1 := @Plen.eq_1
def Plen_e2 := @Plen.eq_2
def Plen_e3 := @Plen.eq_3
def Plen_e4 := @Plen.eq_4
def Plist_e1 := @Plist.eq_1
def Plist_e2 := @Plist.eq_2
def Plist_e3 := @Plist.eq_3
def Ptuple_e1 := @Ptuple.eq_1
def Ptuple_e2 := @Ptuple.eq_2
def cmpI_e1 := @cmpI.eq_1
def Pint_e1 := @Pint.eq_1
def Pint_e2 := @Pint.eq_2
def Pneg_e1 := @Pneg.eq_1
def Prev_e1 := @Prev.eq_1
/-! the equations by names -/
def koCl1_e1 := @koCl1.eq_1
def koCl1_e2 := @koCl1.eq_2
def koCl_e1 := @koCl.eq_1
def koCl_e2 := @koCl.eq_2
def koCl_e3 := @koCl.eq_3
def kcm2_e1 := @kcm2.eq_1
def kcm2_e2 := @kcm2.eq_2
def kcm1_e1 := @kcm1.eq_1
def kcm1_e2 := @kcm1.eq_2
def kcm_e1 := @kcm.eq_1
def kcm_e2 := @kcm.eq_2
def kcm_e3 := @kcm.eq_3
def knoX_e1 := @knoX.eq_1
def knoX_e2 := @knoX.eq_2
def knoX_e3 := @knoX.eq_3
def kmk3_e1 := @kmk3.eq_1
def kmk3_e2 := @kmk3.eq_2
def kmk2_e1 := @kmk2.eq_1
def kmk2_e2 := @kmk2.eq_2
def kmk2_e3 := @kmk2.eq_3
def kmk1_e1 := @kmk1.eq_1
def kmk1_e2 := @kmk1.eq_2
def kmk_e1 := @kmk.eq_1
def kmk_e2 := @kmk.eq_2
def kmk_e3 := @kmk.eq_3
def kmd1_e1 := @kmd1.eq_1
def kmd1_e2 := @kmd1.eq_2
def kmd_e1 := @kmd.eq_1
def kmd_e2 := @kmd.eq_2
def ksf1_e1 := @ksf1.eq_1
def ksf1_e2 := @ksf1.eq_2
def ksf_e1 := @ksf.eq_1
def ksf_e2 := @ksf.eq_2
def ksf_e3 := @ksf.eq_3
def kitI_e1 := @kitI.eq_1
def kitI_e2 := @kitI.eq_2
def kitI_e3 := @kitI.eq_3
def kitI_e4 := @kitI.eq_4
def kitE_e1 := @kitE.eq_1
def kitE_e2 := @kitE.eq_2
def kitE_e3 := @kitE.eq_3
def kitE_e4 := @kitE.eq_4
def kitE_e5 := @kitE.eq_5
def kasD2_e1 := @kasD2.eq_1
def kasD2_e2 := @kasD2.eq_2
def kasD2_e3 := @kasD2.eq_3
def kasD_e1 := @kasD.eq_1
def kasD_e2 := @kasD.eq_2
def kasD_e3 := @kasD.eq_3
def kasD_e4 := @kasD.eq_4
def kF_e1 := @kF.eq_1
def kF_e2 := @kF.eq_2
def kF_e3 := @kF.eq_3
def kF_e4 := @kF.eq_4
def kdst4_e1 := @kdst4.eq_1
def kdst4_e2 := @kdst4.eq_2
def kdst3_e1 := @kdst3.eq_1
def kdst3_e2 := @kdst3.eq_2
def kdst3_e3 := @kdst3.eq_3
def kdst2_e1 := @kdst2.eq_1
def kdst2_e2 := @kdst2.eq_2
def kdst2_e3 := @kdst2.eq_3
def kdst1_e1 := @kdst1.eq_1
def kdst1_e2 := @kdst1.eq_2
def kdst1_e3 := @kdst1.eq_3
def kdst1_e4 := @kdst1.eq_4
def kdc2_e1 := @kdc2.eq_1
def kdc2_e2 := @kdc2.eq_2
def kdc_e1 := @kdc.eq_1
def kdc_e2 := @kdc.eq_2
def kdc_e3 := @kdc.eq_3
def kitVs_e1 := @kitVs.eq_1
def kitVs_e2 := @kitVs.eq_2
def kitVs_e3 := @kitVs.eq_3
def kitVs_e4 := @kitVs.eq_4
def kdcc_e1 := @kdcc.eq_1
def kdcc_e2 := @kdcc.eq_2
def kdcc_e3 := @kdcc.eq_3
end M
/-! MPE1: exceptions as values: a caught one is told of in the abstract heap, within its suite and behind it. -/
namespace M
open PySem L2 PySem.Spec PyProof.Rows
theorem exV_ok {P : Program} {w : World} {H : Hp} {h : Heap} {a C : Addr} {d : Option Addr} {oe : Obj} {vs : Array Value} (e : h.get? a = some oe) (h1 : oe.cls = .ref C) (h2 : oe.dict = d) (h3 : oe.data = .fields vs) : ObjOk P w H h a (exV C d a) :=
  ⟨⟨oe, vs, e, h1, h2, h3⟩, ⟨oe, e⟩, fun _ _ ⟨o, v, q, r⟩ k => ⟨o, v, k o q, r⟩⟩
section
variable {X : Cx} {pins : List (Addr × Obj)} {σ : L2.St} {H : Hp} {s : Shared}
/-- an object of which the entry knew nothing is told of -/
theorem inv_told {a : Addr} {o : HO} (I : L2.Inv X pins σ H s) (na : H a = none) (new : ObjOk X.prog X.w (upd H a o) s.heap a o) (n0 : ∀ u, X.s_0.heap.get? a = some u → a ∈ X.ex)
    (nL : a ≠ X.env.locals) (nC : ∀ x c, X.env.cells.lookup x = some c → c ≠ a) (nP : ∀ p ∈ X.pn ++ pins, p.1 ≠ a) : L2.Inv X pins σ (upd H a o) s where
  ok := I.ok
  os := I.os
  bare := I.bare
  base := {
    keep := I.base.keep
    slot := I.base.slot
    free := fun b u q n hx => by
      have hb : b ≠ a := fun z => hx (by subst z; exact n0 u q)
      rw [upd_ne hb]
      exact I.base.free b u q n hx
    there := I.base.there
    tups := fun b xs q => by
      have t := I.base.tups b xs q
      rw [upd_ne (ne_of_none t na)]; exact t
    frzs := fun b ob u q => by
      have t := I.base.frzs b ob u q
      rw [upd_ne (ne_of_none t na)]; exact t
    tbls := fun b ps q => by
      obtain ⟨more, t⟩ := I.base.tbls b ps q
      exact ⟨more, by rw [upd_ne (ne_of_none t na)]; exact t⟩ }
  loc := I.loc
  cell := I.cell
  free := by rw [upd_ne nL.symm]; exact I.free
  freeC := fun x c e => by rw [upd_ne (nC x c e)]; exact I.freeC x c e
  pin := fun p hp => by
    obtain ⟨e1, e2, e3⟩ := I.pin p hp
    exact ⟨e1, by rw [upd_ne (nP p hp)]; exact e2, e3⟩
  hok := fun b u e => by
    by_cases hb : b = a
    · subst hb
      rw [upd_same] at e
      cases e
      exact new
    · rw [upd_ne hb] at e
      exact (I.hok b u e).stay (fun _ _ _ z => z) (fun c hc => by rw [upd_ne (ne_of_none hc na)]; exact hc) (fun c xs hc => by rw [upd_ne (ne_of_none hc na)]; exact hc)
  len := I.len
theorem inv_unsuite {a : Addr} {pn' : List (Addr × Obj)} (I : L2.Inv (X.suite a (X.pn ++ pins)) pn' σ H s) (ok : X.Ok) : L2.Inv X pins σ H s :=
  ⟨ok, I.os, I.bare, I.base, I.loc, I.cell, I.free, I.freeC, fun p hp => I.pin p (List.mem_append_left _ hp), I.hok, I.len⟩
theorem inv_suite {a : Addr} (I : L2.Inv X pins σ H s) : L2.Inv (X.suite a (X.pn ++ pins)) [] σ H s :=
  ⟨I.ok.suite _ _, I.os, I.bare, I.base, I.loc, I.cell, I.free, I.freeC, fun p hp => I.pin p (by simpa using hp), I.hok, I.len⟩
end
/-- behind a suite that bound its exception at slot i -/
def gone (i : Nat) (D : Ends) : Ends := { nx := fun σ' H' => D.nx (σ'.set i none) H', rt := D.rt, bk := fun σ' H' => D.bk (σ'.set i none) H', ct := fun σ' H' => D.ct (σ'.set i none) H' }
/-- an except clause: its class, the slot of its name, its suite -/
structure Hsp where
  c : Value
  nm : Option Nat
  ts : Addr → Value → Option Addr → TS
def hspAt (h : Hsp) (D : Ends) (a C : Addr) (d : Option Addr) (σ : L2.St) (H : Hp) : Prop := match h.nm with
  | none => h.ts a (.ref C) d D σ (upd H a (exV C d a))
  | some i => h.ts a (.ref C) d (gone i D) (σ.set i (some (.ref a))) (upd H a (exV C d a))
/-- what is wished of an exception that the clauses look at -/
def wTry (K : PySem.W.Frag) (Wout : WX) (D : Ends) : List Hsp → WX
  | [] => Wout
  | h :: r => fun cls d σ H => ∃ b, PySem.W.exmOne K cls h.c = some b ∧ (b = true → ∃ C, cls = .ref C ∧ ∀ a, H a = none → hspAt h D a C d σ H) ∧ (b = false → wTry K Wout D r cls d σ H)
inductive HdsT (X : Cx) : List ExceptHandler → List Hsp → Prop
  | nil : HdsT X [] []
  | one {x : Str} {c : Value} {ts : Addr → Value → Option Addr → TS} {b₀ : Stmt} {suite : List Stmt} {np pos' : Pos} {hds : List ExceptHandler} {l : List Hsp} (hc : Names X x c)
      (hsu : ∀ (a : Addr) (cls : Value) (d : Option Addr) (pn : List (Addr × Obj)), PSs (X.suite a pn) (b₀ :: suite) (ts a cls d)) (r : HdsT X hds l) :
      HdsT X (.ExceptHandler (some (.Name x np)) none (b₀ :: suite) pos' :: hds) (⟨c, none, ts⟩ :: l)
  | as_ {x n : Str} {i : Nat} {c : Value} {ts : Addr → Value → Option Addr → TS} {b₀ : Stmt} {suite : List Stmt} {np pos' : Pos} {hds : List ExceptHandler} {l : List Hsp} (hc : Names X x c) (hi : X.N[i]? = some n) (hln : X.env.kindOf n = some .local)
      (hsu : ∀ (a : Addr) (cls : Value) (d : Option Addr) (pn : List (Addr × Obj)), PSs (X.suite a pn) (b₀ :: suite) (ts a cls d)) (r : HdsT X hds l) :
      HdsT X (.ExceptHandler (some (.Name x np)) (some n) (b₀ :: suite) pos' :: hds) (⟨c, some i, ts⟩ :: l)
section
variable {X : Cx}
/-- the ends of a try -/
theorem sp_ofTry {pn' : List (Addr × Obj)} {pins : List (Addr × Obj)} {D : Ends} {xe : Value → Shared → Prop} (ok : X.Ok) : ∀ {f : Flow} {s : Shared}, SP (X.tr (X.pn ++ pins) xe) pn' D f s → SP X pins D f s
  | .next, _, ⟨σ, H, J, q⟩ => ⟨σ, H, J.ofTry ok, q⟩
  | .brk, _, ⟨σ, H, J, q⟩ => ⟨σ, H, J.ofTry ok, q⟩
  | .cont, _, ⟨σ, H, J, q⟩ => ⟨σ, H, J.ofTry ok, q⟩
  | .ret _, _, ⟨v, σ, H, J, r, q⟩ => ⟨v, σ, H, J.ofTry ok, r, q⟩
theorem sp_unsuite {a : Addr} {pn' : List (Addr × Obj)} {pins : List (Addr × Obj)} {D : Ends} (ok : X.Ok) : ∀ {f : Flow} {s : Shared}, SP (X.suite a (X.pn ++ pins)) pn' D f s → SP X pins D f s
  | .next, _, ⟨σ, H, J, q⟩ => ⟨σ, H, inv_unsuite J ok, q⟩
  | .brk, _, ⟨σ, H, J, q⟩ => ⟨σ, H, inv_unsuite J ok, q⟩
  | .cont, _, ⟨σ, H, J, q⟩ => ⟨σ, H, inv_unsuite J ok, q⟩
  | .ret _, _, ⟨v, σ, H, J, r, q⟩ => ⟨v, σ, H, inv_unsuite J ok, r, q⟩
/-- the name's slot is cleared behind the suite -/
theorem gone_end {a i : Nat} {n : Str} {pn' pins : List (Addr × Obj)} {D : Ends} {pos' : Pos} (ok : X.Ok) (hN : X.N.Nodup) (hi : X.N[i]? = some n) (hln : X.env.kindOf n = some .local) : ∀ {f : Flow} {s : Shared}, SP (X.suite a (X.pn ++ pins)) pn' (gone i D) f s →
    wpAny (model X.prog X.w) X.A (do bindName X.env n .none; unbindBehindTheSuite X.env n pos') (fun _ s7 => SP X pins D f s7) X.xe s
  | .next, _, ⟨σ, H, J, q⟩ => gone_ok (inv_unsuite J ok) hN hi hln fun _ J7 => ⟨_, H, J7, q⟩
  | .brk, _, ⟨σ, H, J, q⟩ => gone_ok (inv_unsuite J ok) hN hi hln fun _ J7 => ⟨_, H, J7, q⟩
  | .cont, _, ⟨σ, H, J, q⟩ => gone_ok (inv_unsuite J ok) hN hi hln fun _ J7 => ⟨_, H, J7, q⟩
  | .ret _, _, ⟨v, σ, H, J, r, q⟩ => gone_ok (inv_unsuite J ok) hN hi hln fun _ J7 => ⟨v, _, H, J7, r, q⟩
/-- try: body, clauses; the caught exception is told of -/
theorem ps_tryT {body : List Stmt} {h₀ : ExceptHandler} {hds : List ExceptHandler} {l : List Hsp} {pos : Pos} {tb : WX → TS} {Wout : WX} (hs : X.stack = X.env :: X.outer) (hf : X.env.frame = some X.env.locals) (hN : X.N.Nodup) (tk : Takes X Wout)
    (hb : ∀ (W : WX) (pn : List (Addr × Obj)) (xe : Value → Shared → Prop), Takes (X.tr pn xe) W → PassesOwn (model X.prog X.w) X.A X.env xe → PSs (X.tr pn xe) body (tb W))
    (hh : HdsT X (h₀ :: hds) l) : PS X (.Try body (h₀ :: hds) [] [] pos) (fun D σ H => tb (wTry X.K Wout D l) D σ H) := by
  refine ⟨fun pins s σ H D I h => ?_⟩
  have ok := I.ok
  have frm : X.A.frames = some (X.env :: X.outer) := by rw [ok.frames, hs]
  refine wpAny_Try_except ?_
  have run := (hb (wTry X.K Wout D l) (X.pn ++ pins) (fun e z => wpAny (model X.prog X.w) X.A (noteFrame e X.env)
    (fun _ z => wpAny (model X.prog X.w) X.A (setFlight e none) (fun _ z => wpAny (model X.prog X.w) X.A (handleBy e X.env (h₀ :: hds)) (SP X pins D) X.xe z) X.xe z) X.xe z) (fun u s' xx => ?_) PassesOwn.looking).run [] s σ H D (I.toTry _) h
  · refine wpAny_mono run (fun f z q => ?_) fun _ _ q => q
    have q' := sp_ofTry ok q
    cases f with
    | next =>
      obtain ⟨σ1, H1, J1, q1⟩ := q'
      exact wpAny_execs_nil ⟨σ1, H1, J1, q1⟩
    | brk => exact q'
    | cont => exact q'
    | ret v => exact q'
  · obtain ⟨a, B, sI, pins1, σ1, H1, cls, d, rfl, J0, nb, up, sky, na, os, ag, w⟩ := xx
    have J : L2.Inv X pins σ1 H1 sI := J0.ofTry ok
    have sky1 : Sky B (X.env :: X.outer) a (Zc cls d) X.env.locals s'.heap := hs ▸ sky
    show wpAny (model X.prog X.w) X.A (noteFrame (.ref a) X.env) _ _ _
    refine Sky.land Zc.steady frm hf sky1 fun h3 fl3 up3 => ?_
    have J3 : L2.Inv X pins σ1 H1 { s' with heap := h3 } := J.landed nb fl3.1 (up.trans up3) os ag
    obtain ⟨oe, vs, he, hz, hd⟩ := fl3.there
    have nfr : a ∉ frs (X.env :: X.outer) := fun hm => by
      obtain ⟨_, o, e, hnf⟩ := fl3.2.2.1.mem hm
      rw [he] at e
      cases e
      exact hnf _ hd
    have nL : a ≠ X.env.locals := fun z => nfr (List.mem_filterMap.mpr ⟨X.env, by simp, by rw [hf, z]⟩)
    have nF : a ∉ X.fs := fun hm => by
      obtain ⟨e, h1, h2⟩ := List.mem_filterMap.mp hm
      exact nfr (List.mem_filterMap.mpr ⟨e, by simp [h1], h2⟩)
    have nI : ∀ u, sI.heap.get? a ≠ some u := fun u z => by
      have := nb a u z (by rw [hs]; exact nfr)
      rw [fl3.2.1] at this
      cases this
    have told : ∀ (C : Addr) (h : Heap) (oe : Obj) (vs : Array Value), cls = .ref C → h.get? a = some oe → Zc cls d oe → oe.data = .fields vs → L2.Inv X pins σ1 H1 { s' with heap := h } → L2.Inv X pins σ1 (upd H1 a (exV C d a)) { s' with heap := h } := fun C h oe vs ec e1 e2 e3 J4 =>
      inv_told J4 na (exV_ok e1 (by rw [e2.1, ec]) e2.2 e3)
        (fun u q => by
          by_cases hx : a ∈ X.ex
          · exact hx
          · obtain ⟨o2, t⟩ := J.base.there a u q hx
            exact absurd t (nI o2)) nL
        (fun x c e z => by
          subst z
          obtain ⟨v, o, t, _⟩ := J.cell x c e
          exact nI o t)
        (fun p hp z => by
          have t := (J.pin p hp).1
          rw [z] at t
          exact nI _ t)
    have go : ∀ {hs' : List ExceptHandler} {l' : List Hsp}, HdsT X hs' l' → wTry X.K Wout D l' cls d σ1 H1 → wpAny (model X.prog X.w) X.A (handleBy (.ref a) X.env hs') (SP X pins D) X.xe { s' with heap := h3 } := by
      intro hs' l' hk
      have LT : PySem.W.Looks (model X.prog X.w) h3 (typeOf (.ref a)) cls := fun _ _ _ _ k q => wpAny_typeOf_ref (k _ _ he) (by rw [hz.1]; exact q)
      have test : ∀ {x : Str} {c : Value} {np : Pos} {Q : Value → Shared → Prop} {E : Value → Shared → Prop}, Names X x c → Q c { s' with heap := h3 } → wpAny (model X.prog X.w) (X.A.mark (some (.ref a))) (eval (.Name x np) X.env) Q E { s' with heap := h3 } := fun {x c np Q E} hc q => by
        have S3 : L2.Inv (X.suite a (X.pn ++ pins)) [] σ1 H1 { s' with heap := h3 } := inv_suite J3
        obtain ⟨hg, hdbg, hm | ⟨hm, hv, hnn⟩⟩ := hc
        · exact ld_glob S3 hg hm q hdbg
        · exact ld_blt S3 hg hm hv q hnn hdbg
      induction hk with
      | nil =>
        intro w
        refine wpAny_handleBy_nil ?_
        obtain ⟨_, _, _, o, us, T, oT, ts', e1, e2, e3, e4, _⟩ := id fl3
        unfold PySem.passOn
        refine wpAny_bind (wpAny_field e1 e3 e4 ?_)
        rw [if_neg (show ¬ ((Value.ref T == Value.none) = true) from by simp)]
        have fin : wpAny (model X.prog X.w) X.A (setFlight (.ref a) X.env.frame) (fun _ z => wpAny (model X.prog X.w) X.A (throw (.ref a) : Sem Flow) (SP X pins D) X.xe z) X.xe { s' with heap := h3 } := by
          rw [hf]
          exact HandSPX.setFlight_upZ fl3 fun h4 hh4 up4 => wpAny_throw (tk _ _ ⟨a, B, sI, pins, σ1, H1, cls, d, rfl, J, nb, (up.trans up3).trans up4, .inr (.inr (by rw [hs]; exact hh4)), na, os, ag, w⟩)
        first
          | exact wpAny_bind (wpAny_pure (wpAny_bind fin))
          | exact wpAny_bind fin
      | one hc hsu r ih =>
        intro w
        obtain ⟨b, hb1, hyes, hno⟩ := w
        refine wpAny_handleBy_cons (codeAny_handlers_test ?_) (by intro q; cases q)
        refine test hc ((PySem.W.exm_one (M := model X.prog X.w) J3.kIn LT hb1).here ?_)
        cases b with
        | false => exact ih (hno rfl)
        | true =>
          obtain ⟨C, ec, q⟩ := hyes rfl
          refine codeAny_handlers_suite (HandSPX.lands_againZ fl3 fun h4 fl4 up4 => ?_)
          have J4 : L2.Inv X pins σ1 H1 { s' with heap := h4 } := J.landed nb fl4.1 ((up.trans up3).trans up4) os ag
          obtain ⟨oe4, vs4, he4, hz4, hd4⟩ := fl4.there
          have S4 : L2.Inv (X.suite a (X.pn ++ pins)) [] σ1 (upd H1 a (exV C d a)) { s' with heap := h4 } := inv_suite (told C h4 oe4 vs4 ec he4 hz4 hd4 J4)
          exact wpAny_mono ((hsu a (.ref C) d (X.pn ++ pins)).run [] _ _ _ _ S4 (q a na)) (fun f s6 hsp => sp_unsuite ok hsp) fun _ _ z => z.elim
      | as_ hc hi hln hsu r ih =>
        intro w
        obtain ⟨b, hb1, hyes, hno⟩ := w
        refine wpAny_handleBy_cons (codeAny_handlers_test ?_) (by intro q; cases q)
        refine test hc ((PySem.W.exm_one (M := model X.prog X.w) J3.kIn LT hb1).here ?_)
        cases b with
        | false => exact ih (hno rfl)
        | true =>
          obtain ⟨C, ec, q⟩ := hyes rfl
          refine codeAny_handlers_suite_as (HandSPX.lands_againZ fl3 fun h4 fl4 up4 => ?_)
          have J4 : L2.Inv X pins σ1 H1 { s' with heap := h4 } := J.landed nb fl4.1 ((up.trans up3).trans up4) os ag
          obtain ⟨oe4, vs4, he4, hz4, hd4⟩ := fl4.there
          have S4 : L2.Inv (X.suite a (X.pn ++ pins)) [] σ1 (upd H1 a (exV C d a)) { s' with heap := h4 } := inv_suite (told C h4 oe4 vs4 ec he4 hz4 hd4 J4)
          refine store_ok (X := X.suite a (X.pn ++ pins)) (v := .ref a) S4 hN hi (.inl hln) rfl (fun s5 S5 => ?_) (.inr hln)
          exact wpAny_mono ((hsu a (.ref C) d (X.pn ++ pins)).run [] s5 _ _ _ S5 (q a na)) (fun f s6 hsp => gone_end ok hN hi hln hsp) fun _ _ z => z.elim
    exact go hh w
end
end M
/-! MPE2: fields of caught exceptions, isinstance of them. -/
namespace PySem.W
open PySem PySem.Spec PySem.Calls PyProof.Rows
section
variable {prog : Program} {w : World} {A : Around} {E : Value → Shared → Prop} {s : Shared} {K : Frag} {x D : Addr} {ox : Obj} {od : Option Obj}
/-- the class of an exception that may have a dict -/
theorem mpe_class {Q : Option Value → Shared → Prop} (C : L2.ExcC K D) (X : K.In s.heap) (I : InstAt s.heap x ox D od) (h : Q (some (.ref D)) { s with toks := s.toks + 1 }) : wpAny (model prog w) A (getAttr? (.ref x) "__class__") Q E s := by
  have hf : findObj K D od "__class__" = some (.bind (.builtin "getset_descriptor.__get__") (.builtin "object.__class__")) := by
    obtain ⟨cd, hc, _⟩ := any_some C.hd
    unfold findObj
    rw [hc, Option.bind_some, C.ha, Option.bind_some]
    simp [C.hn, C.ht]
  obtain ⟨hp, g, d, t, os⟩ := s
  have T := I.type (M := model prog w)
  have sub : Looks (model prog w) hp (isInstance (.ref x) (.type "BaseException")) true := T.andThen (looks_subIn X C.hs)
  have e1 : (Value.builtin "BaseException.__getattribute__" == Value.builtin "object.__getattribute__") = false := by decide +kernel
  unfold getAttr? getAttrBy? getAttrBy
  refine wpAny_bind (wpAny_mkText (wpAny_bind (wpAny_attempt (wpAny_holding (wpAny_bind (T.at (wpAny_bind ((looks_findIn (M := model prog w) X C.hg).at ?_))))))))
  show wpAny _ _ (if (onTheHeap (Value.ref D) && Value.builtin "BaseException.__getattribute__" == Value.builtin "object.__getattribute__") = true then _ else _) _ _ _
  rw [show (onTheHeap (Value.ref D) && Value.builtin "BaseException.__getattribute__" == Value.builtin "object.__getattribute__") = false by rw [e1]; rfl, if_neg Bool.false_ne_true]
  unfold getAttrByItsOwn hookBefore
  refine wpAny_bind ?_
  rw [if_pos (show onTheHeap (Value.ref D) = true from rfl)]
  refine (looks_findIn (M := model prog w) X C.hk).at (wpAny_bind (wpAny_attempt (wpAny_holding ?_)))
  unfold callGetattribute
  rw [show (false && onTheHeap (Value.builtin "BaseException.__getattribute__")) = false from rfl, if_neg Bool.false_ne_true]
  unfold boundAndCalled
  rw [PySem.F.excAttr_ValueError.ga.bind (.ref x)]
  refine wpAny_bind (wpAny_pure ?_)
  show wpAny _ _ (call (.builtin "BaseException.__getattribute__") [.ref x, .str "__class__" t]) _ _ _
  refine wpAny_call (codeAny_call_builtin PySem.F.excAttr_ValueError.ga.plain PySem.F.entry_bexc_ga ?_)
  refine @check_slot (model prog w) _ _ ⟨hp, g, d, t + 1, os⟩ "BaseException.__getattribute__" "BaseException" "__getattribute__" (.ref x) [.str "__class__" t] [] _ (by decide +kernel) (by decide +kernel) sub (PySem.F.args_bexc_ga (.ref x) (.str "__class__" t)) ?_
  unfold Builtin.«object.__getattribute__»
  refine wpAny_bind (wpAny_of_eq (a := ((Value.ref x : Value), [Value.str "__class__" t])) (by first | rfl | (simp only [slotArgs]; rfl)) ?_)
  refine wpAny_bind (wpAny_pure (wpAny_bind (T.at (wpAny_bind ((looks_find (M := model prog w) X I hf).at ?_)))))
  show wpAny _ _ (holding [Value.builtin "object.__class__"] (call (.builtin "getset_descriptor.__get__") [.builtin "object.__class__", .ref x, .ref D]) >>= ret) _ _ _
  refine wpAny_bind (wpAny_holding (wpAny_call (class_get (s := ⟨hp, g, d, t + 1, os⟩) (ox := ox) (od := od) X I C.hm ?_)))
  refine wpAny_pure ?_
  show wpAny _ _ (handedOut (.ref D)) _ _ _
  rw [handedOut_of (v := .ref D) rfl]
  first
    | exact wpAny_pure (wpAny_pure h)
    | exact wpAny_pure h
    | exact wpAny_pure (wpAny_bind (wpAny_pure (wpAny_pure h)))
theorem mpe_kit (C : L2.ExcC K D) : KitX K (.ref x) (.ref D) (fun h => InstAt h x ox D od) where
  ty := fun _ _ _ I => I.type
  it := fun M h X _ => by
    obtain ⟨cd, hc, _⟩ := any_some C.hd
    unfold clsIn at hc
    split at hc
    · rename_i c' d' cd' sl' ho
      exact fun _ _ _ _ k q => by
        unfold isType loadHead
        exact wpAny_bind (wpAny_loadPart (k _ _ (X _ _ ho)) (wpAny_pure q))
    · cases hc
  ne := fun h tp dd its n sl X htp => by
    obtain ⟨cd, hc, _⟩ := any_some C.hd
    cases q : (Value.ref D == Value.ref tp) with
    | false => rfl
    | true =>
      have e : D = tp := Value.ref.inj (beq_iff_eq.mp q)
      subst e
      unfold clsIn at hc
      split at hc
      · rename_i c' d' cd' sl' ho
        cases (X _ _ ho).symm.trans htp
      · cases hc
  ca := fun X I k => mpe_class C X I k
end
end PySem.W
namespace M
open PySem L2 PySem.Spec PyProof.Rows
section
variable {X : Cx} {pins : List (Addr × Obj)} {σ : L2.St} {H : Hp} {s : Shared} {w : Wd} {G : Hp}
/-- where an exception is told of, it stands -/
theorem exV_at {a C : Addr} {d : Option Addr} (I : L2.Inv X pins σ H s) (h : H a = some (exV C d a)) : ∃ (oe : Obj) (vs : Array Value), s.heap.get? a = some oe ∧ oe.cls = .ref C ∧ oe.dict = d ∧ oe.data = .fields vs :=
  (show ObjOk X.prog X.w H s.heap a (exV C d a) from I.hok a _ h).1
theorem rep_exc {c : Str} {fs : List (Str × Val)} {x : V} : Rep w G (.exc c fs) x ↔ ∃ a C d, x = .ref a ∧ G a = some (exV C d a) ∧ w.CM c = some C ∧ ((d = none ∧ fs = []) ∨ ∃ dd xs, d = some dd ∧ G dd = some (.xd xs) ∧ RepF w G fs xs) := by rw [Rep]
theorem rrep_exc (le : Le G H) {c : Str} {fs : List (Str × Val)} {x : V} (h : RRep w G H (.exc c fs) x) : ∃ a C d, x = .ref a ∧ H a = some (exV C d a) ∧ w.CM c = some C ∧ ((d = none ∧ fs = []) ∨ ∃ dd xs, d = some dd ∧ H dd = some (.xd xs) ∧ RepF w G fs xs) := by
  rcases h with h | ⟨a, _, h⟩
  · obtain ⟨a, C, d, e, h1, h2, h3⟩ := rep_exc.mp h
    refine ⟨a, C, d, e, le _ _ h1, h2, ?_⟩
    rcases h3 with h3 | ⟨dd, xs, e1, e2, e3⟩
    · exact .inl h3
    · exact .inr ⟨dd, xs, e1, le _ _ e2, e3⟩
  · exact h.elim
end
/-- e.f of an exception -/
def tXfM (K : PySem.W.Frag) (f : Str) (te : TE) : TE := fun σ H Q => te σ H fun x H1 => ∃ a C dd xs v, x = .ref a ∧ H1 a = some (exV C (some dd) a) ∧ XfC K C ∧ PySem.W.findIn K (.ref C) f = some none ∧ H1 dd = some (.xd xs) ∧ xs.lookup f = some v ∧ Q v H1
theorem pe_xfM {X : Cx} {e : Expr} {te : TE} {f : Str} {pos : Pos} (he : PE X e te) (hb : attributeBase e f X.env (eval e X.env) = eval e X.env := by rfl) : PE X (.Attribute e f pos) (tXfM X.K f te) := by
  refine ⟨fun pins s σ H Q I h => ?_⟩
  refine attr_of hb (thn (he.run pins s σ H _ I h) fun u s1 hh => ?_)
  obtain ⟨x, H1, I1, rx, a, C, dd, xs, v, ex, h1, T, hno, h2, hl, q⟩ := hh
  subst ex
  obtain rfl : u = Value.ref a := rx
  obtain ⟨oe, vs, ha, hc, hd, hf⟩ := exV_at I1 h1
  have hx : ObjOk X.prog X.w H1 s1.heap dd (.xd xs) := I1.hok dd _ h2
  obtain ⟨mA, hns, hr⟩ := hx
  obtain ⟨ob, ho, hlk⟩ := lookIn_ns hns
  obtain ⟨z, hz, rz⟩ := RelO.some_of (v := v) (o := mA f) (by rw [← hl]; exact hr f)
  have J : PySem.W.InstAt s1.heap a oe C (some ob) := ⟨ha, hc, by unfold PySem.W.notCls; rw [hf] <;> rfl, by rw [hd]; exact ho⟩
  exact HandSPX.exc_get I1.kIn J T.ga T.gg T.exC (PySem.W.findObj_own T.hdC hno rfl (by rw [hlk, hz])) (handed_of rz) ⟨v, H1, I1.tok _, rz, q⟩
def Pxf (cs : List Str) (f : Str) : List Val → Option (Bool × Val)
  | [.exc c fs] => if c ∈ cs then (fs.lookup f).map fun v => (false, v) else none
  | _ => none
/-- the classes whose exceptions' field f is read -/
def XfOk (w : Wd) (cs : List Str) (f : Str) : Prop := ∀ c ∈ cs, ∃ C, w.CM c = some C ∧ XfC w.K C ∧ PySem.W.findIn w.K (.ref C) f = some none
theorem repF_lookup {w : Wd} {G : Hp} {f : Str} : ∀ {fs : List (Str × Val)} {xs : List (Str × V)} {v : Val}, RepF w G fs xs → fs.lookup f = some v → ∃ x, xs.lookup f = some x ∧ Rep w G v x
  | [], _, _, _, e => by simp [List.lookup] at e
  | (k, d) :: fs, _, v, r, e => by
    obtain ⟨y, ys, rfl, r1, r2⟩ := repF_cons.mp r
    rw [List.lookup_cons] at e ⊢
    by_cases h : f = k
    · subst h
      simp only [beq_self_eq_true, Option.some.injEq] at e ⊢
      subst e
      exact ⟨y, rfl, r1⟩
    · have hf : (f == k) = false := by simpa using h
      rw [hf] at e ⊢
      exact repF_lookup r2 e
theorem xf_of {w : Wd} {cs : List Str} {f : Str} {x : V} {H : Hp} {Q : VK} (hf : XfOk w cs f) (h : rOf w (Pxf cs f) [x] H Q) : ∃ a C dd xs v, x = .ref a ∧ H a = some (exV C (some dd) a) ∧ XfC w.K C ∧ PySem.W.findIn w.K (.ref C) f = some none ∧ H dd = some (.xd xs) ∧ xs.lookup f = some v ∧ Q v H := by
  obtain ⟨G, vs, o, z, le, rr, hp, q⟩ := h
  unfold Pxf at hp
  split at hp
  · rename_i c fs
    split at hp
    · rename_i hc
      rw [Option.map_eq_some_iff] at hp
      obtain ⟨v, e, e2⟩ := hp
      cases e2
      obtain ⟨y, e3, r1⟩ := rreps_one rr
      cases e3
      obtain ⟨a, C, d, ex, ha, hC, hd⟩ := rrep_exc le r1
      rcases hd with ⟨_, rfl⟩ | ⟨dd, xs, rfl, h1, h2⟩
      · simp [List.lookup] at e
      · obtain ⟨C', hC', T, hno⟩ := hf c hc
        rw [hC] at hC'
        cases hC'
        obtain ⟨u, hu, ru⟩ := repF_lookup h2 e
        exact ⟨a, C, dd, xs, u, ex, ha, T, hno, h1, hu, q u G H (Grow.refl le) (nrep_f ru)⟩
    · cases hp
  · cases hp
theorem pe_xfE {X : Cx} {A : Act} {W : WX} {e : Expr} {f : Str} {pos : Pos} {fo : OF} {cs : List Str} (hK : A.w.K = X.K) (hf : XfOk A.w cs f) (he : PE X e (tO A W fo)) (hb : attributeBase e f X.env (eval e X.env) = eval e X.env := by rfl) : PE X (.Attribute e f pos) (tE A W (prim (Pxf cs f) (osCons fo osNil))) :=
  PE.imp (pe_xfM he hb) fun σ H Q q => tO_mono (prim_os1 q) fun x H1 h => by
    obtain ⟨a, C, dd, xs, v, h1, h2, h3, h4, h5, h6, h7⟩ := xf_of hf h
    rw [hK] at h3 h4
    exact ⟨a, C, dd, xs, v, h1, h2, h3, h4, h5, h6, h7⟩
/-! ### isinstance -/
abbrev ETb := List ((Str × Str) × Bool) × List ((Str × String) × Bool)
def isE (tb : ETb) (c : Str) : Val → Option Bool
  | .cls D => tb.1.lookup (c, D)
  | .ty T => tb.2.lookup (c, T)
  | _ => none
def isEs (tb : ETb) (c : Str) : List Val → Option Bool
  | [] => some false
  | d :: ds => match isE tb c d with
    | some true => some true
    | some false => isEs tb c ds
    | none => none
def PisE (tb : ETb) : List Val → Option (Bool × Val)
  | [.exc c _, .cls D] => (isE tb c (.cls D)).map fun b => (false, .bl b)
  | [.exc c _, .ty T] => (isE tb c (.ty T)).map fun b => (false, .bl b)
  | [.exc c _, .tup (d :: ds)] => (isEs tb c (d :: ds)).map fun b => (false, .bl b)
  | _ => none
/-- what the table says is so -/
def EoOk (w : Wd) (tb : List ((Str × Str) × Bool)) : Prop := ∀ c D b, tb.lookup (c, D) = some b → ∃ C E, w.CM c = some C ∧ ExcC w.K C ∧ w.CM D = some E ∧ PySem.W.kitOne w.K (.ref C) (.ref E) = some b
def EtOk (w : Wd) (tb : List ((Str × String) × Bool)) : Prop := ∀ c T b, tb.lookup (c, T) = some b → ∃ C, w.CM c = some C ∧ ExcC w.K C ∧ PySem.W.kitOne w.K (.ref C) (.type T) = some b
theorem eo_nil {w : Wd} : EoOk w [] := fun _ _ _ h => by cases h
theorem et_nil {w : Wd} : EtOk w [] := fun _ _ _ h => by cases h
theorem eo_cons {w : Wd} {tb : List ((Str × Str) × Bool)} {c D : Str} {b : Bool} {C E : Addr} (h1 : w.CM c = some C) (h2 : ExcC w.K C) (h3 : w.CM D = some E) (h4 : PySem.W.kitOne w.K (.ref C) (.ref E) = some b) (r : EoOk w tb) : EoOk w (((c, D), b) :: tb) := fun c' D' b' h => by
  rw [List.lookup_cons] at h
  split at h
  · rename_i e
    have e := beq_iff_eq.mp e
    cases e; cases h
    exact ⟨C, E, h1, h2, h3, h4⟩
  · exact r c' D' b' h
theorem et_cons {w : Wd} {tb : List ((Str × String) × Bool)} {c : Str} {T : String} {b : Bool} {C : Addr} (h1 : w.CM c = some C) (h2 : ExcC w.K C) (h4 : PySem.W.kitOne w.K (.ref C) (.type T) = some b) (r : EtOk w tb) : EtOk w (((c, T), b) :: tb) := fun c' D' b' h => by
  rw [List.lookup_cons] at h
  split at h
  · rename_i e
    have e := beq_iff_eq.mp e
    cases e; cases h
    exact ⟨C, h1, h2, h4⟩
  · exact r c' D' b' h
def ETbOk (w : Wd) (tb : ETb) : Prop := EoOk w tb.1 ∧ EtOk w tb.2
section
variable {w : Wd} {G H : Hp}
theorem isE_kit {tb : ETb} {c : Str} {C : Addr} {v : Val} {x : V} {u : Value} {b : Bool} (T : ETbOk w tb) (hC : w.CM c = some C) (le : Le G H) (r : RRep w G H v x) (ru : RelV x u) (h : isE tb c v = some b) : PySem.W.kitOne w.K (.ref C) u = some b ∧ ExcC w.K C := by
  cases v with
  | cls D =>
    obtain ⟨C', E, h1, h2, h3, h4⟩ := T.1 c D b h
    rw [hC] at h1; cases h1
    rcases r with r | ⟨_, _, r⟩
    · rw [Rep] at r
      obtain ⟨E', h5, rfl⟩ := r
      rw [h3] at h5; cases h5
      obtain rfl : u = Value.ref E := ru
      exact ⟨h4, h2⟩
    · exact r.elim
  | ty S =>
    obtain ⟨C', h1, h2, h4⟩ := T.2 c S b h
    rw [hC] at h1; cases h1
    obtain rfl := rrep_ty r
    obtain rfl : u = Value.type S := ru
    exact ⟨h4, h2⟩
  | _ => simp [isE] at h
theorem isEs_kit {tb : ETb} {c : Str} {C : Addr} (T : ETbOk w tb) (hC : w.CM c = some C) (le : Le G H) : ∀ {ds : List Val} {xs : List V} {us : List Value} {b : Bool}, isEs tb c ds = some b → Reps w G ds xs → Vals xs us → PySem.W.kitAny w.K (.ref C) us = some b ∧ (ds = [] ∨ ExcC w.K C)
  | [], _, _, b, h, r, v => by
    rw [reps_nil] at r; subst r; cases v; cases h; exact ⟨rfl, .inl rfl⟩
  | d :: ds, _, _, b, h, r, v => by
    rw [reps_cons] at r; obtain ⟨y, ys, e, r1, r2⟩ := r
    subst e
    cases v with
    | @cons _ u _ us h1 h2 =>
      simp only [isEs] at h
      split at h
      · rename_i e; cases h
        have k := isE_kit T hC le (.inl r1) h1 e
        exact ⟨L2.kitAny_cons k.1 (fun z => nomatch z) (fun _ => rfl), .inr k.2⟩
      · rename_i e
        have k := isE_kit T hC le (.inl r1) h1 e
        exact ⟨L2.kitAny_cons k.1 (fun _ => (isEs_kit T hC le h r2 h2).1) (fun z => nomatch z), .inr k.2⟩
      · cases h
end
theorem bi_isE {X : Cx} {w : Wd} {tb : ETb} (hK : w.K = X.K) (T : ETbOk w tb) : CallR X (.builtin "isinstance") (rOf w (PisE tb)) := by
  intro pins s σ H xs us Q I r ⟨G, vs, o, z, le, rr, hp, q⟩
  have one : ∀ {c : Str} {fs : List (Str × Val)} {v : Val} {b : Bool}, vs = [.exc c fs, v] → isE tb c v = some b → (o, z) = (false, .bl b) → wpAny (model X.prog X.w) X.A (call (.builtin "isinstance") us) (fun u s' => EP X pins σ Q u s') X.xe s := by
    intro c fs v b e1 e2 e3
    subst e1
    cases e3
    obtain ⟨x, y, e, r1, r2⟩ := rreps_two rr
    subst e
    obtain ⟨u1, u2, rfl, g1, g2⟩ := vals2 r
    obtain ⟨a, C, d, rfl, ha, hC, hd⟩ := rrep_exc le r1
    obtain ⟨k1, k2⟩ := isE_kit T hC le r2 g2 e2
    rw [hK] at k1 k2
    obtain rfl : u1 = Value.ref a := g1
    obtain ⟨oe, us2, q1, q2, q3, q4⟩ := exV_at I ha
    obtain ⟨od, J⟩ : ∃ od, PySem.W.InstAt s.heap a oe C od := by
      rcases hd with ⟨rfl, _⟩ | ⟨dd, ys, rfl, h1, _⟩
      · exact ⟨none, q1, q2, by unfold PySem.W.notCls; rw [q4] <;> rfl, by rw [q3]; trivial⟩
      · obtain ⟨mA, hns, _⟩ := (show ObjOk X.prog X.w H s.heap dd (.xd ys) from I.hok dd _ h1)
        obtain ⟨ob, ho, _⟩ := lookIn_ns hns
        exact ⟨some ob, q1, q2, by unfold PySem.W.notCls; rw [q4] <;> rfl, by rw [q3]; exact ho⟩
    exact PySem.W.kia_one (PySem.W.mpe_kit k2) I.kIn J k1 (fun z => nomatch z) fun tk => ⟨.bl b, H, I.tok tk, rfl, bl_new le q⟩
  unfold PisE at hp
  split at hp
  · rw [Option.map_eq_some_iff] at hp
    obtain ⟨b, hb, e⟩ := hp
    exact one rfl hb e.symm
  · rw [Option.map_eq_some_iff] at hp
    obtain ⟨b, hb, e⟩ := hp
    exact one rfl hb e.symm
  · rename_i c fs d0 ds
    rw [Option.map_eq_some_iff] at hp
    obtain ⟨b, hb, e⟩ := hp
    cases e
    obtain ⟨x, y, e, r1, r2⟩ := rreps_two rr
    subst e
    obtain ⟨u1, u2, rfl, g1, g2⟩ := vals2 r
    obtain ⟨a, C, d, rfl, ha, hC, hd⟩ := rrep_exc le r1
    obtain ⟨tp, zs, rfl, h, rs⟩ := rrep_tup le r2
    rw [hK] at h
    obtain ⟨its, rv, ⟨ob, ho, hc, n, hdt⟩, _⟩ := I.tuple h
    obtain rfl : u2 = Value.ref tp := g2
    obtain rfl : u1 = Value.ref a := g1
    obtain ⟨k1, k2⟩ := isEs_kit T hC le hb rs rv
    rw [hK] at k1 k2
    obtain ⟨oc, od2, dt, sl⟩ := ob
    simp only at hc hdt
    subst hc hdt
    obtain ⟨oe, us2, q1, q2, q3, q4⟩ := exV_at I ha
    obtain ⟨od, J⟩ : ∃ od, PySem.W.InstAt s.heap a oe C od := by
      rcases hd with ⟨rfl, _⟩ | ⟨dd, ys, rfl, h1, _⟩
      · exact ⟨none, q1, q2, by unfold PySem.W.notCls; rw [q4] <;> rfl, by rw [q3]; trivial⟩
      · obtain ⟨mA, hns, _⟩ := (show ObjOk X.prog X.w H s.heap dd (.xd ys) from I.hok dd _ h1)
        obtain ⟨ob, ho, _⟩ := lookIn_ns hns
        exact ⟨some ob, q1, q2, by unfold PySem.W.notCls; rw [q4] <;> rfl, by rw [q3]; exact ho⟩
    rcases k2 with k2 | k2
    · cases k2
    · exact PySem.W.kia_tup (PySem.W.mpe_kit k2) I.kIn J ho k1 (fun z => nomatch z) fun tk => ⟨.bl b, H, I.tok tk, rfl, bl_new le q⟩
  · cases hp
end M
/-! MPE3: try and raise as combinators. -/
namespace M
open PySem L2 PySem.Spec PyProof.Rows
/-- an except clause: of which classes it takes, the slot of its name, its suite -/
structure Hnd where
  m : List (Str × Bool)
  nm : Option Nat
  su : SF
def endS (nm : Option Nat) : SR → SR
  | .nx r => .nx (match nm with | some i => r.set i none | none => r)
  | .bk r => .bk (match nm with | some i => r.set i none | none => r)
  | .ct r => .ct (match nm with | some i => r.set i none | none => r)
  | .rt o v r => .rt o v r
  | .ex _ _ => .bad
  | .bad => .bad
def hndS : List Hnd → Str → List (Str × Val) → Env → SR
  | [], c, fs, r => .ex (.exc c fs) r
  | h :: hs, c, fs, r => match h.m.lookup c with
    | some true => endS h.nm (h.su (match h.nm with | some i => r.set i (some (false, .exc c fs)) | none => r))
    | some false => hndS hs c fs r
    | none => .bad
def tryS (b : SF) (hs : List Hnd) : SF := fun r => match b r with
  | .ex (.exc c fs) r1 => hndS hs c fs r1
  | .ex _ _ => .bad
  | x => x
/-- what a clause's table says is so -/
def MOk (w : Wd) (cv : Value) (m : List (Str × Bool)) : Prop := ∀ c b, m.lookup c = some b → ∃ C, w.CM c = some C ∧ PySem.W.exmOne w.K (.ref C) cv = some b
theorem mok_nil {w : Wd} {cv : Value} : MOk w cv [] := fun _ _ h => by cases h
theorem mok_cons {w : Wd} {cv : Value} {m : List (Str × Bool)} {c : Str} {b : Bool} {C : Addr} (h1 : w.CM c = some C) (h2 : PySem.W.exmOne w.K (.ref C) cv = some b) (r : MOk w cv m) : MOk w cv ((c, b) :: m) := fun c' b' h => by
  rw [List.lookup_cons] at h
  split at h
  · rename_i e
    have e := beq_iff_eq.mp e
    subst e; cases h
    exact ⟨C, h1, h2⟩
  · exact r c' b' h
section
variable {A : Act} {G H : Hp} {σ : L2.St} {r : Env}
/-- the slot of a caught exception -/
theorem Ok.caught {a : Addr} {o : HO} (k : Ok A G H σ r) (n : H a = none) : Ok A (upd G a o) (upd H a o) σ r := by
  have ng : G a = none := k.sub.back n
  refine k.freezeT ng (fun ⟨i, v, h1, h2⟩ => ?_) (k.fresh n)
  obtain ⟨b, e, ro, _, _⟩ := k.ow i v h1
  rw [h2] at e
  cases e
  obtain ⟨u, hu, _⟩ := ro.has
  rw [n] at hu
  cases hu
end
/-- the clauses, as HandS's and as combinators -/
inductive HdsM (X : Cx) (A : Act) : List ExceptHandler → List Hnd → List Hsp → Prop
  | nil : HdsM X A [] [] []
  | one {x : Str} {c : Value} {b₀ : Stmt} {suite : List Stmt} {np pos' : Pos} {m : List (Str × Bool)} {su : SF} {hds : List ExceptHandler} {hs : List Hnd} {l : List Hsp} (hc : Names X x c) (hm : MOk A.w c m)
      (hsu : ∀ (a : Addr) (pn : List (Addr × Obj)), PSs (X.suite a pn) (b₀ :: suite) (tSt A W0 su)) (r : HdsM X A hds hs l) :
      HdsM X A (.ExceptHandler (some (.Name x np)) none (b₀ :: suite) pos' :: hds) (⟨m, none, su⟩ :: hs) (⟨c, none, fun _ _ _ => tSt A W0 su⟩ :: l)
  | as_ {x n : Str} {i : Nat} {c : Value} {b₀ : Stmt} {suite : List Stmt} {np pos' : Pos} {m : List (Str × Bool)} {su : SF} {hds : List ExceptHandler} {hs : List Hnd} {l : List Hsp} (hc : Names X x c) (hm : MOk A.w c m) (hi : X.N[i]? = some n) (hln : X.env.kindOf n = some .local) (hio : i ∉ A.io)
      (hsu : ∀ (a : Addr) (pn : List (Addr × Obj)), PSs (X.suite a pn) (b₀ :: suite) (tSt A W0 su)) (r : HdsM X A hds hs l) :
      HdsM X A (.ExceptHandler (some (.Name x np)) (some n) (b₀ :: suite) pos' :: hds) (⟨m, some i, su⟩ :: hs) (⟨c, some i, fun _ _ _ => tSt A W0 su⟩ :: l)
theorem HdsM.hds {X : Cx} {A : Act} {h : List ExceptHandler} {hs : List Hnd} {l : List Hsp} (k : HdsM X A h hs l) : HdsT X h l := by
  induction k with
  | nil => exact .nil
  | one hc _ hsu _ ih => exact .one hc (fun a _ _ pn => hsu a pn) ih
  | as_ hc _ hi hln _ hsu _ ih => exact .as_ hc hi hln (fun a _ _ pn => hsu a pn) ih
theorem Ok.wipe1 {A : Act} {G H : Hp} {σ : L2.St} {r : Env} {i : Nat} (k : Ok A G H σ r) (hio : i ∉ A.io) : Ok A G H (σ.set i none) (r.set i none) := by
  have := k.wipe (sl := [i]) fun j hj z => hio (by rw [List.mem_singleton.mp z] at hj; exact hj)
  exact this
theorem hnd_of {X : Cx} {A : Act} {W : WX} {D : Ends} (hK : A.w.K = X.K) {h : List ExceptHandler} {hs : List Hnd} {l : List Hsp} (k : HdsM X A h hs l) : ∀ {c : Str} {fs : List (Str × Val)} {r : Env} {σ : L2.St} {G H : Hp} {C : Addr} {d : Option Addr}, Ok A G H σ r → A.w.CM c = some C → XdOk A.w G H d fs →
    Fin A W G D (hndS hs c fs r) → wTry X.K W D l (.ref C) d σ H := by
  have look : ∀ {c : Str} {cv : Value} {m : List (Str × Bool)} {b : Bool} {C : Addr}, MOk A.w cv m → A.w.CM c = some C → m.lookup c = some b → PySem.W.exmOne X.K (.ref C) cv = some b := fun hm hC e => by
    obtain ⟨C', h1, h2⟩ := hm _ _ e
    rw [hC] at h1
    cases h1
    rw [hK] at h2
    exact h2
  induction k with
  | nil =>
    intro c fs r σ G H C d k hC hd hF
    exact hF σ G H C d k (Le.refl _) hC hd
  | @one x cv b₀ suite np pos' m su hds hs l hc hm hsu _ ih =>
    intro c fs r σ G H C d k hC hd hF
    simp only [hndS] at hF
    cases hl : m.lookup c with
    | none => simp only [hl] at hF; exact hF.elim
    | some b =>
      cases b with
      | false =>
        simp only [hl] at hF
        exact ⟨false, look hm hC hl, (fun z => nomatch z), fun _ => ih k hC hd hF⟩
      | true =>
        simp only [hl] at hF
        refine ⟨true, look hm hC hl, fun _ => ⟨C, rfl, fun a na => ?_⟩, fun z => nomatch z⟩
        have ng : G a = none := k.sub.back na
        refine ⟨r, _, k.caught (o := exV C d a) na, ?_⟩
        revert hF
        cases su r with
        | nx r2 => exact fun hF σ' G' H' k' le => hF σ' G' H' k' ((Le.new ng).trans le)
        | bk r2 => exact fun hF σ' G' H' k' le => hF σ' G' H' k' ((Le.new ng).trans le)
        | ct r2 => exact fun hF σ' G' H' k' le => hF σ' G' H' k' ((Le.new ng).trans le)
        | rt o v r2 => exact fun hF x σ' G' H' k' le => hF x σ' G' H' k' ((Le.new ng).trans le)
        | ex e r2 => exact fun hF => hF.elim
        | bad => exact fun hF => hF.elim
  | @as_ x n i cv b₀ suite np pos' m su hds hs l hc hm hi hln hio hsu _ ih =>
    intro c fs r σ G H C d k hC hd hF
    simp only [hndS] at hF
    cases hl : m.lookup c with
    | none => simp only [hl] at hF; exact hF.elim
    | some b =>
      cases b with
      | false =>
        simp only [hl] at hF
        exact ⟨false, look hm hC hl, (fun z => nomatch z), fun _ => ih k hC hd hF⟩
      | true =>
        simp only [hl] at hF
        refine ⟨true, look hm hC hl, fun _ => ⟨C, rfl, fun a na => ?_⟩, fun z => nomatch z⟩
        have ng : G a = none := k.sub.back na
        have k2 := k.caught (o := exV C d a) na
        have rp : Rep A.w (upd G a (exV C d a)) (.exc c fs) (.ref a) := by
          refine rep_exc.mpr ⟨a, C, d, rfl, upd_same, hC, ?_⟩
          rcases hd with hd | ⟨dd, xs, e1, e2, e3⟩
          · exact .inl hd
          · exact .inr ⟨dd, xs, e1, Le.new ng _ _ e2, e3.mono (Le.new ng)⟩
        refine ⟨_, _, k2.store (o := false) (v := .exc c fs) rp hio, ?_⟩
        revert hF
        show Fin A W G D (endS (some i) (su (r.set i (some (false, .exc c fs))))) → Fin A W0 _ (gone i D) (su (r.set i (some (false, .exc c fs))))
        cases su (r.set i (some (false, .exc c fs))) with
        | nx r2 => exact fun hF σ' G' H' k' le => hF _ G' H' (k'.wipe1 hio) ((Le.new ng).trans le)
        | bk r2 => exact fun hF σ' G' H' k' le => hF _ G' H' (k'.wipe1 hio) ((Le.new ng).trans le)
        | ct r2 => exact fun hF σ' G' H' k' le => hF _ G' H' (k'.wipe1 hio) ((Le.new ng).trans le)
        | rt o v r2 => exact fun hF x σ' G' H' k' le => hF x σ' G' H' k' ((Le.new ng).trans le)
        | ex e r2 => exact fun hF => hF.elim
        | bad => exact fun hF => hF.elim
theorem ps_tryM {X : Cx} {A : Act} {W : WX} {body : List Stmt} {h₀ : ExceptHandler} {hds : List ExceptHandler} {pos : Pos} {b : SF} {hs : List Hnd} {l : List Hsp} (hst : X.stack = X.env :: X.outer) (hf : X.env.frame = some X.env.locals) (hN : X.N.Nodup) (hK : A.w.K = X.K) (tk : Takes X W)
    (hb : ∀ (W : WX) (pn : List (Addr × Obj)) (xe : Value → Shared → Prop), Takes (X.tr pn xe) W → PSs (X.tr pn xe) body (tSt A W b)) (k : HdsM X A (h₀ :: hds) hs l) : PS X (.Try body (h₀ :: hds) [] [] pos) (tSt A W (tryS b hs)) :=
  PS.imp (ps_tryT hst hf hN tk (fun W pn xe tk _ => hb W pn xe tk) k.hds) fun D σ H ⟨r, G, kk, m⟩ => ⟨r, G, kk, by
    unfold tryS at m
    revert m
    cases b r with
    | nx r2 => exact id
    | bk r2 => exact id
    | ct r2 => exact id
    | rt o v r2 => exact id
    | bad => exact id
    | ex e r1 =>
      cases e with
      | exc c fs => exact fun m σ' G' H' C d k' le hC hd => hnd_of hK k k' hC hd (Fin.mono le m)
      | _ => exact fun m => m.elim⟩
/-! ### raise -/
def raiC (c : Str) (fl : List Str) (f : OsF) : SF := fun r => match f r with
  | .ok hs r1 => match lend r1 hs with
    | some as => if lents as = 0 ∧ as.length = fl.length then .ex (.exc c (fl.zip (as.map (·.2))).reverse) r1 else .bad
    | none => .bad
  | .ex e r1 => .ex e r1
  | .bad => .bad
/-- what the making of an exception by its own __init__ leaves -/
def spIni (C : Addr) (fl : List Str) : Sp := fun vs H Q _ => ∃ a ys, vs = .ref a :: ys ∧ ys.length = fl.length ∧ H a = some (exo a C none) ∧ ∀ d, H d = none → d ≠ a → Q .non (upd (upd H d (exd d (fl.zip ys).reverse)) a (exo a C (some d)))
section
variable {w : Wd} {G : Hp}
theorem repF_app : ∀ {fs gs : List (Str × Val)} {xs ys : List (Str × V)}, RepF w G fs xs → RepF w G gs ys → RepF w G (fs ++ gs) (xs ++ ys)
  | [], _, _, _, r, q => by rw [repF_nil.mp r]; exact q
  | (k, d) :: fs, _, _, _, r, q => by
    obtain ⟨y, ys, rfl, r1, r2⟩ := repF_cons.mp r
    exact repF_cons.mpr ⟨y, _, rfl, r1, repF_app r2 q⟩
theorem repF_rev : ∀ {fs : List (Str × Val)} {xs : List (Str × V)}, RepF w G fs xs → RepF w G fs.reverse xs.reverse
  | [], _, r => by rw [repF_nil.mp r]; exact repF_nil.mpr rfl
  | (k, d) :: fs, _, r => by
    obtain ⟨y, ys, rfl, r1, r2⟩ := repF_cons.mp r
    rw [List.reverse_cons, List.reverse_cons]
    exact repF_app (repF_rev r2) (repF_cons.mpr ⟨y, [], rfl, r1, repF_nil.mpr rfl⟩)
theorem repF_zip : ∀ {fl : List Str} {vs : List Val} {xs : List V}, Reps w G vs xs → RepF w G (fl.zip vs) (fl.zip xs)
  | [], _, _, _ => repF_nil.mpr rfl
  | _ :: _, [], _, r => by rw [reps_nil.mp r]; exact repF_nil.mpr rfl
  | f :: fl, v :: vs, _, r => by
    obtain ⟨y, ys, rfl, r1, r2⟩ := reps_cons.mp r
    exact repF_cons.mpr ⟨y, _, rfl, r1, repF_zip r2⟩
end
theorem rai_of {A : Act} {W : WX} {cn : Str} {fl : List Str} {f : OsF} {C : Addr} {σ : L2.St} {H : Hp} {D : Ends} (hC : A.w.CM cn = some C) (hl : fl.length ≤ 1000) (h : tSt A W (raiC cn fl f) D σ H) : tMkO C (spIni C fl) [] (tOs A W f) σ H fun cls d H' => W cls d σ H' := by
  obtain ⟨r, G, k, m⟩ := h
  refine ⟨r, G, k, ?_⟩
  unfold raiC at m
  cases hf : f r with
  | bad => rw [hf] at m; exact m.elim
  | ex e r' => rw [hf] at m; exact m σ
  | ok hs r1 =>
    simp only [hf] at m
    intro xs G1 H1 k1 st1 t1
    cases hld : lend r1 hs with
    | none => simp only [hld] at m; exact m.elim
    | some as =>
      simp only [hld] at m
      by_cases hc : lents as = 0 ∧ as.length = fl.length
      · rw [if_pos hc] at m
        have ar := lend_rel k1 hld t1
        have len := arel_length ar
        refine ⟨by omega, fun a na => ⟨a, xs, by rw [List.append_nil], by omega, upd_same, fun d nd hda => ⟨rfl, d, (fl.zip xs).reverse, upd_same, ?_, ?_, ?_⟩⟩⟩
        · rw [upd_ne hda, upd_same]
        · rw [upd_ne hda] at nd; exact nd
        · have nd1 : H1 d = none := by rw [upd_ne hda] at nd; exact nd
          have e : upd (del (upd (upd (upd H1 a (exo a C none)) d (exd d (fl.zip xs).reverse)) a (exo a C (some d))) a) d (.xd (fl.zip xs).reverse) = upd H1 d (.xd (fl.zip xs).reverse) := by
            funext b
            by_cases hb : b = d
            · subst hb; rw [upd_same, upd_same]
            · rw [upd_ne hb, upd_ne hb]
              by_cases hb2 : b = a
              · subst hb2; rw [del_same, na]
              · rw [del_ne hb2, upd_ne hb2, upd_ne hb, upd_ne hb2]
          rw [e]
          have ng : G1 d = none := k1.sub.back nd1
          exact m σ _ _ C (some d) (k1.caught nd1) (st1.ex.trans (Le.new ng)) hC (.inr ⟨d, _, rfl, upd_same, (repF_rev (repF_zip (arel_reps hc.1 ar))).mono (Le.new ng)⟩)
      · rw [if_neg hc] at m; exact m.elim
theorem ps_raiM {X : Cx} {A : Act} {W : WX} {e : Expr} {pos : Pos} {cn : Str} {fl : List Str} {f : OsF} {C : Addr} (c : Cal X A.w) (tk : Takes X W) (hC : A.w.CM cn = some C) (he : PMk X e (tMkO C (spIni C fl) [] (tOs A W f))) (hl : fl.length ≤ 1000 := by decide) : PS X (.Raise (some e) none pos) (tSt A W (raiC cn fl f)) :=
  PS.imp (ps_raise c.calm tk he) fun D σ H h => rai_of hC hl h
/-! ### the own __init__ -/
section
variable {P : Program} {w : World} {K : PySem.W.Frag} {mg : Str → Option Value} {base : Heap}
theorem vis_of {N ps : List Str} {sc : Scope} (S : FnScope N ps sc) {x : Str} (h : x ∈ ps) : Vis sc x := (S.par x h).elim .inl fun z => .inr (.inl z)
theorem ini1 {qual n0 n1 f1 : Str} {st : Stmt} {fI C : Addr} {fd : FuncData} {q1 q2 q3 q4 : Pos} (F : FunQ K "__init__" qual st fI fd) (S : FnScope [n0, n1] [n0, n1] (defScope st)) (T : OexC K C) (hno : PySem.W.findIn K (.ref C) f1 = some none)
    (hst : defBody st = [.Assign [.Attribute (.Name n0 q1) f1 q2] (.Name n1 q3) q4]) (h0 : (n0 == ("__debug__" : Str)) = false := by decide) (h0' : (n0 == ("__classdict__" : Str)) = false := by decide) (h1 : (n1 == ("__debug__" : Str)) = false := by decide) (h1' : (n1 == ("__classdict__" : Str)) = false := by decide) :
    FnOk P w K mg base (L2.CX P w) 1 fI fd [n0, n1] (spIni C [f1]) := by
  refine FunD.ok F S (fun vs H Q E ⟨a, ys, e, l, _⟩ => by subst e; simpa using l) fun cdv A outer s H vs Q E _ ⟨a, ys, e, l, ea, q⟩ => ?_
  subst e
  obtain ⟨y, rfl⟩ : ∃ y, ys = [y] := by
    cases ys with
    | nil => cases l
    | cons y r => cases r with
      | nil => exact ⟨y, rfl⟩
      | cons _ _ => cases l
  rw [hst]
  refine ⟨_, pss_one (ps_ost (pe_var (i := 0) rfl (vis_of S (by simp)) h0 h0') (pe_var (i := 1) rfl (vis_of S (by simp)) h1 h1')), ?_⟩
  exact ⟨y, rfl, .ref a, rfl, a, C, rfl, T, hno, .inl ⟨ea, fun d hd hda => q d hd hda⟩⟩
theorem ini2 {qual n0 n1 n2 f1 f2 : Str} {st : Stmt} {fI C : Addr} {fd : FuncData} {q1 q2 q3 q4 p1 p2 p3 p4 : Pos} (F : FunQ K "__init__" qual st fI fd) (S : FnScope [n0, n1, n2] [n0, n1, n2] (defScope st)) (T : OexC K C) (hno : PySem.W.findIn K (.ref C) f1 = some none) (hno2 : PySem.W.findIn K (.ref C) f2 = some none)
    (hst : defBody st = [.Assign [.Attribute (.Name n0 q1) f1 q2] (.Name n1 q3) q4, .Assign [.Attribute (.Name n0 p1) f2 p2] (.Name n2 p3) p4]) (h0 : (n0 == ("__debug__" : Str)) = false := by decide) (h0' : (n0 == ("__classdict__" : Str)) = false := by decide) (h1 : (n1 == ("__debug__" : Str)) = false := by decide) (h1' : (n1 == ("__classdict__" : Str)) = false := by decide) (h2 : (n2 == ("__debug__" : Str)) = false := by decide) (h2' : (n2 == ("__classdict__" : Str)) = false := by decide) :
    FnOk P w K mg base (L2.CX P w) 1 fI fd [n0, n1, n2] (spIni C [f1, f2]) := by
  refine FunD.ok F S (fun vs H Q E ⟨a, ys, e, l, _⟩ => by subst e; simpa using l) fun cdv A outer s H vs Q E _ ⟨a, ys, e, l, ea, q⟩ => ?_
  subst e
  obtain ⟨y, z, rfl⟩ : ∃ y z, ys = [y, z] := by
    match ys, l with
    | [y, z], _ => exact ⟨y, z, rfl⟩
  rw [hst]
  refine ⟨_, pss_cons (ps_ost (pe_var (i := 0) rfl (vis_of S (by simp)) h0 h0') (pe_var (i := 1) rfl (vis_of S (by simp)) h1 h1')) (pss_one (ps_ost (pe_var (i := 0) rfl (vis_of S (by simp)) h0 h0') (pe_var (i := 2) rfl (vis_of S (by simp)) h2 h2'))), ?_⟩
  refine ⟨y, rfl, .ref a, rfl, a, C, rfl, T, hno, .inl ⟨ea, fun d hd hda => ?_⟩⟩
  refine ⟨z, rfl, .ref a, rfl, a, C, rfl, T, hno2, .inr ⟨d, [(f1, y)], upd_same, by rw [upd_ne hda, upd_same], by simp, ?_⟩⟩
  have e : upd (upd (upd H d (exd d [(f1, y)])) a (exo a C (some d))) d (exd d [(f2, z), (f1, y)]) = upd (upd H d (exd d ([f1, f2].zip [y, z]).reverse)) a (exo a C (some d)) := by
    funext b
    by_cases hb : b = d
    · subst hb; rw [upd_same, upd_ne hda, upd_same]; rfl
    · rw [upd_ne hb]
      by_cases hb2 : b = a
      · subst hb2; rw [upd_same, upd_same]
      · rw [upd_ne hb2, upd_ne hb2, upd_ne hb, upd_ne hb]
  rw [e]
  exact q d hd hda
end
/-- C(e, ..) that is raised -/
theorem pmk_M {X : Cx} {x : Str} {C fI : Addr} {k : Nat} {fd : FuncData} {ps : List Str} {fl : List Str} {e : Expr} {es : List Expr} {ta : TA} {p pos : Pos} (T : OexC X.K C) (iC : PySem.W.findIn X.K (.ref C) "__init__" = some (some (.ref fI))) (tI : PySem.W.typeIn X.K (.ref fI) = some (.type "function"))
    (F1 : FnOk X.prog X.w X.K X.mg X.base (L2.CX X.prog X.w) k fI fd ps (spIni C fl)) (hr : RoomG (k + 1) X.A) (hb : Binds X.K fd ps []) (hg : Gl X x) (hm : X.mg x = some (.ref C)) (ha : PA X (e :: es) ta)
    (hdb : (x == ("__debug__" : Str)) = false := by decide) (he : starEach (e :: es) X.env = (false, eval e X.env) :: starEach es X.env := by rfl) (hpl : (backTo pos (starEach es X.env)).any (·.1) = false := by rfl) :
    PMk X (.Call (.Name x p) (e :: es) [] pos) (tMkO C (spIni C fl) [] ta) :=
  pmk_oex T iC tI F1 hr.room hb .nil (fun _ _ _ _ _ _ _ ⟨_, _, _, _, _, _, _, _, _, _, _, _, z⟩ => z.elim) hg hm ha hdb he hpl
/-! ### what the walk leans on -/
theorem Cal.tr {X : Cx} {w : Wd} {pn : List (Addr × Obj)} {xe : Value → Shared → Prop} (c : Cal X w) : Cal (X.tr pn xe) w := ⟨c.K, c.calm, c.un, c.gs⟩
theorem xf_nil {w : Wd} {f : Str} : XfOk w [] f := fun _ h => by cases h
theorem xf_cons {w : Wd} {cs : List Str} {c f : Str} {C : Addr} (h1 : w.CM c = some C) (h2 : XfC w.K C) (h3 : PySem.W.findIn w.K (.ref C) f = some none) (r : XfOk w cs f) : XfOk w (c :: cs) f := fun x h => by
  rcases List.mem_cons.mp h with e | h
  · subst e; exact ⟨C, h1, h2, h3⟩
  · exact r x h
/-- a class as a value -/
theorem pe_clsM {X : Cx} {A : Act} {W : WX} {x : Str} {C : Addr} {pos : Pos} (hg : Gl X x) (hm : X.mg x = some (.ref C)) (hC : A.w.CM x = some C) (hd : (x == ("__debug__" : Str)) = false := by decide) : PE X (.Name x pos) (tE A W (cst (.cls x))) :=
  pe_cst (pe_glob hg hm (v := .ref C) rfl hd) fun _ => by rw [Rep]; exact ⟨C, hC, rfl⟩
theorem bt_ValueError : bootBuiltins "ValueError" = some (.type "ValueError") := by decide +kernel
theorem bt_KeyError : bootBuiltins "KeyError" = some (.type "KeyError") := by decide +kernel
theorem bt_IndexError : bootBuiltins "IndexError" = some (.type "IndexError") := by decide +kernel
theorem bt_LookupError : bootBuiltins "LookupError" = some (.type "LookupError") := by decide +kernel
theorem bt_OverflowError : bootBuiltins "OverflowError" = some (.type "OverflowError") := by decide +kernel
end M
/-! MPEW: try and raise read with continuations. -/
namespace M
open PySem L2
section
variable {r : Env} {fs : OsF} {b : SF}
def krai2 (c : Str) (fl : List Str) (r1 : Env) (Q : SR → Prop) : Option (List (Bool × Val)) → Prop
  | some as => (if lents as = 0 ∧ as.length = fl.length then Q (.ex (.exc c (fl.zip (as.map (·.2))).reverse) r1) else Q .bad)
  | none => Q .bad
def krai (c : Str) (fl : List Str) (Q : SR → Prop) : OsR → Prop
  | .ok hs r1 => krai2 c fl r1 Q (lend r1 hs)
  | .ex e r1 => Q (.ex e r1)
  | .bad => Q .bad
theorem wS_rai {c : Str} {fl : List Str} {Q : SR → Prop} : wS (raiC c fl fs) r Q = wOs fs r (krai c fl Q) := by
  unfold wS wOs raiC
  cases fs r with
  | ok hs r1 =>
    simp only [krai]
    cases lend r1 hs with
    | none => rfl
    | some as => simp only [krai2]; split <;> rfl
  | _ => rfl
def wH (hs : List Hnd) (c : Str) (fs : List (Str × Val)) (r : Env) (Q : SR → Prop) : Prop := Q (hndS hs c fs r)
def kend (nm : Option Nat) (Q : SR → Prop) (s : SR) : Prop := Q (endS nm s)
def khn (nm : Option Nat) (su : SF) (hs : List Hnd) (c : Str) (fs : List (Str × Val)) (r : Env) (Q : SR → Prop) : Option Bool → Prop
  | some true => wS su (match nm with | some i => r.set i (some (false, .exc c fs)) | none => r) (kend nm Q)
  | some false => wH hs c fs r Q
  | none => Q .bad
theorem wH_nil {c : Str} {fs : List (Str × Val)} {Q : SR → Prop} : wH [] c fs r Q = Q (.ex (.exc c fs) r) := rfl
theorem wH_cons {m : List (Str × Bool)} {nm : Option Nat} {su : SF} {hs : List Hnd} {c : Str} {fs : List (Str × Val)} {Q : SR → Prop} : wH (⟨m, nm, su⟩ :: hs) c fs r Q = khn nm su hs c fs r Q (m.lookup c) := by
  unfold wH
  rw [hndS]
  rcases m.lookup c with _ | _ | _ <;> rfl
def ktry (hs : List Hnd) (Q : SR → Prop) : SR → Prop
  | .ex (.exc c fs) r1 => wH hs c fs r1 Q
  | .ex _ _ => Q .bad
  | x => Q x
theorem wS_try {hs : List Hnd} {Q : SR → Prop} : wS (tryS b hs) r Q = wS b r (ktry hs Q) := by
  unfold wS tryS
  cases b r with
  | ex e r1 => cases e <;> rfl
  | _ => rfl
theorem ktry_ex {hs : List Hnd} {c : Str} {fs : List (Str × Val)} {Q : SR → Prop} : ktry hs Q (.ex (.exc c fs) r) = wH hs c fs r Q := rfl
theorem ktry_nx {hs : List Hnd} {Q : SR → Prop} : ktry hs Q (.nx r) = Q (.nx r) := rfl
theorem ktry_rt {hs : List Hnd} {o : Bool} {v : Val} {Q : SR → Prop} : ktry hs Q (.rt o v r) = Q (.rt o v r) := rfl
theorem khn_t {nm : Option Nat} {su : SF} {hs : List Hnd} {c : Str} {fs : List (Str × Val)} {Q : SR → Prop} : khn nm su hs c fs r Q (some true) = wS su (match nm with | some i => r.set i (some (false, .exc c fs)) | none => r) (kend nm Q) := rfl
theorem khn_f {nm : Option Nat} {su : SF} {hs : List Hnd} {c : Str} {fs : List (Str × Val)} {Q : SR → Prop} : khn nm su hs c fs r Q (some false) = wH hs c fs r Q := rfl
theorem kend_nx0 {Q : SR → Prop} : kend none Q (.nx r) = Q (.nx r) := rfl
theorem kend_nx {i : Nat} {Q : SR → Prop} : kend (some i) Q (.nx r) = Q (.nx (r.set i none)) := rfl
theorem kend_rt {nm : Option Nat} {o : Bool} {v : Val} {Q : SR → Prop} : kend nm Q (.rt o v r) = Q (.rt o v r) := rfl
def krai2_e1 := @krai2.eq_1
def krai2_e2 := @krai2.eq_2
def krai_e1 := @krai.eq_1
def krai_e2 := @krai.eq_2
def krai_e3 := @krai.eq_3
end
end M
local macro_rules
  | `(tactic| simp? only [$xs,*] $[$loc]?) => `(tactic| simp only [M.tyOf_e1, M.tyOf_e2, M.tyOf_e3, M.tyOf_e4, M.tyOf_e5, M.tyOf_e6, M.tyOf_e7, M.tyOf_e8, M.itemsOf_e1, M.itemsOf_e2, M.itemsOf_e3, M.itemsOf_e4, M.itemsOf_e5, M.Plen_e1, M.Plen_e2, M.Plen_e3, M.Plen_e4, M.Plist_e1, M.Plist_e2, M.Plist_e3, M.Ptuple_e1, M.Ptuple_e2, M.Pgt, M.Pge, M.Plt, M.Ple, M.cmpI_e1, M.Pint_e1, M.Pint_e2, M.Pneg_e1, M.Prev_e1, M.wE_cst, M.wE_var, M.wE_mv, M.wE_frz, M.wO_V, M.wO_S, M.wOs_nil, M.wOs_cons, M.wE_prim, M.wB_tst, M.wB_and, M.wB_or, M.wB_not, M.wB_yes, M.wE_andV, M.wE_orV, M.wE_notV, M.wE_ite, M.wA_nil, M.wA_cons, M.wA_star, M.wE_tup, M.wE_lst, M.wE_call, M.wS_seq, M.wS_skip, M.wS_brk, M.wS_cont, M.wS_asg, M.wS_drop, M.wS_ret, M.wS_if, M.wS_aug, M.wI_V, M.wI_R, M.wI_zip, M.wS_for, M.wE_lc, M.wP_no, M.wP_int, M.wE_slc, M.wE_chn, M.wO_Ty, M.wE_mut, M.wS_setIx, M.wE_dNew, M.wD_nil, M.wD_cons, M.wE_dsp, M.wE_lenSet, M.wS_asg2, M.wS_asgT, M.wOs_app, M.wOs_N, M.wOs_pick, M.kvar_e1, M.kvar_e2, M.kvar_e3, M.kmv_e1, M.kmv_e2, M.kfrz_e1, M.kfrz_e2, M.kfrz_e3, M.koV_e1, M.koV_e2, M.koV_e3, M.koS_e1, M.koS_e2, M.kcons2_e1, M.kcons2_e2, M.kcons2_e3, M.kcons_e1, M.kcons_e2, M.kcons_e3, M.kp2_e1, M.kp2_e2, M.kp1_e1, M.kp1_e2, M.kprim_e1, M.kprim_e2, M.kprim_e3, M.ktst_e1, M.ktst_e2, M.ktst_e3, M.ktst_e4, M.kand_e1, M.kand_e2, M.kor_e1, M.kor_e2, M.knot_e1, M.knot_e2, M.kandV_e1, M.kandV_e2, M.kandV_e3, M.kandV_e4, M.korV_e1, M.korV_e2, M.korV_e3, M.korV_e4, M.knotV_e1, M.knotV_e2, M.knotV_e3, M.kite_e1, M.kite_e2, M.kite_e3, M.kite_e4, M.kac2_e1, M.kac2_e2, M.kac2_e3, M.kac_e1, M.kac_e2, M.kac_e3, M.kstar2_e1, M.kstar2_e2, M.kstar2_e3, M.kstar1_e1, M.kstar1_e2, M.kstar_e1, M.kstar_e2, M.kstar_e3, M.ktup_e1, M.ktup_e2, M.ktup_e3, M.klst_e1, M.klst_e2, M.klst_e3, M.kback_e1, M.kback_e2, M.kback_e3, M.kc1_e1, M.kc1_e2, M.kcall_e1, M.kcall_e2, M.kcall_e3, M.kd1_e1, M.kd1_e2, M.kd2_e1, M.kd2_e2, M.kd3_e1, M.kd3_e2, M.kdef_e1, M.kdef_e2, M.kdef_e3, M.kdef_e4, M.kseq_e1, M.kseq_e2, M.kasg_e1, M.kasg_e2, M.kasg_e3, M.kdrop_e1, M.kdrop_e2, M.kdrop_e3, M.kret_e1, M.kret_e2, M.kret_e3, M.kif_e1, M.kif_e2, M.kif_e3, M.kif_e4, M.kaug2_e1, M.kaug2_e2, M.kaug2_e3, M.kaug2_e4, M.kaug_e1, M.kaug_e2, M.kitV1_e1, M.kitV1_e2, M.kitV_e1, M.kitV_e2, M.kitV_e3, M.kitR_e1, M.kitR_e2, M.kitR_e3, M.kfor_e1, M.kfor_e2, M.kfor_e3, M.kT_e1, M.kT_e2, M.kTurn_e1, M.kTurn_e2, M.kTurn_e3, M.kTurn_e4, M.kTurnW_e1, M.kTurnW_e2, M.kTurnW_e3, M.kTurnW_e4, M.klc2_e1, M.klc2_e2, M.klc_e1, M.klc_e2, M.klc_e3, M.kU2_e1, M.kU2_e2, M.kU1_e1, M.kU1_e2, M.kU1_e3, M.kU0_e1, M.kU0_e2, M.kpInt_e1, M.kpInt_e2, M.kpInt_e3, M.kpInt_e4, M.ksl4_e1, M.ksl4_e2, M.ksl3_e1, M.ksl3_e2, M.ksl3_e3, M.ksl2_e1, M.ksl2_e2, M.ksl2_e3, M.ksl1_e1, M.ksl1_e2, M.ksl1_e3, M.kch5_e1, M.kch5_e2, M.kch4_e1, M.kch4_e2, M.kch3b_e1, M.kch3b_e2, M.kch3b_e3, M.kch3_e1, M.kch3_e2, M.kch3_e3, M.kch2_e1, M.kch2_e2, M.kch1_e1, M.kch1_e2, M.kch1_e3, M.kch0_e1, M.kch0_e2, M.kch0_e3, M.koTy2_e1, M.koTy2_e2, M.koTy_e1, M.koTy_e2, M.koTy_e3, M.kmu3_e1, M.kmu3_e2, M.kmu2_e1, M.kmu2_e2, M.kmu1_e1, M.kmu1_e2, M.kmu1_e3, M.kmu_e1, M.kmu_e2, M.ksx4_e1, M.ksx4_e2, M.ksx3_e1, M.ksx3_e2, M.ksx2_e1, M.ksx2_e2, M.ksx2_e3, M.ksx1_e1, M.ksx1_e2, M.ksx_e1, M.ksx_e2, M.ksx_e3, M.kdp3_e1, M.kdp3_e2, M.kdp2_e1, M.kdp2_e2, M.kdp2_e3, M.kdp1_e1, M.kdp1_e2, M.kdp1_e3, M.kds2_e1, M.kds2_e2, M.kds_e1, M.kds_e2, M.kds_e3, M.kls2_e1, M.kls2_e2, M.kls_e1, M.kls_e2, M.kls_e3, M.kls_e4, M.kas2_e1, M.kas2_e2, M.kas2_e3, M.kas2_e4, M.kasT2_e1, M.kasT2_e2, M.kasT_e1, M.kasT_e2, M.kasT_e3, M.kapp2_e1, M.kapp2_e2, M.kapp2_e3, M.kapp_e1, M.kapp_e2, M.kapp_e3, M.kN_e1, M.kN_e2, M.kN_e3, M.kpick2_e1, M.kpick2_e2, M.kpick_e1, M.kpick_e2, M.kpick_e3, M.getAll, M.Hd.get, M.ownIx, M.outOf, M.lend, M.lentIx, M.back, M.lents, M.tgN, M.tgT, M.tgCons, M.tgNil, M.wipeR, M.restR, List.getElem?_cons_zero, List.getElem?_cons_succ, List.set_cons_zero, List.set_cons_succ, List.map_cons, List.map_nil, List.replicate_succ, List.replicate_zero, List.length_cons, List.length_nil, List.nil_append, List.cons_append, List.append_nil, List.filter_cons, List.filter_nil, Nat.reduceAdd, Nat.reduceSub, Nat.reduceLeDiff, Nat.reduceEqDiff, ↓reduceIte, if_true, if_false, Bool.false_eq_true, Option.map_some, Option.map_none, Option.getD_some, Option.getD_none, and_true, true_and, and_self, reduceCtorEq, Option.some.injEq, Bool.not_true, Bool.not_false, Nat.le_refl, M.wO_Cl, M.wE_callM, M.wE_noX, M.wE_mkC, M.wE_mkD, M.wS_setFld, M.wS_never, M.wI_I, M.wI_E, M.wA_StD, M.wE_fstr, M.wF_nil, M.wF_cons, M.wE_dst, M.wE_dc, M.wI_Vs, M.wE_dc2, M.koCl1_e1, M.koCl1_e2, M.koCl_e1, M.koCl_e2, M.koCl_e3, M.kcm2_e1, M.kcm2_e2, M.kcm1_e1, M.kcm1_e2, M.kcm_e1, M.kcm_e2, M.kcm_e3, M.knoX_e1, M.knoX_e2, M.knoX_e3, M.kmk3_e1, M.kmk3_e2, M.kmk2_e1, M.kmk2_e2, M.kmk2_e3, M.kmk1_e1, M.kmk1_e2, M.kmk_e1, M.kmk_e2, M.kmk_e3, M.kmd1_e1, M.kmd1_e2, M.kmd_e1, M.kmd_e2, M.ksf1_e1, M.ksf1_e2, M.ksf_e1, M.ksf_e2, M.ksf_e3, M.kitI_e1, M.kitI_e2, M.kitI_e3, M.kitI_e4, M.kitE_e1, M.kitE_e2, M.kitE_e3, M.kitE_e4, M.kitE_e5, M.kasD2_e1, M.kasD2_e2, M.kasD2_e3, M.kasD_e1, M.kasD_e2, M.kasD_e3, M.kasD_e4, M.kF_e1, M.kF_e2, M.kF_e3, M.kF_e4, M.kdst4_e1, M.kdst4_e2, M.kdst3_e1, M.kdst3_e2, M.kdst3_e3, M.kdst2_e1, M.kdst2_e2, M.kdst2_e3, M.kdst1_e1, M.kdst1_e2, M.kdst1_e3, M.kdst1_e4, M.kdc2_e1, M.kdc2_e2, M.kdc_e1, M.kdc_e2, M.kdc_e3, M.kitVs_e1, M.kitVs_e2, M.kitVs_e3, M.kitVs_e4, M.kdcc_e1, M.kdcc_e2, M.kdcc_e3, M.lk1, M.pairsOf, M.wS_rai, M.krai_e1, M.krai_e2, M.krai_e3, M.krai2_e1, M.krai2_e2, M.wS_try, M.ktry_ex, M.ktry_nx, M.ktry_rt, M.wH_nil, M.wH_cons, M.khn_t, M.khn_f, M.kend_nx0, M.kend_nx, M.kend_rt, $xs,*] $[$loc]?)
  | `(tactic| simp? [$xs,*] $[$loc]?) => `(tactic| simp only [M.tyOf_e1, M.tyOf_e2, M.tyOf_e3, M.tyOf_e4, M.tyOf_e5, M.tyOf_e6, M.tyOf_e7, M.tyOf_e8, M.itemsOf_e1, M.itemsOf_e2, M.itemsOf_e3, M.itemsOf_e4, M.itemsOf_e5, M.Plen_e1, M.Plen_e2, M.Plen_e3, M.Plen_e4, M.Plist_e1, M.Plist_e2, M.Plist_e3, M.Ptuple_e1, M.Ptuple_e2, M.Pgt, M.Pge, M.Plt, M.Ple, M.cmpI_e1, M.Pint_e1, M.Pint_e2, M.Pneg_e1, M.Prev_e1, M.wE_cst, M.wE_var, M.wE_mv, M.wE_frz, M.wO_V, M.wO_S, M.wOs_nil, M.wOs_cons, M.wE_prim, M.wB_tst, M.wB_and, M.wB_or, M.wB_not, M.wB_yes, M.wE_andV, M.wE_orV, M.wE_notV, M.wE_ite, M.wA_nil, M.wA_cons, M.wA_star, M.wE_tup, M.wE_lst, M.wE_call, M.wS_seq, M.wS_skip, M.wS_brk, M.wS_cont, M.wS_asg, M.wS_drop, M.wS_ret, M.wS_if, M.wS_aug, M.wI_V, M.wI_R, M.wI_zip, M.wS_for, M.wE_lc, M.wP_no, M.wP_int, M.wE_slc, M.wE_chn, M.wO_Ty, M.wE_mut, M.wS_setIx, M.wE_dNew, M.wD_nil, M.wD_cons, M.wE_dsp, M.wE_lenSet, M.wS_asg2, M.wS_asgT, M.wOs_app, M.wOs_N, M.wOs_pick, M.kvar_e1, M.kvar_e2, M.kvar_e3, M.kmv_e1, M.kmv_e2, M.kfrz_e1, M.kfrz_e2, M.kfrz_e3, M.koV_e1, M.koV_e2, M.koV_e3, M.koS_e1, M.koS_e2, M.kcons2_e1, M.kcons2_e2, M.kcons2_e3, M.kcons_e1, M.kcons_e2, M.kcons_e3, M.kp2_e1, M.kp2_e2, M.kp1_e1, M.kp1_e2, M.kprim_e1, M.kprim_e2, M.kprim_e3, M.ktst_e1, M.ktst_e2, M.ktst_e3, M.ktst_e4, M.kand_e1, M.kand_e2, M.kor_e1, M.kor_e2, M.knot_e1, M.knot_e2, M.kandV_e1, M.kandV_e2, M.kandV_e3, M.kandV_e4, M.korV_e1, M.korV_e2, M.korV_e3, M.korV_e4, M.knotV_e1, M.knotV_e2, M.knotV_e3, M.kite_e1, M.kite_e2, M.kite_e3, M.kite_e4, M.kac2_e1, M.kac2_e2, M.kac2_e3, M.kac_e1, M.kac_e2, M.kac_e3, M.kstar2_e1, M.kstar2_e2, M.kstar2_e3, M.kstar1_e1, M.kstar1_e2, M.kstar_e1, M.kstar_e2, M.kstar_e3, M.ktup_e1, M.ktup_e2, M.ktup_e3, M.klst_e1, M.klst_e2, M.klst_e3, M.kback_e1, M.kback_e2, M.kback_e3, M.kc1_e1, M.kc1_e2, M.kcall_e1, M.kcall_e2, M.kcall_e3, M.kd1_e1, M.kd1_e2, M.kd2_e1, M.kd2_e2, M.kd3_e1, M.kd3_e2, M.kdef_e1, M.kdef_e2, M.kdef_e3, M.kdef_e4, M.kasg_e1, M.kasg_e2, M.kasg_e3, M.kdrop_e1, M.kdrop_e2, M.kdrop_e3, M.kret_e1, M.kret_e2, M.kret_e3, M.kif_e1, M.kif_e2, M.kif_e3, M.kif_e4, M.kaug2_e1, M.kaug2_e2, M.kaug2_e3, M.kaug2_e4, M.kaug_e1, M.kaug_e2, M.kitV1_e1, M.kitV1_e2, M.kitV_e1, M.kitV_e2, M.kitV_e3, M.kitR_e1, M.kitR_e2, M.kitR_e3, M.kfor_e1, M.kfor_e2, M.kfor_e3, M.kT_e1, M.kT_e2, M.kTurn_e1, M.kTurn_e2, M.kTurn_e3, M.kTurn_e4, M.kTurnW_e1, M.kTurnW_e2, M.kTurnW_e3, M.kTurnW_e4, M.klc2_e1, M.klc2_e2, M.klc_e1, M.klc_e2, M.klc_e3, M.kU2_e1, M.kU2_e2, M.kU1_e1, M.kU1_e2, M.kU1_e3, M.kU0_e1, M.kU0_e2, M.kpInt_e1, M.kpInt_e2, M.kpInt_e3, M.kpInt_e4, M.ksl4_e1, M.ksl4_e2, M.ksl3_e1, M.ksl3_e2, M.ksl3_e3, M.ksl2_e1, M.ksl2_e2, M.ksl2_e3, M.ksl1_e1, M.ksl1_e2, M.ksl1_e3, M.kch5_e1, M.kch5_e2, M.kch4_e1, M.kch4_e2, M.kch3b_e1, M.kch3b_e2, M.kch3b_e3, M.kch3_e1, M.kch3_e2, M.kch3_e3, M.kch2_e1, M.kch2_e2, M.kch1_e1, M.kch1_e2, M.kch1_e3, M.kch0_e1, M.kch0_e2, M.kch0_e3, M.koTy2_e1, M.koTy2_e2, M.koTy_e1, M.koTy_e2, M.koTy_e3, M.kmu3_e1, M.kmu3_e2, M.kmu2_e1, M.kmu2_e2, M.kmu1_e1, M.kmu1_e2, M.kmu1_e3, M.kmu_e1, M.kmu_e2, M.ksx4_e1, M.ksx4_e2, M.ksx3_e1, M.ksx3_e2, M.ksx2_e1, M.ksx2_e2, M.ksx2_e3, M.ksx1_e1, M.ksx1_e2, M.ksx_e1, M.ksx_e2, M.ksx_e3, M.kdp3_e1, M.kdp3_e2, M.kdp2_e1, M.kdp2_e2, M.kdp2_e3, M.kdp1_e1, M.kdp1_e2, M.kdp1_e3, M.kds2_e1, M.kds2_e2, M.kds_e1, M.kds_e2, M.kds_e3, M.kls2_e1, M.kls2_e2, M.kls_e1, M.kls_e2, M.kls_e3, M.kls_e4, M.kas2_e1, M.kas2_e2, M.kas2_e3, M.kas2_e4, M.kasT2_e1, M.kasT2_e2, M.kasT_e1, M.kasT_e2, M.kasT_e3, M.kapp2_e1, M.kapp2_e2, M.kapp2_e3, M.kapp_e1, M.kapp_e2, M.kapp_e3, M.kN_e1, M.kN_e2, M.kN_e3, M.kpick2_e1, M.kpick2_e2, M.kpick_e1, M.kpick_e2, M.kpick_e3, M.getAll, M.Hd.get, M.ownIx, M.outOf, M.lend, M.lentIx, M.back, M.lents, M.tgN, M.tgT, M.tgCons, M.tgNil, M.wipeR, M.restR, List.getElem?_cons_zero, List.getElem?_cons_succ, List.set_cons_zero, List.set_cons_succ, List.map_cons, List.map_nil, List.replicate_succ, List.replicate_zero, List.length_cons, List.length_nil, List.nil_append, List.cons_append, List.append_nil, List.filter_cons, List.filter_nil, Nat.reduceAdd, Nat.reduceSub, Nat.reduceLeDiff, Nat.reduceEqDiff, ↓reduceIte, if_true, if_false, Bool.false_eq_true, Option.map_some, Option.map_none, Option.getD_some, Option.getD_none, and_true, true_and, and_self, reduceCtorEq, Option.some.injEq, Bool.not_true, Bool.not_false, Nat.le_refl, M.wO_Cl, M.wE_callM, M.wE_noX, M.wE_mkC, M.wE_mkD, M.wS_setFld, M.wS_never, M.wI_I, M.wI_E, M.wA_StD, M.wE_fstr, M.wF_nil, M.wF_cons, M.wE_dst, M.wE_dc, M.wI_Vs, M.wE_dc2, M.koCl1_e1, M.koCl1_e2, M.koCl_e1, M.koCl_e2, M.koCl_e3, M.kcm2_e1, M.kcm2_e2, M.kcm1_e1, M.kcm1_e2, M.kcm_e1, M.kcm_e2, M.kcm_e3, M.knoX_e1, M.knoX_e2, M.knoX_e3, M.kmk3_e1, M.kmk3_e2, M.kmk2_e1, M.kmk2_e2, M.kmk2_e3, M.kmk1_e1, M.kmk1_e2, M.kmk_e1, M.kmk_e2, M.kmk_e3, M.kmd1_e1, M.kmd1_e2, M.kmd_e1, M.kmd_e2, M.ksf1_e1, M.ksf1_e2, M.ksf_e1, M.ksf_e2, M.ksf_e3, M.kitI_e1, M.kitI_e2, M.kitI_e3, M.kitI_e4, M.kitE_e1, M.kitE_e2, M.kitE_e3, M.kitE_e4, M.kitE_e5, M.kasD2_e1, M.kasD2_e2, M.kasD2_e3, M.kasD_e1, M.kasD_e2, M.kasD_e3, M.kasD_e4, M.kF_e1, M.kF_e2, M.kF_e3, M.kF_e4, M.kdst4_e1, M.kdst4_e2, M.kdst3_e1, M.kdst3_e2, M.kdst3_e3, M.kdst2_e1, M.kdst2_e2, M.kdst2_e3, M.kdst1_e1, M.kdst1_e2, M.kdst1_e3, M.kdst1_e4, M.kdc2_e1, M.kdc2_e2, M.kdc_e1, M.kdc_e2, M.kdc_e3, M.kitVs_e1, M.kitVs_e2, M.kitVs_e3, M.kitVs_e4, M.kdcc_e1, M.kdcc_e2, M.kdcc_e3, M.lk1, M.pairsOf, M.wS_rai, M.krai_e1, M.krai_e2, M.krai_e3, M.krai2_e1, M.krai2_e2, M.wS_try, M.ktry_ex, M.ktry_nx, M.ktry_rt, M.wH_nil, M.wH_cons, M.khn_t, M.khn_f, M.kend_nx0, M.kend_nx, M.kend_rt, $xs,*] $[$loc]?)
namespace BB
open PySem L2 M 
def b__law_pen : SF := (ret (dsp [((cst (.str "cells")), (slc (oS 0) pNo (pInt (cst (.int 63))))), ((cst (.str "at")), (cst (.int 0))), ((cst (.str "rest")), (cst (.int 0)))]))
def g__law_pen : GF := runDef [0] 1 1 b__law_pen
def b__law_draw : SF := (seq (ifS (tst (bin Pgt (oV (bin Pix (oS 0) (oV (cst (.str "rest"))))) (oV (cst (.int 0))))) (seq (asg 5 (bin Pmod (oV (bin Pix (oS 0) (oV (cst (.str "rest"))))) (oS 1)))
    (seq (setIx 0 (cst (.str "rest")) (bin Pdiv (oV (bin Pix (oS 0) (oV (cst (.str "rest"))))) (oS 1)))
    (ret (mv 5)))) skip)
    (seq (asg 2 (bin Pix (oS 0) (oV (cst (.str "at")))))
    (seq (setIx 0 (cst (.str "at")) (bin Padd (oS 2) (oV (cst (.int 1)))))
    (seq (asg 3 (frz (bin Padd (oV (bin Pmul (oV (cst (.int 40361))) (oS 2))) (oV (cst (.int 103))))))
    (seq (ifS (tst (bin PneX (oV (bin Pix (oS 0) (oV (cst (.str "cells"))))) (oV (lst asNil)))) (asg 3 (bin Pix (oV (bin Pix (oS 0) (oV (cst (.str "cells"))))) (oV (bin Pmod (oS 2) (oV (prim Plen (osCons (oV (bin Pix (oS 0) (oV (cst (.str "cells"))))) osNil))))))) skip)
    (seq (ifS (andB (tst (bin Plt (oS 2) (oV (prim Plen (osCons (oV (bin Pix (oS 0) (oV (cst (.str "cells"))))) osNil))))) (tst (bin Pge (oV (prim Pabs (osCons (oS 3) osNil))) (oV (bin Ppow (oV (cst (.int 10))) (oV (cst (.int 18)))))))) (seq (asg 6 (frz (bin Padd (oV (bin Pmul (oV (cst (.int 2))) (oV (prim Pabs (osCons (oS 3) osNil))))) (oV (prim Pint (osCons (oV (bin Plt (oS 3) (oV (cst (.int 0))))) osNil))))))
    (seq (setIx 0 (cst (.str "rest")) (bin Pdiv (oS 6) (oS 1)))
    (ret (bin Pmod (oS 6) (oS 1))))) skip)
    (seq (asg 4 (frz (bin Pmod (oV (bin Ppow (oV (bin Padd (oV (bin Padd (oV (bin Pmod (oS 3) (oV (cst (.int 2147483579))))) (oV (bin Pmul (oV (cst (.int 50111))) (oS 2))))) (oV (cst (.int 17))))) (oV (cst (.int 5))))) (oV (cst (.int 2147483647))))))
    (seq (asg 4 (frz (bin Pmod (oV (bin Ppow (oV (bin Padd (oV (bin Pmul (oS 4) (oV (bin Padd (oS 2) (oV (cst (.int 60013))))))) (oV (bin Pmul (oV (bin Pmul (oV (cst (.int 80021))) (oS 2))) (oS 2))))) (oV (cst (.int 3))))) (oV (cst (.int 2147483629))))))
    (ret (bin Pmod (oV (bin Pdiv (oS 4) (oV (cst (.int 64))))) (oS 1)))))))))))
def g__law_draw : GF := runDef [0, 1] 2 7 b__law_draw
def L1__law_names : SF := (seq (asg2 8 9 (asCons (bin Pix (oS 2) (oV (bin Pmod (oV (bin Padd (oS 7) (oS 5))) (oV (cst (.int 26)))))) (asCons (bin Pix (oS 2) (oV (bin Pdiv (oS 5) (oV (cst (.int 26)))))) asNil)))
    (drop (mutE "list" 4 Mappend (asCons (ite (orB (tst (bin Pgt (oS 6) (oV (cst (.int 0))))) (tst (bin Pgt (oS 5) (oV (cst (.int 25)))))) (bin Padd (oV (bin Padd (oS 3) (oS 8))) (oS 9)) (var 8)) asNil))))
def b__law_names : SF := (seq (asg 2 (cst (.str "abcdefghijklmnopqrstuvwxyz")))
    (seq (asg2 6 7 (asCons (callG 2 g__law_draw (osCons (oS 0) (osCons (oV (cst (.int 3))) osNil))) (asCons (callG 2 g__law_draw (osCons (oS 0) (osCons (oV (cst (.int 26))) osNil))) asNil)))
    (seq (asg 3 (bin Pix (oV (lst (asCons (cst (.str "")) (asCons (cst (.str "")) (asCons (cst (.str "zzzzzz")) asNil))))) (oS 6)))
    (seq (asg 4 (lst asNil))
    (seq (forS (itR rng1 (asCons (var 1) asNil)) (tgN 5) L1__law_names)
    (ret (mv 4)))))))
def g__law_names : GF := runDef [0, 1] 2 10 b__law_names
def E1__law_shuffled : EF := (mutE "list" 2 MpopAt (asCons (callG 2 g__law_draw (osCons (oS 0) (osCons (oV (frz (prim Plen (osCons (oS 2) osNil)))) osNil))) asNil))
def b__law_shuffled : SF := (seq (asg 2 (prim Plist (osCons (oS 1) osNil)))
    (ret (lc (itR rng1 (asCons (prim Plen (osCons (oS 2) osNil)) asNil)) (tgN 3) yesB E1__law_shuffled [3])))
def g__law_shuffled : GF := runDef [0, 1] 2 4 b__law_shuffled
end BB
namespace BB
open PySem L2 M 
/-! ### the plain law -/
abbrev pen (cs : List Int) (t r : Int) : Val := .dct false [(.str "cells", .lst (cs.map .int)), (.str "at", .int t), (.str "rest", .int r)]
theorem pn0 (cs : List Int) (t r : Int) : Pix [pen cs t r, .str "cells"] = some (false, .lst (cs.map .int)) := rfl
theorem pn1 (cs : List Int) (t r : Int) : Pix [pen cs t r, .str "at"] = some (false, .int t) := rfl
theorem pn2 (cs : List Int) (t r : Int) : Pix [pen cs t r, .str "rest"] = some (false, .int r) := rfl
theorem pu1 (cs : List Int) (t r e : Int) : putIx (pen cs t r) (.str "at") (.int e) = some (pen cs e r) := rfl
theorem pu2 (cs : List Int) (t r e : Int) : putIx (pen cs t r) (.str "rest") (.int e) = some (pen cs t e) := rfl
theorem pneX_nil (cs : List Int) : PneX [.lst (cs.map .int), .lst []] = some (false, .bl (decide (cs ≠ []))) := by
  have := pne_nil cs
  simp [PneX, orP, PneS, this]
def mixed (c t : Int) : Int := ((c % 2147483579 + 50111 * t + 17) ^ 5 % 2147483647 * (t + 60013) + 80021 * t * t) ^ 3 % 2147483629
def cell (cs : List Int) (t : Int) : Option Int := if cs = [] then some (40361 * t + 103) else match Pix [.lst (cs.map .int), .int (t % (cs.length : Int))] with
  | some (false, .int c) => some c
  | _ => none
theorem cell_some (cs : List Int) (t : Int) (ht : 0 ≤ t) : ∃ c, cell cs t = some c := by
  unfold cell
  by_cases h : cs = []
  · exact ⟨_, if_pos h⟩
  · obtain ⟨c, e⟩ := ix_mod cs t h ht
    exact ⟨c, by rw [if_neg h, e]⟩
theorem draw_rest (cs : List Int) (t r n : Int) (hr : 0 < r) (h0 : 0 < n) (hn : n < 1073741824) :
    g__law_draw [(true, pen cs t r), (false, .int n)] = .ok false (.int (r % n)) (some (true, pen cs t (r / n))) := by
  have hns : smallI 1073741823 n = true := small_ok (by omega) (by omega)
  have h64 : smallI 1073741823 64 = true := rfl
  simp [g__law_draw, b__law_draw, M.dNew, M.dsp, M.dspL, M.putAll, M.asg2, M.mutE, M.tup, M.runDef, M.seq, M.skip, M.ifS, M.asg, M.setIx, M.ret, M.drop, M.tst, M.bin, M.prim, M.osCons, M.osNil, M.oV, M.oS, M.cst, M.var, M.mv, M.frz, M.getAll, M.Hd.get, M.ownIx, M.outOf, M.lst, M.tup, M.asCons, M.asNil, M.andB, M.orB, M.notB, M.callG, M.lend, M.lentIx, M.back, M.lents, M.tgN, M.itV, M.itR, M.forS, M.slc, M.pNo, M.pInt, List.getElem?_cons_zero, List.getElem?_cons_succ, List.set_cons_zero, List.set_cons_succ, List.map_cons, List.map_nil, List.replicate_succ, List.replicate_zero, List.length_cons, List.length_nil, List.nil_append, List.cons_append, List.append_nil, Nat.reduceAdd, Nat.reduceSub, pn2, pu2, Pgt, cmpI, hr, Pmod, h0, hns, h64, Pdiv]
theorem draw_small (cs : List Int) (t n c : Int) (ht : 0 ≤ t) (ht2 : t < 1000000) (h0 : 0 < n) (hn : n < 1073741824) (hc : cell cs t = some c) (hb : ¬ (t < cs.length ∧ 10 ^ 18 ≤ (if c < 0 then -c else c))) :
    g__law_draw [(true, pen cs t 0), (false, .int n)] = .ok false (.int (mixed c t / 64 % n)) (some (true, pen cs (t + 1) 0)) := by
  have hns : smallI 1073741823 n = true := small_ok (by omega) (by omega)
  have h64 : smallI 1073741823 64 = true := rfl
  have m0 : 0 ≤ c % 2147483579 := Int.emod_nonneg _ (by decide)
  have m1 : c % 2147483579 < 2147483579 := Int.emod_lt_of_pos _ (by decide)
  have p1 : (c % 2147483579 + 50111 * t + 17).natAbs < 2 ^ 64 := by omega
  obtain ⟨z, hz⟩ : ∃ z, z = (c % 2147483579 + 50111 * t + 17) ^ 5 % 2147483647 := ⟨_, rfl⟩
  have z0 : 0 ≤ z := by rw [hz]; exact Int.emod_nonneg _ (by decide)
  have z1 : z < 2147483647 := by rw [hz]; exact Int.emod_lt_of_pos _ (by decide)
  have q1 : z * (t + 60013) ≤ 2147483647 * 1060013 := Int.mul_le_mul (by omega) (by omega) (by omega) (by decide)
  have q0 : 0 ≤ z * (t + 60013) := Int.mul_nonneg z0 (by omega)
  have q2 : 80021 * t * t ≤ 80021 * 1000000 * 1000000 := Int.mul_le_mul (by omega) (by omega) ht (by decide)
  have q3 : 0 ≤ 80021 * t * t := Int.mul_nonneg (by omega) ht
  have p2 : (z * (t + 60013) + 80021 * t * t).natAbs < 2 ^ 64 := by omega
  have k1 : mulOk 40361 t = true := mul_okL (by decide) (by decide)
  have k2 : mulOk 50111 t = true := mul_okL (by decide) (by decide)
  have k3 : mulOk z (t + 60013) = true := mul_okL z0 (by omega)
  have k4 : mulOk 80021 t = true := mul_okL (by decide) (by decide)
  have k5 : mulOk (80021 * t) t = true := mul_ok ht (by omega)
  by_cases h : cs = []
  · have hc' : 40361 * t + 103 = c := by simpa [cell, h] using hc
    have hl : ¬ t < (cs.length : Int) := by rw [h]; simp; omega
    have hpn : PneX [.lst (cs.map .int), .lst []] = some (false, .bl false) := by rw [pneX_nil]; simp [h]
    simp [g__law_draw, b__law_draw, M.dNew, M.dsp, M.dspL, M.putAll, M.asg2, M.mutE, M.tup, M.runDef, M.seq, M.skip, M.ifS, M.asg, M.setIx, M.ret, M.drop, M.tst, M.bin, M.prim, M.osCons, M.osNil, M.oV, M.oS, M.cst, M.var, M.mv, M.frz, M.getAll, M.Hd.get, M.ownIx, M.outOf, M.lst, M.tup, M.asCons, M.asNil, M.andB, M.orB, M.notB, M.callG, M.lend, M.lentIx, M.back, M.lents, M.tgN, M.itV, M.itR, M.forS, M.slc, M.pNo, M.pInt, List.getElem?_cons_zero, List.getElem?_cons_succ, List.set_cons_zero, List.set_cons_succ, List.map_cons, List.map_nil, List.replicate_succ, List.replicate_zero, List.length_cons, List.length_nil, List.nil_append, List.cons_append, List.append_nil, Nat.reduceAdd, Nat.reduceSub, pn0, pn1, pn2, pu1, Pgt, Pge, Plt, cmpI, Pmod, h0, hns, h64, Pdiv, Padd, Pmul, Ppow, Pabs, Pint, Plen, hpn, hl, k1, k2, k4, k5, hc', p1, p2, k3, ← hz, mixed]
  · have hlN : 0 < cs.length := List.length_pos_iff.mpr h
    have hpn : PneX [.lst (cs.map .int), .lst []] = some (false, .bl true) := by rw [pneX_nil]; simp [h]
    have hix : Pix [.lst (cs.map .int), .int (t % (cs.length : Int))] = some (false, .int c) := by
      obtain ⟨c', e⟩ := ix_mod cs t h ht
      unfold cell at hc
      rw [if_neg h, e] at hc
      cases hc
      exact e
    by_cases hl2 : t < (cs.length : Int)
    · have hb' : ¬ (1000000000000000000 : Int) ≤ (if c < 0 then -c else c) := fun z => hb ⟨hl2, z⟩
      simp [g__law_draw, b__law_draw, M.dNew, M.dsp, M.dspL, M.putAll, M.asg2, M.mutE, M.tup, M.runDef, M.seq, M.skip, M.ifS, M.asg, M.setIx, M.ret, M.drop, M.tst, M.bin, M.prim, M.osCons, M.osNil, M.oV, M.oS, M.cst, M.var, M.mv, M.frz, M.getAll, M.Hd.get, M.ownIx, M.outOf, M.lst, M.tup, M.asCons, M.asNil, M.andB, M.orB, M.notB, M.callG, M.lend, M.lentIx, M.back, M.lents, M.tgN, M.itV, M.itR, M.forS, M.slc, M.pNo, M.pInt, List.getElem?_cons_zero, List.getElem?_cons_succ, List.set_cons_zero, List.set_cons_succ, List.map_cons, List.map_nil, List.replicate_succ, List.replicate_zero, List.length_cons, List.length_nil, List.nil_append, List.cons_append, List.append_nil, Nat.reduceAdd, Nat.reduceSub, pn0, pn1, pn2, pu1, Pgt, Pge, Plt, cmpI, Pmod, h0, hns, h64, Pdiv, Padd, Pmul, Ppow, Pabs, Pint, Plen, hpn, hix, hlN, hl2, hb', k1, k2, k4, k5, p1, p2, k3, ← hz, mixed]
    · simp [g__law_draw, b__law_draw, M.dNew, M.dsp, M.dspL, M.putAll, M.asg2, M.mutE, M.tup, M.runDef, M.seq, M.skip, M.ifS, M.asg, M.setIx, M.ret, M.drop, M.tst, M.bin, M.prim, M.osCons, M.osNil, M.oV, M.oS, M.cst, M.var, M.mv, M.frz, M.getAll, M.Hd.get, M.ownIx, M.outOf, M.lst, M.tup, M.asCons, M.asNil, M.andB, M.orB, M.notB, M.callG, M.lend, M.lentIx, M.back, M.lents, M.tgN, M.itV, M.itR, M.forS, M.slc, M.pNo, M.pInt, List.getElem?_cons_zero, List.getElem?_cons_succ, List.set_cons_zero, List.set_cons_succ, List.map_cons, List.map_nil, List.replicate_succ, List.replicate_zero, List.length_cons, List.length_nil, List.nil_append, List.cons_append, List.append_nil, Nat.reduceAdd, Nat.reduceSub, pn0, pn1, pn2, pu1, Pgt, Pge, Plt, cmpI, Pmod, h0, hns, h64, Pdiv, Padd, Pmul, Ppow, Pabs, Pint, Plen, hpn, hix, hlN, hl2, k1, k2, k4, k5, p1, p2, k3, ← hz, mixed]
theorem draw_great (cs : List Int) (t n c : Int) (ht : 0 ≤ t) (ht2 : t < 1000000) (h0 : 0 < n) (hn : n < 1073741824) (hc : cell cs t = some c) (hb : t < cs.length ∧ 10 ^ 18 ≤ (if c < 0 then -c else c)) :
    g__law_draw [(true, pen cs t 0), (false, .int n)] = .ok false (.int ((2 * (if c < 0 then -c else c) + (if c < 0 then 1 else 0)) % n)) (some (true, pen cs (t + 1) ((2 * (if c < 0 then -c else c) + (if c < 0 then 1 else 0)) / n))) := by
  have hns : smallI 1073741823 n = true := small_ok (by omega) (by omega)
  have h64 : smallI 1073741823 64 = true := rfl
  have k1 : mulOk 40361 t = true := mul_okL (by decide) (by decide)
  have k2 : ∀ j, mulOk 2 j = true := fun j => mul_okL (by decide) (by decide)
  have h : cs ≠ [] := fun z => by rw [z] at hb; simp at hb; omega
  have hlN : 0 < cs.length := List.length_pos_iff.mpr h
  have hpn : PneX [.lst (cs.map .int), .lst []] = some (false, .bl true) := by rw [pneX_nil]; simp [h]
  have hix : Pix [.lst (cs.map .int), .int (t % (cs.length : Int))] = some (false, .int c) := by
    obtain ⟨c', e⟩ := ix_mod cs t h ht
    unfold cell at hc
    rw [if_neg h, e] at hc
    cases hc
    exact e
  have hl2 := hb.1
  have hb' : (1000000000000000000 : Int) ≤ (if c < 0 then -c else c) := hb.2
  simp [g__law_draw, b__law_draw, M.dNew, M.dsp, M.dspL, M.putAll, M.asg2, M.mutE, M.tup, M.runDef, M.seq, M.skip, M.ifS, M.asg, M.setIx, M.ret, M.drop, M.tst, M.bin, M.prim, M.osCons, M.osNil, M.oV, M.oS, M.cst, M.var, M.mv, M.frz, M.getAll, M.Hd.get, M.ownIx, M.outOf, M.lst, M.tup, M.asCons, M.asNil, M.andB, M.orB, M.notB, M.callG, M.lend, M.lentIx, M.back, M.lents, M.tgN, M.itV, M.itR, M.forS, M.slc, M.pNo, M.pInt, List.getElem?_cons_zero, List.getElem?_cons_succ, List.set_cons_zero, List.set_cons_succ, List.map_cons, List.map_nil, List.replicate_succ, List.replicate_zero, List.length_cons, List.length_nil, List.nil_append, List.cons_append, List.append_nil, Nat.reduceAdd, Nat.reduceSub, pn0, pn1, pn2, pu1, pu2, Pgt, Pge, Plt, cmpI, Pmod, h0, hns, h64, Pdiv, Padd, Pmul, Ppow, Pabs, Pint, Plen, hpn, hix, hlN, hl2, hb', k1, k2]
/-- a drawn number, the pen behind it -/
theorem draw (cs : List Int) (t r n : Int) (ht : 0 ≤ t) (ht2 : t < 1000000) (hr : 0 ≤ r) (h0 : 0 < n) (hn : n < 1073741824) :
    ∃ d t' r', g__law_draw [(true, pen cs t r), (false, .int n)] = .ok false (.int d) (some (true, pen cs t' r')) ∧ 0 ≤ d ∧ d < n ∧ 0 ≤ t' ∧ t' ≤ t + 1 ∧ 0 ≤ r' := by
  have hns : smallI 1073741823 n = true := small_ok (by omega) (by omega)
  have h64 : smallI 1073741823 64 = true := rfl
  by_cases hz : 0 < r
  · exact ⟨_, _, _, draw_rest cs t r n hz h0 hn, Int.emod_nonneg _ (by omega), Int.emod_lt_of_pos _ h0, ht, by omega, Int.ediv_nonneg hr (by omega)⟩
  · have e : r = 0 := by omega
    subst e
    obtain ⟨c, hc⟩ := cell_some cs t ht
    by_cases hb : t < cs.length ∧ 10 ^ 18 ≤ (if c < 0 then -c else c)
    · exact ⟨_, _, _, draw_great cs t n c ht ht2 h0 hn hc hb, Int.emod_nonneg _ (by omega), Int.emod_lt_of_pos _ h0, by omega, by omega, Int.ediv_nonneg (by split <;> omega) (by omega)⟩
    · exact ⟨_, _, _, draw_small cs t n c ht ht2 h0 hn hc hb, Int.emod_nonneg _ (by omega), Int.emod_lt_of_pos _ h0, by omega, by omega, by omega⟩
theorem pen_made (ns : List Int) (h : ns.length ≤ 63) : g__law_pen [(false, .scr ns)] = .ok true (pen ns 0 0) none := by
  have e : cutA ns none (some 63) = ns := by
    unfold cutA
    have h1 : HT.sIx ns.length 0 none = 0 := rfl
    have h2 : HT.sIx ns.length ns.length (some 63) = ns.length := by
      show min (63 : Int).toNat ns.length = ns.length
      exact Nat.min_eq_right (by omega)
    rw [h1, h2]; simp
  have e2 : putAll [] [(.str "cells", .lst (ns.map .int)), (.str "at", .int 0), (.str "rest", .int 0)] = some [(.str "cells", .lst (ns.map .int)), (.str "at", .int 0), (.str "rest", .int 0)] := rfl
  simp [g__law_pen, b__law_pen, M.runDef, M.ret, M.dsp, M.dspL, M.frz, M.cst, M.slc, M.oS, M.pNo, M.pInt, M.ownIx, M.outOf, Psl, e, e2, Hd.get]
/-! ### names -/
def letters : Str := "abcdefghijklmnopqrstuvwxyz"
def okS (s : Str) : Prop := s.length ≤ 10 ∧ ∀ c ∈ s.cps.toList, c < 0x110000
theorem okS_one {c : Nat} (h : c < 0x110000) : okS (one c) := ⟨by show 1 ≤ 10; decide, (good_one h).2⟩
theorem lend_app (a b : Str) : (a ++ b).cps.toList = a.cps.toList ++ b.cps.toList := by
  show (a.cps ++ b.cps).toList = _
  simp
end BB
namespace BB
open PySem L2 M 
/-! ### the pen, what is drawn: read from the left -/
def Pen (m : Int) (v : Val) : Prop := ∃ cs t r, v = pen cs t r ∧ 0 ≤ t ∧ t ≤ m ∧ 0 ≤ r
theorem Pen.mono {m k : Int} {v : Val} (h : Pen m v) (l : m ≤ k) : Pen k v := by
  obtain ⟨cs, t, r, e, h0, h1, h2⟩ := h
  exact ⟨cs, t, r, e, h0, by omega, h2⟩
theorem Pen.pos {m : Int} {v : Val} (h : Pen m v) : 0 ≤ m := by
  obtain ⟨cs, t, r, e, h0, h1, h2⟩ := h
  omega
theorem draw_wp {m n : Int} {p : Val} {K : GR → Prop} (hp : Pen m p) (hm : m < 1000000) (h0 : 0 < n) (hn : n < 1073741824) (q : ∀ d p', 0 ≤ d → d < n → Pen (m + 1) p' → K (.ok false (.int d) (some (true, p')))) :
    wG g__law_draw [(true, p), (false, .int n)] K := by
  obtain ⟨cs, t, r, e, h1, h2, h3⟩ := hp
  subst e
  obtain ⟨d, t', r', e, d0, d1, t0, t1, r0⟩ := draw cs t r n h1 (by omega) h3 h0 hn
  unfold wG
  rw [e]
  exact q d _ d0 d1 ⟨cs, t', r', rfl, t0, by omega, r0⟩
theorem pen_wp {ns : List Int} {K : GR → Prop} (h : ns.length ≤ 63) (q : ∀ p, Pen 0 p → K (.ok true p none)) : wG g__law_pen [(false, .scr ns)] K := by
  unfold wG
  rw [pen_made ns h]
  exact q _ ⟨ns, 0, 0, rfl, by omega, by omega, by omega⟩
/-! names -/
def nmL (base : List Nat) (w : Bool) (f k : Nat) : List Nat := if w = true ∨ 25 < k then base ++ [97 + (f + k) % 26, 97 + k / 26] else [97 + (f + k) % 26]
theorem nmL_inj {base : List Nat} {w : Bool} {f k j : Nat} (hk : k < 600) (hj : j < 600) (hw : w = false → base = []) (h : nmL base w f k = nmL base w f j) : k = j := by
  unfold nmL at h
  have key : ∀ a b : Nat, (f + a) % 26 = (f + b) % 26 → a / 26 = b / 26 → a = b := by omega
  by_cases h1 : w = true ∨ 25 < k
  · by_cases h2 : w = true ∨ 25 < j
    · rw [if_pos h1, if_pos h2] at h
      have := List.append_cancel_left h
      simp at this
      exact key _ _ (by omega) (by omega)
    · rw [if_pos h1, if_neg h2] at h
      have hb : base = [] := hw (by cases w with | false => rfl | true => exact absurd (.inl rfl) h2)
      rw [hb] at h
      simp at h
  · by_cases h2 : w = true ∨ 25 < j
    · rw [if_neg h1, if_pos h2] at h
      have hb : base = [] := hw (by cases w with | false => rfl | true => exact absurd (.inl rfl) h1)
      rw [hb] at h
      simp at h
    · rw [if_neg h1, if_neg h2] at h
      simp at h
      have h3 : ¬ 25 < k := fun z => h1 (.inr z)
      have h4 : ¬ 25 < j := fun z => h2 (.inr z)
      exact key _ _ (by omega) (by omega)
theorem letters_at (i : Int) (h0 : 0 ≤ i) (h1 : i < 26) : Pix [.str letters, .int i] = some (false, .str (mk [97 + i.toNat])) := by
  have : ∀ j : Fin 26, letters.cps.toList[j.val]? = some (97 + j.val) := by decide +kernel
  have hl : letters.cps.toList.length = 26 := by decide +kernel
  have hx : ixN letters.cps.toList.length i = some i.toNat := by
    unfold ixN
    rw [if_pos h0, if_pos (by rw [hl]; exact h1)]
  have e := this ⟨i.toNat, by omega⟩
  simp only [Pix, atI, hx, Option.bind_some]
  simp only at e
  rw [e]
  rfl
theorem names_turn_wp {a0 a1 : M.Slot} {base : List Nat} {way first k : Int} {acc : List Str} {a8 a9 : M.Slot} {Q : SR → Prop} (hb : base.length ≤ 6) (hk0 : 0 ≤ k) (hk : k < 600) (hf : 0 ≤ first) (ha : acc.length < 100000)
    (q : ∀ b8 b9, Q (.nx [a0, a1, some (false, .str letters), some (false, .str (mk base)), some (true, .lst ((acc ++ [mk (nmL base (decide (0 < way)) first.toNat k.toNat)]).map .str)), some (false, .int k), some (false, .int way), some (false, .int first), b8, b9])) :
    wS L1__law_names [a0, a1, some (false, .str letters), some (false, .str (mk base)), some (true, .lst (acc.map .str)), some (false, .int k), some (false, .int way), some (false, .int first), a8, a9] Q := by
  have m0 : 0 ≤ (first + k) % 26 := Int.emod_nonneg _ (by decide)
  have m1 : (first + k) % 26 < 26 := Int.emod_lt_of_pos _ (by decide)
  have e1 := letters_at _ m0 m1
  have e2 := letters_at (k / 26) (by omega) (by omega)
  have ha' : (acc.map Val.str).length < 100000 := by simpa using ha
  have t1 : ((first + k) % 26).toNat = (first.toNat + k.toNat) % 26 := by omega
  have t2 : (k / 26).toNat = k.toNat / 26 := by omega
  rw [t1] at e1
  rw [t2] at e2
  have pm : Pmod [.int (first + k), .int 26] = some (false, .int ((first + k) % 26)) := rfl
  have pd : Pdiv [.int k, .int 26] = some (false, .int (k / 26)) := rfl
  have pa : Padd [.int first, .int k] = some (false, .int (first + k)) := rfl
  have x1 := padd_mk base [97 + (first.toNat + k.toNat) % 26] (by simp; omega)
  have x2 := padd_mk (base ++ [97 + (first.toNat + k.toNat) % 26]) [97 + k.toNat / 26] (by simp; omega)
  unfold L1__law_names
  simp? only [pa, pm, pd, e1, e2, Pgt, cmpI]
  have := q (some (false, .str (mk [97 + (first.toNat + k.toNat) % 26]))) (some (false, .str (mk [97 + k.toNat / 26])))
  by_cases hw : 0 < way
  · simp? only [hw, decide_true, x1, x2, Mappend, ha', tyOf]
    simpa [nmL, hw] using this
  · by_cases h25 : 25 < k
    · have h25' : 25 < k.toNat := by omega
      simp? only [hw, decide_false, h25, decide_true, x1, x2, Mappend, ha', tyOf]
      simpa [nmL, hw, h25'] using this
    · have h25' : ¬ 25 < k.toNat := by omega
      simp? only [hw, decide_false, h25, x1, x2, Mappend, ha', tyOf]
      simpa [nmL, hw, h25'] using this
theorem nmL_name {base : List Nat} {w : Bool} {f k : Nat} (hb : base.length ≤ 6) (hb2 : ∀ c ∈ base, 97 ≤ c ∧ c ≤ 122) (hk : k < 600) : IsName (mk (nmL base w f k)) := by
  refine ⟨_, rfl, ?_⟩
  unfold nmL
  split
  · refine ⟨by simp, by simp; omega, fun c hc => ?_⟩
    rcases List.mem_append.mp hc with z | z
    · exact hb2 c z
    · simp at z; omega
  · refine ⟨by simp, by simp, fun c hc => ?_⟩
    simp at hc; omega
theorem names_wp {m many : Int} {p : Val} {K : GR → Prop} (hp : Pen m p) (hm : m < 999990) (h0 : 0 ≤ many) (h1 : many < 600)
    (q : ∀ (ss : List Str) (p' : Val), ss.length = many.toNat → ss.Nodup → (∀ s ∈ ss, IsName s) → Pen (m + 2) p' → K (.ok true (.lst (ss.map .str)) (some (true, p')))) : wG g__law_names [(true, p), (false, .int many)] K := by
  have hpos := hp.pos
  unfold g__law_names
  rw [wG_run (by rfl) (by simp [ownIx])]
  unfold b__law_names
  simp? only []
  refine draw_wp hp (by omega) (by decide) (by decide) fun way p1 w0 w1 hp1 => ?_
  simp? only []
  refine draw_wp hp1 (by omega) (by decide) (by decide) fun first p2 f0 f1 hp2 => ?_
  obtain ⟨base, e3, hb, hb2, hb3⟩ : ∃ base : List Nat, Pix [.lst [.str "", .str "", .str "zzzzzz"], .int way] = some (false, .str (mk base)) ∧ base.length ≤ 6 ∧ (∀ c ∈ base, 97 ≤ c ∧ c ≤ 122) ∧ (decide (0 < way) = false → base = []) := by
    have : way = 0 ∨ way = 1 ∨ way = 2 := by omega
    rcases this with z | z | z <;> subst z
    · exact ⟨[], rfl, by decide, by decide, fun _ => rfl⟩
    · exact ⟨[], rfl, by decide, by decide, fun _ => rfl⟩
    · exact ⟨[122, 122, 122, 122, 122, 122], rfl, by decide, by decide, by decide⟩
  simp? only [e3, rng_nums many ⟨h0, by omega⟩]
  refine wL_inv (fun vs r => ∃ (k : Nat) (b5 b8 b9 : M.Slot), vs = (nums many.toNat).drop k ∧ k ≤ many.toNat ∧ r = [some (true, p2), some (false, .int many), some (false, .str letters), some (false, .str (mk base)),
      some (true, .lst (((List.range k).map fun k => mk (nmL base (decide (0 < way)) first.toNat k)).map .str)), b5, some (false, .int way), some (false, .int first), b8, b9]) ?_ ?_ _ _ ⟨0, _, _, _, rfl, by omega, rfl⟩
  · rintro v vs r ⟨k, b5, b8, b9, e, hk, rfl⟩
    obtain ⟨hk2, rfl, rfl⟩ := drop_step e
    rw [nums_get]
    rw [nums_len] at hk2
    simp? only []
    refine names_turn_wp hb (by omega) (by omega) f0 (by simp; omega) fun b8 b9 => ?_
    exact ⟨k + 1, some (false, .int k), b8, b9, rfl, hk2, by simp [List.range_succ]⟩
  · rintro r ⟨k, b5, b8, b9, e, hk, rfl⟩
    have hk2 := drop_end e (by rw [nums_len]; exact hk)
    rw [nums_len] at hk2
    subst hk2
    simp? only []
    refine q _ _ (by simp) ?_ ?_ (hp2.mono (by omega))
    · rw [List.nodup_iff_pairwise_ne, List.pairwise_map]
      refine List.Pairwise.imp_of_mem ?_ List.nodup_range
      intro a b ha hb' hab he
      exact hab (nmL_inj (by have := List.mem_range.mp ha; omega) (by have := List.mem_range.mp hb'; omega) hb3 (mk_inj he))
    · intro s hs
      obtain ⟨k, hk, rfl⟩ := List.mem_map.mp hs
      exact nmL_name hb hb2 (by have := List.mem_range.mp hk; omega)
/-! shuffled -/
theorem shuffled_wp {m : Int} {p : Val} {xs : List Val} {K : GR → Prop} (hp : Pen m p) (hl : xs.length ≤ 1000) (hm : m + xs.length < 999990)
    (q : ∀ (ys : List Val) (p' : Val), ys.Perm xs → Pen (m + xs.length) p' → K (.ok true (.lst ys) (some (true, p')))) : wG g__law_shuffled [(true, p), (false, .lst xs)] K := by
  have hpos := hp.pos
  unfold g__law_shuffled
  rw [wG_run (by rfl) (by simp [ownIx])]
  unfold b__law_shuffled
  simp? only [Plist, Plen, rng_nat xs.length (by omega)]
  refine wC_inv (fun vs acc r => ∃ (left : List Val) (p1 : Val), left.length = vs.length ∧ (acc ++ left).Perm xs ∧ Pen (m + xs.length - vs.length) p1 ∧ r = [some (true, p1), some (false, .lst xs), some (true, .lst left), none]) ?_ ?_ _ _ _ ⟨xs, p, (nums_len _).symm, .refl _, hp.mono (by rw [nums_len]; omega), rfl⟩
  · rintro v vs acc r ⟨left, p1, h1, h2, hp1, rfl⟩
    have hlen := h2.length_eq
    simp only [List.length_append, List.length_cons] at h1 hlen hp1
    simp? only [E1__law_shuffled, Plen]
    refine draw_wp hp1 (by omega) (by omega) (by omega) fun d p2 d0 d1 hp2 => ?_
    have hd : d.toNat < left.length := by omega
    have hx : ixN left.length d = some d.toNat := by
      unfold ixN
      rw [if_pos d0, if_pos d1]
    have hpop : MpopAt (.lst left) [.int d] = some (.lst (left.eraseIdx d.toNat), left[d.toNat]) := by
      simp only [MpopAt, hx, List.getElem?_eq_getElem hd]
      rw [if_pos (by omega)]
    simp? only [tyOf, hpop]
    refine ⟨by omega, left.eraseIdx d.toNat, p2, by rw [List.length_eraseIdx_of_lt hd]; omega, ?_, hp2.mono (by omega), rfl⟩
    rw [List.append_assoc]
    exact ((perm_erase left d.toNat hd).append_left acc).trans h2
  · rintro acc r ⟨left, p1, h1, h2, hp1, rfl⟩
    have : left = [] := List.eq_nil_of_length_eq_zero h1
    subst this
    simp? only []
    exact q acc p1 (by simpa using h2) (hp1.mono (by simp))
end BB
namespace PK
open PySem L2 M 
def E1_is_name : EF := (bin PinX (oS 1) (oV (cst (.str "abcdefghijklmnopqrstuvwxyz"))))
def b_is_name : SF := (seq (ifS (orB (notB (tst (prim Pisi (osCons (oS 0) (osCons (oV (cst (.ty "str"))) osNil))))) (notB (tst (chn Ple Ple (oV (cst (.int 1))) (oV (prim Plen (osCons (oS 0) osNil))) (oV (cst (.int 8))))))) (ret (cst (.bl false))) skip)
    (ret (prim Pall (osCons (oV (lc (itV (var 0)) (tgN 1) yesB E1_is_name [1])) osNil))))
def g_is_name : GF := runDef [0] 1 2 b_is_name
def L1_first_wrong : SF := (ifS (orB (tst (bin PeqX (oS 1) (oV (cst (.int 60))))) (orB (notB (tst (callG 1 g_is_name (osCons (oV (var 2)) osNil)))) (tst (bin PinX (oS 2) (oV (slc (oS 0) pNo (pInt (var 1)))))))) (ret (mv 1)) skip)
def b_first_wrong : SF := (seq (forS (itE (var 0)) (tgT (tgCons (tgN 1) (tgCons (tgN 2) tgNil))) L1_first_wrong)
    (ret (cst .non)))
def g_first_wrong : GF := runDef [0] 1 3 b_first_wrong
def b_need_rows : SF := (seq (ifS (notB (tst (prim Pisis (osCons (oS 0) (osCons (oV (tup (asCons (cst (.ty "tuple")) (asCons (cst (.ty "list")) asNil)))) osNil))))) (raiC "InvalidRow" ["index"] (osCons (oV (cst .non)) osNil)) skip)
    (seq (asg 1 (frz (callG 1 g_first_wrong (osCons (oV (var 0)) osNil))))
    (ifS (tst (bin PisNot (oS 1) (oV (cst .non)))) (raiC "InvalidRow" ["index"] (osCons (oV (var 1)) osNil)) skip)))
def g_need_rows : GF := runDef [0] 1 2 b_need_rows
def E1_are_needs : EF := (andV (callG 1 g_is_name (osCons (oV (var 2)) osNil)) (bin PinX (oS 2) (oS 0)))
def b_are_needs : SF := (seq (ifS (orB (notB (tst (prim Pisi (osCons (oS 1) (osCons (oV (cst (.ty "tuple"))) osNil))))) (notB (tst (prim Pall (osCons (oV (lc (itV (var 1)) (tgN 2) yesB E1_are_needs [2])) osNil))))) (ret (cst (.bl false))) skip)
    (ret (bin PeqX (oV (lenSet (var 1))) (oV (prim Plen (osCons (oS 1) osNil))))))
def g_are_needs : GF := runDef [0, 1] 2 3 b_are_needs
def L1_need_needs : SF := (ifS (orB (tst (bin PnotInX (oS 2) (oS 0))) (notB (tst (callG 2 g_are_needs (osCons (oV (var 0)) (osCons (oV (var 3)) osNil)))))) (raiC "InvalidNeeds" ["name"] (osCons (oV (var 2)) osNil)) skip)
def b_need_needs : SF := (seq (ifS (notB (tst (prim Pisi (osCons (oS 1) (osCons (oV (cst (.ty "dict"))) osNil))))) (raiC "InvalidNeeds" ["name"] (osCons (oV (cst .non)) osNil)) skip)
    (forS (itI (var 1)) (tgT (tgCons (tgN 2) (tgCons (tgN 3) tgNil))) L1_need_needs))
def g_need_needs : GF := runDef [0, 1] 2 4 b_need_needs
def E1_unfinished : EF := (var 3)
def F2_unfinished : BF := (tst (bin PeqX (oS 4) (oV (tup asNil))))
def F3_unfinished : BF := (tst (bin PnotInX (oS 3) (oS 2)))
def K4_unfinished : EF := (var 3)
def E5_unfinished : EF := (var 4)
def E6_unfinished : EF := (bin PinX (oS 5) (oS 1))
def E7_unfinished : EF := (var 3)
def F8_unfinished : BF := (notB (tst (prim Pany (osCons (oV (lc (itV (var 4)) (tgN 5) yesB E6_unfinished [5])) osNil))))
def L9_unfinished : SF := (seq (asg 1 (dc (itI (var 1)) (tgT (tgCons (tgN 3) (tgCons (tgN 4) tgNil))) F3_unfinished K4_unfinished E5_unfinished [3, 4]))
    (asg 2 (frz (lc (itI (var 1)) (tgT (tgCons (tgN 3) (tgCons (tgN 4) tgNil))) F8_unfinished E7_unfinished [3, 4]))))
def W10_unfinished : BF := (tst (bin PneX (oS 2) (oV (lst asNil))))
def b_unfinished : SF := (seq (asg 1 (prim Pdict (osCons (oS 0) osNil)))
    (seq (asg 2 (frz (lc (itI (var 1)) (tgT (tgCons (tgN 3) (tgCons (tgN 4) tgNil))) F2_unfinished E1_unfinished [3, 4])))
    (seq (whl W10_unfinished L9_unfinished 1000)
    (ret (mv 1)))))
def g_unfinished : GF := runDef [0] 1 6 b_unfinished
def E1_ring_in : EF := (var 4)
def F2_ring_in : BF := (tst (bin PinX (oS 4) (oS 1)))
def L3_ring_in : SF := (seq (asg 3 (bin Pix (oV (lc (itV (bin Pix (oS 1) (oV (bin Pix (oS 2) (oV (prim Pneg (osCons (oV (cst (.int 1))) osNil))))))) (tgN 4) F2_ring_in E1_ring_in [4])) (oV (cst (.int 0)))))
    (seq (ifS (tst (bin PinX (oS 3) (oS 2))) (ret (prim Ptuple (osCons (oV (slc (oS 2) (pInt (prim Pindex (osCons (oTy "list" (oS 2)) (osCons (oS 3) osNil)))) pNo)) osNil))) skip)
    (drop (mutE "list" 2 Mappend (asCons (var 3) asNil)))))
def W4_ring_in : BF := (tst (bin PneX (oS 2) (oV (lst asNil))))
def b_ring_in : SF := (seq (asg 1 (frz (callG 1 g_unfinished (osCons (oV (var 0)) osNil))))
    (seq (asg 2 (slc (oV (prim PlistX (osCons (oS 1) osNil))) pNo (pInt (cst (.int 1)))))
    (seq (whl W4_ring_in L3_ring_in 1000)
    (ret (cst .non)))))
def g_ring_in : GF := runDef [0] 1 5 b_ring_in
def b_C_Sheet_needs : SF := (ret (prim Pdict (osCons (oV (prim (Pfld ["Sheet"] "direct") (osCons (oS 0) osNil))) osNil)))
def g_C_Sheet_needs : GF := runDef [0] 1 1 b_C_Sheet_needs
def b_row_text : SF := (ret (ite (tst (bin PneX (oS 1) (oV (tup asNil)))) (prim Pjoin (osCons (oTy "str" (oV (cst (.str " ")))) (osCons (oV (lst (asCons (fstr [(prim Pfmt (osCons (oS 0) osNil)), (cst (.str ":"))]) (asStar (var 1) asNil)))) osNil))) (var 0)))
def g_row_text : GF := runDef [0, 1] 2 2 b_row_text
def b_C_Sheet_rows : SF := (ret (prim (Pfld ["Sheet"] "names") (osCons (oS 0) osNil)))
def g_C_Sheet_rows : GF := runDef [0] 1 1 b_C_Sheet_rows
def E1_sheet_text : EF := (callG 2 g_row_text (osCons (oV (var 2)) (osCons (oV (bin Pix (oS 1) (oS 2))) osNil)))
def b_sheet_text : SF := (seq (asg 1 (noX (callM [("Sheet", 1, g_C_Sheet_needs)] "needs" (oS 0) osNil)))
    (ret (prim Pjoin (osCons (oTy "str" (oV (cst (.str "\n")))) (osCons (oV (lc (itV (noX (callM [("Sheet", 1, g_C_Sheet_rows)] "rows" (oS 0) osNil))) (tgN 2) yesB E1_sheet_text [2])) osNil)))))
def g_sheet_text : GF := runDef [0] 1 3 b_sheet_text
def K1_C_Sheet_fill : EF := (var 5)
def E2_C_Sheet_fill : EF := (prim Ptuple (osCons (oV (prim PsortedX (osCons (oV (prim Pdget (osCons (oTy "dict" (oS 2)) (osCons (oS 5) (osCons (oV (tup asNil)) osNil))))) osNil))) osNil))
def K3_C_Sheet_fill : EF := (var 5)
def E4_C_Sheet_fill : EF := (var 6)
def b_C_Sheet_fill : SF := (seq (drop (callG 1 g_need_rows (osCons (oV (var 1)) osNil)))
    (seq (drop (callG 2 g_need_needs (osCons (oV (var 1)) (osCons (oV (var 2)) osNil))))
    (seq (asg 3 (dc (itV (var 1)) (tgN 5) yesB K1_C_Sheet_fill E2_C_Sheet_fill [5]))
    (seq (asg 4 (frz (callG 1 g_ring_in (osCons (oV (var 3)) osNil))))
    (seq (ifS (tst (bin PisNot (oS 4) (oV (cst .non)))) (raiC "HasRing" ["ring"] (osCons (oV (var 4)) osNil)) skip)
    (seq (setFld ["Sheet"] 0 "names" (prim Ptuple (osCons (oS 1) osNil)))
    (seq (setFld ["Sheet"] 0 "direct" (var 3))
    (seq (setFld ["Sheet"] 0 "order" (dc (itE (var 1)) (tgT (tgCons (tgN 6) (tgCons (tgN 5) tgNil))) yesB K3_C_Sheet_fill E4_C_Sheet_fill [6, 5]))
    (setFld ["Sheet"] 0 "shown" (callG 1 g_sheet_text (osCons (oS 0) osNil)))))))))))
def g_C_Sheet_fill : GF := runDef [0, 1, 2] 3 7 b_C_Sheet_fill
def b_C_Sheet___init__ : SF := (drop (callM [("Sheet", 3, g_C_Sheet_fill)] "fill" (oS 0) (osCons (oV (var 1)) (osCons (oV (var 2)) osNil))))
def g_C_Sheet___init__ : GF := runDefS true [0, 1, 2] 1 3 b_C_Sheet___init__
def b_C_Sheet_of : SF := (seq (asg 3 (mkD [("Sheet", 1, g_C_Sheet___init__)] 0 osNil))
    (seq (drop (callM [("Sheet", 3, g_C_Sheet_fill)] "fill" (oS 3) (osCons (oV (var 1)) (osCons (oV (var 2)) osNil))))
    (ret (mv 3))))
def g_C_Sheet_of : GF := runDef [0, 1, 2] 3 4 b_C_Sheet_of
def b_C_Sheet_need_row : SF := (ifS (orB (notB (tst (prim Pisi (osCons (oS 1) (osCons (oV (cst (.ty "str"))) osNil))))) (tst (bin PnotInX (oS 1) (oV (prim (Pfld ["Sheet"] "order") (osCons (oS 0) osNil)))))) never skip)
def g_C_Sheet_need_row : GF := runDef [0, 1] 2 2 b_C_Sheet_need_row
def b_C_Sheet_position : SF := (seq (drop (callM [("Sheet", 2, g_C_Sheet_need_row)] "need_row" (oS 0) (osCons (oV (var 1)) osNil)))
    (ret (bin Pix (oV (prim (Pfld ["Sheet"] "order") (osCons (oS 0) osNil))) (oS 1))))
def g_C_Sheet_position : GF := runDef [0, 1] 2 2 b_C_Sheet_position
def E1_closure : EF := (bin PinX (oS 5) (oS 2))
def K2_closure : EF := (var 6)
def E3_closure : EF := (cst (.bl true))
def L4_closure : SF := (ifS (andB (tst (bin PnotInX (oS 3) (oS 2))) (tst (prim Pall (osCons (oV (lc (itV (var 4)) (tgN 5) yesB E1_closure [5])) osNil)))) (setIx 2 (var 3) (dc2 (itV (var 4)) (tgN 5) yesB (itV (tup (asCons (var 5) (asStD (bin Pix (oS 2) (oS 5)) asNil)))) (tgN 6) yesB K2_closure E3_closure [5, 6] [6])) skip)
def L5_closure : SF := (forS (itI (var 1)) (tgT (tgCons (tgN 3) (tgCons (tgN 4) tgNil))) L4_closure)
def W6_closure : BF := (tst (bin Plt (oV (prim PlenX (osCons (oS 2) osNil))) (oV (prim PlenX (osCons (oS 1) osNil)))))
def b_closure : SF := (seq (asg 1 (noX (callM [("Sheet", 1, g_C_Sheet_needs)] "needs" (oS 0) osNil)))
    (seq (asg 2 (dNew false))
    (seq (whl W6_closure L5_closure 1000)
    (ret (mv 2)))))
def g_closure : GF := runDef [0] 1 7 b_closure
def E1_needed_rows : EF := (var 3)
def F2_needed_rows : BF := (tst (bin PinX (oS 3) (oS 2)))
def b_needed_rows : SF := (seq (drop (callM [("Sheet", 2, g_C_Sheet_position)] "position" (oS 0) (osCons (oV (var 1)) osNil)))
    (seq (asg 2 (bin Pix (oV (callG 1 g_closure (osCons (oV (var 0)) osNil))) (oS 1)))
    (ret (prim Ptuple (osCons (oV (lc (itV (noX (callM [("Sheet", 1, g_C_Sheet_rows)] "rows" (oS 0) osNil))) (tgN 3) F2_needed_rows E1_needed_rows [3])) osNil)))))
def g_needed_rows : GF := runDef [0, 1] 2 4 b_needed_rows
def b_depends : SF := (seq (drop (callM [("Sheet", 2, g_C_Sheet_position)] "position" (oS 0) (osCons (oV (var 1)) osNil)))
    (seq (drop (callM [("Sheet", 2, g_C_Sheet_position)] "position" (oS 0) (osCons (oV (var 2)) osNil)))
    (ret (bin PinX (oS 2) (oV (bin Pix (oV (callG 1 g_closure (osCons (oV (var 0)) osNil))) (oS 1)))))))
def g_depends : GF := runDef [0, 1, 2] 3 3 b_depends
def E1_users : EF := (var 3)
def F2_users : BF := (tst (bin PinX (oS 1) (oV (bin Pix (oS 2) (oS 3)))))
def b_users : SF := (seq (drop (callM [("Sheet", 2, g_C_Sheet_position)] "position" (oS 0) (osCons (oV (var 1)) osNil)))
    (seq (asg 2 (frz (callG 1 g_closure (osCons (oV (var 0)) osNil))))
    (ret (prim Ptuple (osCons (oV (lc (itV (noX (callM [("Sheet", 1, g_C_Sheet_rows)] "rows" (oS 0) osNil))) (tgN 3) F2_users E1_users [3])) osNil)))))
def g_users : GF := runDef [0, 1] 2 4 b_users
def E1_need_chain : EF := (var 6)
def F2_need_chain : BF := (orB (tst (bin PeqX (oS 6) (oS 2))) (tst (bin PinX (oS 2) (oV (bin Pix (oS 3) (oS 6))))))
def L3_need_chain : SF := (drop (mutE "list" 5 Mappend (asCons (bin Pix (oV (lc (itV (bin Pix (oS 4) (oV (bin Pix (oS 5) (oV (prim Pneg (osCons (oV (cst (.int 1))) osNil))))))) (tgN 6) F2_need_chain E1_need_chain [6])) (oV (cst (.int 0)))) asNil)))
def W4_need_chain : BF := (tst (bin PneX (oV (bin Pix (oS 5) (oV (prim Pneg (osCons (oV (cst (.int 1))) osNil))))) (oS 2)))
def b_need_chain : SF := (seq (drop (callM [("Sheet", 2, g_C_Sheet_position)] "position" (oS 0) (osCons (oV (var 1)) osNil)))
    (seq (drop (callM [("Sheet", 2, g_C_Sheet_position)] "position" (oS 0) (osCons (oV (var 2)) osNil)))
    (seq (asg 3 (frz (callG 1 g_closure (osCons (oV (var 0)) osNil))))
    (seq (ifS (andB (tst (bin PneX (oS 1) (oS 2))) (tst (bin PnotInX (oS 2) (oV (bin Pix (oS 3) (oS 1)))))) (ret (cst .non)) skip)
    (seq (asg 4 (noX (callM [("Sheet", 1, g_C_Sheet_needs)] "needs" (oS 0) osNil)))
    (seq (asg 5 (lst (asCons (var 1) asNil)))
    (seq (whl W4_need_chain L3_need_chain 1000)
    (ret (prim Ptuple (osCons (oV (prim Prev (osCons (oS 5) osNil))) osNil))))))))))
def g_need_chain : GF := runDef [0, 1, 2] 3 7 b_need_chain
def b_is_integer : SF := (ret (andV (prim Pisi (osCons (oS 0) (osCons (oV (cst (.ty "int"))) osNil))) (notV (prim Pisi (osCons (oS 0) (osCons (oV (cst (.ty "bool"))) osNil))))))
def g_is_integer : GF := runDef [0] 1 1 b_is_integer
def b_is_between : SF := (ret (andV (callG 1 g_is_integer (osCons (oV (var 0)) osNil)) (chn Ple Ple (oS 1) (oS 0) (oS 2))))
def g_is_between : GF := runDef [0, 1, 2] 3 3 b_is_between
def b_is_index : SF := (ret (callG 3 g_is_between (osCons (oV (var 0)) (osCons (oV (cst (.int 0))) (osCons (oV (bin Psub (oS 1) (oV (cst (.int 1))))) osNil)))))
def g_is_index : GF := runDef [0, 1] 2 2 b_is_index
def E1_C_Sheet_with_move : EF := (var 4)
def F2_C_Sheet_with_move : BF := (tst (bin PneX (oS 4) (oS 1)))
def b_C_Sheet_with_move : SF := (seq (drop (callM [("Sheet", 2, g_C_Sheet_need_row)] "need_row" (oS 0) (osCons (oV (var 1)) osNil)))
    (seq (ifS (notB (tst (callG 2 g_is_index (osCons (oV (var 2)) (osCons (oV (frz (prim Plen (osCons (oV (prim (Pfld ["Sheet"] "names") (osCons (oS 0) osNil))) osNil)))) osNil))))) never skip)
    (seq (asg 3 (lc (itV (prim (Pfld ["Sheet"] "names") (osCons (oS 0) osNil))) (tgN 4) F2_C_Sheet_with_move E1_C_Sheet_with_move [4]))
    (ret (callG 3 g_C_Sheet_of (osCons (oV (cst (.cls "Sheet"))) (osCons (oV (frz (lst (asStar (slc (oS 3) pNo (pInt (var 2))) (asCons (var 1) (asStar (slc (oS 3) (pInt (var 2)) pNo) asNil)))))) (osCons (oV (prim (Pfld ["Sheet"] "direct") (osCons (oS 0) osNil))) osNil))))))))
def g_C_Sheet_with_move : GF := runDef [0, 1, 2] 3 5 b_C_Sheet_with_move
def E1_C_Sheet_with_need : EF := (var 4)
def F2_C_Sheet_with_need : BF := (tst (bin PneX (oS 4) (oS 2)))
def b_C_Sheet_with_need : SF := (seq (drop (callM [("Sheet", 2, g_C_Sheet_need_row)] "need_row" (oS 0) (osCons (oV (var 1)) osNil)))
    (seq (drop (callM [("Sheet", 2, g_C_Sheet_need_row)] "need_row" (oS 0) (osCons (oV (var 2)) osNil)))
    (seq (asg 3 (frz (prim Ptuple (osCons (oV (lc (itV (bin Pix (oV (prim (Pfld ["Sheet"] "direct") (osCons (oS 0) osNil))) (oS 1))) (tgN 4) F2_C_Sheet_with_need E1_C_Sheet_with_need [4])) osNil))))
    (ret (callG 3 g_C_Sheet_of (osCons (oV (cst (.cls "Sheet"))) (osCons (oV (prim (Pfld ["Sheet"] "names") (osCons (oS 0) osNil))) (osCons (oV (frz (dst (prim (Pfld ["Sheet"] "direct") (osCons (oS 0) osNil)) (var 1) (tup (asStar (var 3) (asCons (var 2) asNil)))))) osNil))))))))
def g_C_Sheet_with_need : GF := runDef [0, 1, 2] 3 5 b_C_Sheet_with_need
end PK
namespace PK
open PySem L2 M 
/-! ### needs and sheets as values -/
abbrev Nd := List (Str × List Str)
def en (m : Nd) : List (Str × Val) := m.map fun p => (p.1, .tup (p.2.map .str))
abbrev enc (m : Nd) : Val := .dct false (sd (en m))
def keys (m : Nd) : List Str := m.map (·.1)
def getN (m : Nd) (s : Str) : List Str := (m.lookup s).getD []
theorem en_keys (m : Nd) : (en m).map (·.1) = keys m := by simp [en, keys]
theorem en_get (m : Nd) (k : Str) : (en m).lookup k = (m.lookup k).map fun vs => .tup (vs.map .str) := by
  induction m with
  | nil => rfl
  | cons p m ih =>
    obtain ⟨a, b⟩ := p
    simp only [en, List.map_cons, List.lookup_cons] at ih ⊢
    cases h : k == a with
    | true => simp
    | false => simpa using ih
theorem pin_en (m : Nd) (s : Str) : PinX [.str s, enc m] = some (false, .bl (decide (s ∈ keys m))) := by rw [pin_sd, en_keys]
theorem pnotin_en (m : Nd) (s : Str) : PnotInX [.str s, enc m] = some (false, .bl (!decide (s ∈ keys m))) := by rw [pnotin_sd, en_keys]
theorem pix_en (m : Nd) (s : Str) (h : s ∈ keys m) : Pix [enc m, .str s] = some (false, .tup ((getN m s).map .str)) := by
  obtain ⟨v, e⟩ := lookup_some h
  rw [pix_sd, en_get, getN, e]; rfl
theorem en_len (m : Nd) : (sd (en m)).length = m.length := by simp [sd, en]
abbrev prV (p : Str × List Str) : Val := .tup [.str p.1, .tup (p.2.map .str)]
theorem pairs_en (m : Nd) : List.map (fun p : Val × Val => Val.tup [p.1, p.2]) (sd (en m)) = m.map prV := by simp [sd, en]
theorem keys_en (m : Nd) : keysOfD (sd (en m)) = (keys m).map .str := by simp [keysOfD, sd, en, keys]
theorem lookup_nd {m : Nd} : ∀ {p : Str × List Str}, (keys m).Nodup → p ∈ m → m.lookup p.1 = some p.2 := by
  induction m with
  | nil => intro p _ h; cases h
  | cons a m ih =>
    intro p nd h
    obtain ⟨k, v⟩ := a
    simp only [keys, List.map_cons, List.nodup_cons] at nd
    rw [List.lookup_cons]
    rcases List.mem_cons.mp h with z | z
    · rw [z]; simp
    · have : (p.1 == k) = false := by
        rw [beq_eq_false_iff_ne]
        intro e
        exact nd.1 (e ▸ List.mem_map.mpr ⟨p, z, rfl⟩)
      rw [this]
      exact ih nd.2 z
theorem getN_mem {m : Nd} {p : Str × List Str} (nd : (keys m).Nodup) (h : p ∈ m) : getN m p.1 = p.2 := by rw [getN, lookup_nd nd h]; rfl
theorem getN_key {m : Nd} {s : Str} (h : s ∈ keys m) : (s, getN m s) ∈ m := by
  obtain ⟨v, e⟩ := lookup_some h
  have := lookup_mem e
  rwa [getN, e]
theorem getN_nil {m : Nd} {s : Str} (h : s ∉ keys m) : getN m s = [] := by rw [getN, lookup_none h]; rfl
theorem keys_mem {m : Nd} {p : Str × List Str} (h : p ∈ m) : p.1 ∈ keys m := List.mem_map.mpr ⟨p, h, rfl⟩
theorem map_str1 {β : Type} (l : List (Str × β)) : (l.map fun p => Val.str p.1) = (l.map (·.1)).map .str := by simp
theorem pne_nilX (ss : List Str) (h : ∀ s ∈ ss, CpOk s) : PneX [.lst (ss.map .str), .lst []] = some (false, .bl (!decide (ss = []))) := by
  have h1 := shp_strs ss h
  have h2 := shp_strs [] (by simp)
  simp only [List.map_nil] at h2
  cases ss with
  | nil => simp [PneX, orP, PneS, Pne, toD, toDs, h2, PyData.eqv, PyData.eqvAll]
  | cons c cs =>
    simp only [List.map_cons] at h1
    simp [PneX, orP, PneS, Pne, toD, toDs, toDs_strs, h1, h2, PyData.eqv, PyData.eqvAll]
/-- needs without what is missing -/
structure Wf (m : Nd) : Prop where
  nd : (keys m).Nodup
  nm : ∀ s ∈ keys m, IsName s
  vl : ∀ p ∈ m, ∀ y ∈ p.2, y ∈ keys m
  len : m.length ≤ 60
  ll : ∀ p ∈ m, p.2.length ≤ 60
def Acyc (m : Nd) : Prop := ∃ rk : Str → Nat, ∀ p ∈ m, ∀ y ∈ p.2, rk y < rk p.1
/-! ### unfinished -/
def outs (left : Nd) : Nd := left.filter fun p => !(p.2.any fun y => decide (y ∈ keys left))
def stay (left : Nd) : Nd := left.filter fun p => p.2.any fun y => decide (y ∈ keys left)
structure UnI (m left : Nd) (N : Nat) : Prop where
  sub : left.Sublist m
  rk : ∃ rk : Str → Nat, (∀ s, rk s ≤ N) ∧ ∀ p ∈ m, p.1 ∉ keys left → ∀ y ∈ p.2, y ∉ keys left ∧ rk y < rk p.1
theorem outs_key {m left : Nd} (nd : (keys m).Nodup) (hs : left.Sublist m) {p : Str × List Str} (h : p ∈ left) : p.1 ∈ keys (outs left) ↔ ¬ ∃ y ∈ p.2, y ∈ keys left := by
  have ndl : (keys left).Nodup := List.Nodup.sublist (hs.map _) nd
  unfold outs
  constructor
  · intro hk
    obtain ⟨q, hq, e⟩ := List.mem_map.mp hk
    rw [List.mem_filter] at hq
    have e1 := getN_mem ndl hq.1
    have e2 := getN_mem ndl h
    have e : q.1 = p.1 := e
    rw [e, e2] at e1
    have := hq.2
    rw [← e1] at this
    simpa using this
  · intro hn
    refine List.mem_map.mpr ⟨p, List.mem_filter.mpr ⟨h, by simpa using hn⟩, rfl⟩
theorem stay_eq {m left : Nd} (nd : (keys m).Nodup) (hs : left.Sublist m) : (left.filter fun p => !decide (p.1 ∈ keys (outs left))) = stay left := by
  unfold stay
  refine List.filter_congr fun p hp => ?_
  have := outs_key nd hs hp
  rw [Bool.eq_iff_iff]
  simp only [Bool.not_eq_true', decide_eq_false_iff_not, this, List.any_eq_true, decide_eq_true_eq, Classical.not_not]
theorem UnI.step {m left : Nd} {N : Nat} (hm : Wf m) (h : UnI m left N) : UnI m (stay left) (N + 1) := by
  have hs : (stay left).Sublist left := List.filter_sublist
  refine ⟨hs.trans h.sub, ?_⟩
  obtain ⟨rk, r1, r2⟩ := h.rk
  have ksub : ∀ y, y ∈ keys (stay left) → y ∈ keys left := fun y hy => (hs.map _).subset hy
  refine ⟨fun s => if s ∈ keys (outs left) then N + 1 else rk s, fun s => by have := r1 s; dsimp only; split <;> omega, fun p hp hk y hy => ?_⟩
  have osub : ∀ y, y ∈ keys (outs left) → y ∈ keys left := fun y hy => ((List.filter_sublist (l := left)).map _).subset hy
  by_cases hl : p.1 ∈ keys left
  · have hpl : p ∈ left := by
      have h1 := getN_key hl
      have h2 := getN_mem hm.nd (h.sub.subset h1)
      have h3 := getN_mem hm.nd hp
      simp only at h2
      rw [h3] at h2
      rwa [← h2] at h1
    have ho : p.1 ∈ keys (outs left) := by
      refine Classical.byContradiction fun hn => hk ?_
      rw [outs_key hm.nd h.sub hpl, Classical.not_not] at hn
      refine keys_mem (List.mem_filter.mpr ⟨hpl, ?_⟩)
      simpa using hn
    have hy2 : y ∉ keys left := fun z => (outs_key hm.nd h.sub hpl).mp ho ⟨y, hy, z⟩
    refine ⟨fun z => hy2 (ksub y z), ?_⟩
    dsimp only
    rw [if_pos ho, if_neg fun z => hy2 (osub y z)]
    have := r1 y
    omega
  · have := r2 p hp hl y hy
    refine ⟨fun z => this.1 (ksub y z), ?_⟩
    dsimp only
    rw [if_neg fun z => hl (osub _ z), if_neg fun z => this.1 (osub _ z)]
    exact this.2
theorem stay_lt {left : Nd} (h : outs left ≠ []) : (stay left).length < left.length := by
  have : ∀ (f : Str × List Str → Bool) (l : Nd), (l.filter f).length + (l.filter fun p => !f p).length = l.length := by
    intro f l
    induction l with
    | nil => rfl
    | cons a l ih => cases hf : f a <;> simp [hf] <;> omega
  have h1 := this (fun p => p.2.any fun y => decide (y ∈ keys left)) left
  have h2 : 0 < (outs left).length := List.length_pos_iff.mpr h
  unfold outs at h2
  unfold stay
  omega
theorem unfinished_wp {m : Nd} {K : GR → Prop} (hm : Wf m) (q : ∀ left : Nd, left.Sublist m → (∀ p ∈ left, ∃ y ∈ p.2, y ∈ keys left) → (left = [] → Acyc m) → K (.ok false (enc left) none)) : wG g_unfinished [(false, enc m)] K := by
  unfold g_unfinished
  rw [wG_run (by rfl) (by simp [ownIx])]
  unfold b_unfinished
  have cpk : ∀ s ∈ keys m, CpOk s := fun s hs => (hm.nm s hs).cp
  simp? only [Pdict, pairs_en]
  have hl := hm.len
  refine wC_map prV (fun p => .str p.1) (fun p => decide (p.2 = [])) m (fun p hp => ⟨_, rfl, ?_, rfl, fun _ => ?_⟩) (by omega) ?_
  · simp? only [F2_unfinished, peq_tnil p.2 (fun s hs => cpk s (hm.vl p hp s hs))]
  · simp? only [E1_unfinished]
    exact ⟨_, _, rfl, rfl⟩
  simp? only []
  have e0 : (m.filter fun p => decide (p.2 = [])) = outs m := by
    unfold outs
    refine List.filter_congr fun p hp => ?_
    rw [Bool.eq_iff_iff]
    simp only [decide_eq_true_eq, Bool.not_eq_true', List.any_eq_false]
    constructor
    · intro e y hy; rw [e] at hy; cases hy
    · intro h
      cases hp2 : p.2 with
      | nil => rfl
      | cons y ys => exact absurd (hm.vl p hp y (by rw [hp2]; simp)) (by simpa using h y (by rw [hp2]; simp))
  rw [map_str1, e0]
  obtain ⟨I, hI⟩ : ∃ I : Nat → M.Env → Prop, I = fun k r => ∃ (left : Nd) (N : Nat), k = left.length ∧ UnI m left N ∧ r = [some (false, enc m), some (false, enc left), some (false, .lst ((keys (outs left)).map .str)), none, none, none] := ⟨_, rfl⟩
  refine wW_inv I ?_ _ m.length _ (by omega) (by rw [hI]; exact ⟨m, 0, rfl, ⟨.refl _, fun _ => 0, by simp, fun p hp hk => absurd (keys_mem hp) hk⟩, rfl⟩)
  intro k r h
  rw [hI] at h
  obtain ⟨left, N, rfl, hU, rfl⟩ := h
  have ck : ∀ s ∈ keys left, CpOk s := fun s hs => cpk s ((hU.sub.map _).subset hs)
  have co : ∀ s ∈ keys (outs left), CpOk s := fun s hs => ck s (((List.filter_sublist (l := left)).map _).subset hs)
  have hll := hU.sub.length_le
  simp? only [W10_unfinished, pne_nilX _ co]
  by_cases he : keys (outs left) = []
  · simp? only [he, decide_true, kTurnW_e2]
    have he' : outs left = [] := by simpa [keys] using he
    refine q left hU.sub (fun p hp => ?_) (fun hn => ?_)
    · refine Classical.byContradiction fun hc => ?_
      have : p ∈ outs left := List.mem_filter.mpr ⟨hp, by simpa using hc⟩
      rw [he'] at this; cases this
    · subst hn
      obtain ⟨rk, _, r2⟩ := hU.rk
      exact ⟨rk, fun p hp y hy => (r2 p hp (by simp [keys]) y hy).2⟩
  · have he' : outs left ≠ [] := by simpa [keys] using he
    simp? only [he, decide_false, kTurnW_e1, L9_unfinished, pairs_en]
    refine wDC_map prV (fun p => p.1) (fun p => .tup (p.2.map .str)) (fun p => !decide (p.1 ∈ keys (outs left))) left (fun p hp => ⟨_, rfl, ?_, rfl, fun _ => ?_⟩) (by omega) ?_ ?_
    · simp? only [F3_unfinished, pnotin_lst p.1 _ (ck _ (keys_mem hp)) co]
    · simp? only [K4_unfinished, E5_unfinished]
      exact ⟨_, rfl, _, _, rfl, rfl⟩
    · exact List.Nodup.sublist (List.filter_sublist.map _) (List.Nodup.sublist (hU.sub.map _) hm.nd)
    rw [stay_eq hm.nd hU.sub]
    have e1 : sd ((stay left).map fun p => (p.1, Val.tup (p.2.map .str))) = sd (en (stay left)) := rfl
    have hU2 := hU.step hm
    have ck2 : ∀ s ∈ keys (stay left), CpOk s := fun s hs => cpk s ((hU2.sub.map _).subset hs)
    have hll2 := hU2.sub.length_le
    rw [e1]
    simp? only [pairs_en]
    refine wC_map prV (fun p => .str p.1) (fun p => !(p.2.any fun y => decide (y ∈ keys (stay left)))) (stay left) (fun p hp => ⟨_, rfl, ?_, rfl, fun _ => ?_⟩) (by omega) ?_
    · simp? only [F8_unfinished]
      have hp2 : p.2.length ≤ 60 := hm.ll p (hU2.sub.subset hp)
      refine wC_map Val.str (fun y => .bl (decide (y ∈ keys (stay left)))) (fun _ => true) p.2 (fun y hy => ⟨_, rfl, rfl, rfl, fun _ => ?_⟩) (by omega) ?_
      · simp? only [E6_unfinished, pin_en]
        exact ⟨_, _, rfl, rfl⟩
      rw [filter_yes]
      simp? only [pany_map]
    · simp? only [E7_unfinished]
      exact ⟨_, _, rfl, rfl⟩
    simp? only []
    rw [map_str1]
    rw [hI]
    exact ⟨_, stay_lt he', stay left, N + 1, rfl, hU2, rfl⟩
end PK
namespace PK
open PySem L2 M 
/-! ### rings -/
theorem nodup_len {α : Type} [DecidableEq α] : ∀ {l r : List α}, l.Nodup → (∀ x ∈ l, x ∈ r) → l.length ≤ r.length
  | [], _, _, _ => by simp
  | x :: l, r, nd, h => by
    rw [List.nodup_cons] at nd
    have h1 : x ∈ r := h x (by simp)
    have := nodup_len (l := l) (r := r.erase x) nd.2 fun y hy => (List.mem_erase_of_ne fun e => nd.1 (by rw [← e]; exact hy)).mpr (h y (by simp [hy]))
    rw [List.length_erase_of_mem h1] at this
    have h2 : 0 < r.length := List.length_pos_of_mem h1
    rw [List.length_cons]
    omega
structure Ring (m : Nd) (ss : List Str) : Prop where
  ne : ss ≠ []
  ks : ∀ s ∈ ss, s ∈ keys m
  nd : ss.Nodup
  nx : ∀ k, k < ss.length → ss.getD ((k + 1) % ss.length) default ∈ getN m (ss.getD k default)
theorem Ring.no {m : Nd} {ss : List Str} (h : Ring m ss) : ¬ Acyc m := by
  rintro ⟨rk, hr⟩
  have hl : 0 < ss.length := List.length_pos_iff.mpr h.ne
  have key : ∀ N k, k < ss.length → rk (ss.getD k default) = N → False := by
    intro N
    induction N using Nat.strongRecOn with
    | ind N ih =>
      intro k hk e
      have hm : (k + 1) % ss.length < ss.length := Nat.mod_lt _ hl
      have hk2 : ss.getD k default ∈ keys m := h.ks _ (by simp [List.getD_eq_getElem?_getD, hk])
      have := hr _ (getN_key hk2) _ (h.nx k hk)
      dsimp only at this
      exact ih _ (by omega) _ hm rfl
  exact key _ 0 hl rfl
theorem plistX_en (m : Nd) : PlistX [enc m] = some (true, .lst ((keys m).map .str)) := by
  have h1 : Plist [enc m] = none := rfl
  have h2 : PlistD [enc m] = some (true, .lst ((keys m).map .str)) := by simp only [PlistD, keys_en]
  simp only [PlistX, orP, h1, h2]
theorem ring_in_wp {m : Nd} {K : GR → Prop} (hm : Wf m) (q1 : Acyc m → K (.ok false .non none)) (q2 : ∀ ss, Ring m ss → K (.ok false (.tup (ss.map .str)) none)) : wG g_ring_in [(false, enc m)] K := by
  unfold g_ring_in
  rw [wG_run (by rfl) (by simp [ownIx])]
  unfold b_ring_in
  simp? only []
  refine unfinished_wp hm fun left hs hst hac => ?_
  simp? only [plistX_en, Psl]
  have c1 : cutA ((keys left).map Val.str) none (some 1) = ((keys left).take 1).map .str := by rw [show (1 : Int) = ((1 : Nat) : Int) from rfl, cut_to, List.map_take]
  rw [c1]
  by_cases he : left = []
  · subst he
    have := hac rfl
    have hz := pne_nilX [] (by simp)
    simp only [List.map_nil, decide_true, Bool.not_true] at hz
    simp only [keys, List.map_nil, List.take_nil]
    rw [wS_whl]
    simp? only [W4_ring_in, hz, kW]
    exact q1 this
  have ndl : (keys left).Nodup := List.Nodup.sublist (hs.map _) hm.nd
  have ksub : ∀ s, s ∈ keys left → s ∈ keys m := fun s h => (hs.map _).subset h
  have cpl : ∀ s, s ∈ keys left → CpOk s := fun s h => (hm.nm s (ksub s h)).cp
  have gl : ∀ s, s ∈ keys left → getN left s = getN m s := fun s h => (getN_mem hm.nd (hs.subset (getN_key h))).symm
  have hlen : (keys left).length ≤ 60 := by have := hs.length_le; have := hm.len; simp [keys]; omega
  obtain ⟨I, hI⟩ : ∃ I : Nat → M.Env → Prop, I = fun k r => ∃ (walk : List Str) (b3 : M.Slot), k = 61 - walk.length ∧ walk ≠ [] ∧ walk.Nodup ∧ (∀ s ∈ walk, s ∈ keys left) ∧ (∀ i, i + 1 < walk.length → walk.getD (i + 1) default ∈ getN m (walk.getD i default)) ∧
      r = [some (false, enc m), some (false, enc left), some (true, .lst (walk.map .str)), b3, none] := ⟨_, rfl⟩
  have h0 : (keys left).take 1 ≠ [] := by
    cases left with
    | nil => exact absurd rfl he
    | cons a l => simp [keys]
  have h0l : ((keys left).take 1).length ≤ 1 := by simp; omega
  refine wW_inv I ?_ _ (61 - ((keys left).take 1).length) _ (by omega) ?_
  · intro k r h
    rw [hI] at h
    obtain ⟨walk, b3, rfl, hne, hnd, hin, hnx, rfl⟩ := h
    have hwl : 0 < walk.length := List.length_pos_iff.mpr hne
    have hwk : walk.length ≤ 60 := by
      have := nodup_len hnd hin
      omega
    have cw : ∀ s ∈ walk, CpOk s := fun s h => cpl s (hin s h)
    have hlast := pix_last (xs := walk.map Val.str) (by simpa using hwl)
    simp only [List.length_map, List.getElem_map] at hlast
    have hw1 : walk[walk.length - 1] ∈ keys left := hin _ (List.getElem_mem _)
    have hng : Pneg [.int 1] = some (false, .int (-1)) := rfl
    simp? only [W4_ring_in, pne_nilX _ cw, hne, decide_false, kTurnW_e1, L3_ring_in, hng, hlast, pix_en left _ hw1]
    have hgl : (getN left walk[walk.length - 1]).length ≤ 60 := hm.ll _ (hs.subset (getN_key hw1))
    refine wC_map Val.str (fun y => .str y) (fun y => decide (y ∈ keys left)) (getN left walk[walk.length - 1]) (fun y hy => ⟨_, rfl, ?_, rfl, fun _ => ?_⟩) (by omega) ?_
    · simp? only [F2_ring_in, pin_en]
    · simp? only [E1_ring_in]
      exact ⟨_, _, rfl, rfl⟩
    obtain ⟨y0, hy0, hy1⟩ := hst _ (getN_key hw1)
    simp only at hy0
    cases hf : (getN left walk[walk.length - 1]).filter fun y => decide (y ∈ keys left) with
    | nil =>
      have : y0 ∈ (getN left walk[walk.length - 1]).filter fun y => decide (y ∈ keys left) := List.mem_filter.mpr ⟨hy0, by simpa using hy1⟩
      rw [hf] at this; cases this
    | cons f fs =>
      have hfm : f ∈ (getN left walk[walk.length - 1]).filter fun y => decide (y ∈ keys left) := by rw [hf]; simp
      obtain ⟨hf1, hf2⟩ := List.mem_filter.mp hfm
      have hf2 : f ∈ keys left := by simpa using hf2
      rw [gl _ hw1] at hf1
      have hp0 : Pix [.lst ((f :: fs).map fun y => Val.str y), .int 0] = some (false, .str f) := by
        rw [pix_lst (by decide) (by simp)]; rfl
      simp? only [] at hp0
      simp? only [hp0, pin_lst f walk (cpl f hf2) cw]
      by_cases hfw : f ∈ walk
      · obtain ⟨j, hj, hj1, hj2, hj3⟩ := pindex_strs hfw (cpl f hf2) cw
        have hji : walk[j] = f := by rw [List.getElem?_eq_getElem hj] at hj1; exact Option.some.inj hj1
        simp? only [hfw, decide_true, hj3, Psl, cut_from]
        rw [← List.map_drop]
        refine q2 (walk.drop j) ⟨?_, ?_, ?_, ?_⟩
        · intro z
          have := congrArg List.length z
          simp at this; omega
        · exact fun s h => ksub _ (hin s (List.mem_of_mem_drop h))
        · exact hnd.sublist (List.drop_sublist _ _)
        · intro k hk
          rw [List.length_drop] at hk
          have e1 : ∀ i, (walk.drop j).getD i default = walk.getD (j + i) default := fun i => by simp [List.getD_eq_getElem?_getD, List.getElem?_drop]
          rw [List.length_drop, e1, e1]
          by_cases hk2 : k + 1 < walk.length - j
          · rw [Nat.mod_eq_of_lt hk2]
            exact hnx (j + k) (by omega)
          · have : k + 1 = walk.length - j := by omega
            rw [this, Nat.mod_self]
            have e2 : j + k = walk.length - 1 := by omega
            rw [e2, Nat.add_zero]
            simp only [List.getD_eq_getElem?_getD, List.getElem?_eq_getElem hj, List.getElem?_eq_getElem (show walk.length - 1 < walk.length by omega), Option.getD_some, hji]
            exact hf1
      · have hma := mapp (ds := walk.map Val.str) (v := .str f) (by simp; omega)
        simp? only [hfw, decide_false, hma]
        rw [hI]
        refine ⟨61 - (walk ++ [f]).length, by simp; omega, walk ++ [f], _, rfl, by simp, ?_, ?_, ?_, by rw [List.map_append]; rfl⟩
        · rw [List.nodup_append]
          exact ⟨hnd, by simp, fun a ha b hb e => hfw (by rw [List.mem_singleton.mp hb] at e; rw [← e]; exact ha)⟩
        · intro s h
          rcases List.mem_append.mp h with z | z
          · exact hin s z
          · rw [List.mem_singleton.mp z]; exact hf2
        · intro i hi
          rw [List.length_append, List.length_singleton] at hi
          by_cases hi2 : i + 1 < walk.length
          · have := hnx i hi2
            simp only [List.getD_eq_getElem?_getD] at this ⊢
            rw [List.getElem?_append_left hi2, List.getElem?_append_left (by omega)]
            exact this
          · have e2 : i = walk.length - 1 := by omega
            subst e2
            simp only [List.getD_eq_getElem?_getD]
            have e4 : (walk ++ [f])[walk.length - 1 + 1]? = some f := by
              rw [List.getElem?_append_right (by omega), show walk.length - 1 + 1 - walk.length = 0 by omega]; rfl
            have e5 : (walk ++ [f])[walk.length - 1]? = walk[walk.length - 1]? := List.getElem?_append_left (by omega)
            rw [e4, e5, List.getElem?_eq_getElem (show walk.length - 1 < walk.length by omega)]
            exact hf1
  · rw [hI]
    refine ⟨(keys left).take 1, none, rfl, h0, ndl.sublist (List.take_sublist _ _), fun s h => List.mem_of_mem_take h, ?_, rfl⟩
    · intro i hi
      have := Nat.lt_of_lt_of_le hi h0l
      omega
end PK
namespace PK
open PySem L2 M 
/-! ### names -/
def nameB (s : Str) : Bool := decide (1 ≤ s.length ∧ s.length ≤ 8) && s.cps.toList.all fun c => decide (97 ≤ c ∧ c ≤ 122)
def isNm : Val → Bool
  | .str s => nameB s
  | _ => false
theorem nameB_iff {s : Str} : nameB s = true ↔ IsName s := by
  unfold nameB
  simp only [Bool.and_eq_true, decide_eq_true_eq, List.all_eq_true]
  constructor
  · rintro ⟨h1, h2⟩
    rw [← len_list] at h1
    exact ⟨s.cps.toList, (mk_eta s).symm, h1.1, h1.2, h2⟩
  · rintro ⟨l, rfl, h1, h2, h3⟩
    rw [mk_len, mk_list]
    exact ⟨⟨h1, h2⟩, h3⟩
theorem nameB_of {s : Str} (h : IsName s) : nameB s = true := nameB_iff.mpr h
theorem pin_letter (c : Nat) : PinX [.str (one c), .str "abcdefghijklmnopqrstuvwxyz"] = some (false, .bl (decide (97 ≤ c ∧ c ≤ 122))) := by
  have h : ("abcdefghijklmnopqrstuvwxyz" : Str).cps.toList = List.range' 97 26 := by decide +kernel
  have h2 : Pin [.str (one c), .str "abcdefghijklmnopqrstuvwxyz"] = some (false, .bl (decide (97 ≤ c ∧ c ≤ 122))) := by
    simp only [Pin, inOf, one, h]
    simp only [List.mem_range'_1]
    have h3 : decide (97 ≤ c ∧ c < 97 + 26) = decide (97 ≤ c ∧ c ≤ 122) := decide_eq_decide.mpr (by omega)
    rw [h3]
  simp only [PinX, orP, PinD, h2]
theorem is_name_wp {v : Val} {K : GR → Prop} (hv : (tyOf v).isSome = true) (q : K (.ok false (.bl (isNm v)) none)) : wG g_is_name [(false, v)] K := by
  unfold g_is_name
  rw [wG_run (by rfl) (by simp [ownIx])]
  unfold b_is_name
  by_cases hs : ∃ s, v = .str s
  · obtain ⟨s, rfl⟩ := hs
    simp? only [isi_ss, M.cmpI]
    by_cases h1 : 1 ≤ s.length
    · have a1 : (1 : Int) ≤ (s.length : Int) := by omega
      simp? only [a1, decide_true]
      by_cases h2 : s.length ≤ 8
      · have a2 : (s.length : Int) ≤ 8 := by omega
        simp? only [a2, decide_true, signs_one]
        have hl := len_list s
        refine wC_map (fun c => .str (one c)) (fun c => .bl (decide (97 ≤ c ∧ c ≤ 122))) (fun _ => true) s.cps.toList (fun c hc => ⟨_, rfl, rfl, rfl, fun _ => ?_⟩) (by omega) ?_
        · simp? only [E1_is_name, pin_letter]
          exact ⟨_, _, rfl, rfl⟩
        rw [filter_yes]
        simp? only [pall_map]
        have : isNm (.str s) = s.cps.toList.all fun c => decide (97 ≤ c ∧ c ≤ 122) := by
          simp only [isNm, nameB]; rw [decide_eq_true ⟨h1, h2⟩, Bool.true_and]
        rw [this] at q
        exact q
      · have a2 : ¬ (s.length : Int) ≤ 8 := by omega
        simp? only [a2, decide_false]
        have : isNm (.str s) = false := by simp only [isNm, nameB]; rw [decide_eq_false (by omega), Bool.false_and]
        rw [this] at q
        exact q
    · have a1 : ¬ (1 : Int) ≤ (s.length : Int) := by omega
      simp? only [a1, decide_false]
      have : isNm (.str s) = false := by simp only [isNm, nameB]; rw [decide_eq_false (by omega), Bool.false_and]
      rw [this] at q
      exact q
  · have hs' : ∀ s, v ≠ .str s := fun s z => hs ⟨s, z⟩
    have hi : Pisi [v, .ty "str"] = some (false, .bl false) := by
      rw [pisi_ok hv (by simp)]
      cases v with
      | str s => exact absurd rfl (hs' s)
      | _ => first | rfl | simp [tyOf] at hv
    simp? only [hi]
    have : isNm v = false := by
      cases v with
      | str s => exact absurd rfl (hs' s)
      | _ => rfl
    rw [this] at q
    exact q
/-! ### rows -/
theorem enum_len (xs : List Val) : (enumV xs).length = xs.length := by simp [enumV]
theorem enum_get {xs : List Val} {k : Nat} (h : k < (enumV xs).length) : (enumV xs)[k] = .tup [.int (k : Nat), xs[k]'(by simpa [enumV] using h)] := by simp [enumV]
/-- a row of rows, as a tuple or a list -/
def IsRows (R : Val) (rows : List Str) : Prop := R = .tup (rows.map .str) ∨ R = .lst (rows.map .str)
structure Rows (rows : List Str) : Prop where
  nd : rows.Nodup
  nm : ∀ s ∈ rows, IsName s
  len : rows.length ≤ 60
theorem IsRows.in_ {R : Val} {rows : List Str} (h : IsRows R rows) (hc : ∀ s ∈ rows, CpOk s) {x : Str} (hx : CpOk x) : PinX [.str x, R] = some (false, .bl (decide (x ∈ rows))) := by
  rcases h with rfl | rfl
  · exact pin_tup x rows
  · exact pin_lst x rows hx hc
theorem IsRows.notIn {R : Val} {rows : List Str} (h : IsRows R rows) (hc : ∀ s ∈ rows, CpOk s) {x : Str} (hx : CpOk x) : PnotInX [.str x, R] = some (false, .bl (!decide (x ∈ rows))) := by
  rcases h with rfl | rfl
  · exact pnotin_tup x rows
  · exact pnotin_lst x rows hx hc
theorem IsRows.items {R : Val} {rows : List Str} (h : IsRows R rows) : itemsOf R = some (rows.map .str) := by rcases h with rfl | rfl <;> rfl
theorem IsRows.tuple {R : Val} {rows : List Str} (h : IsRows R rows) : Ptuple [R] = some (false, .tup (rows.map .str)) := by rcases h with rfl | rfl <;> rfl
theorem first_wrong_wp {R : Val} {rows : List Str} {K : GR → Prop} (hR : IsRows R rows) (h : Rows rows) (q : K (.ok false .non none)) : wG g_first_wrong [(false, R)] K := by
  have cp : ∀ s ∈ rows, CpOk s := fun s hs => (h.nm s hs).cp
  unfold g_first_wrong
  rw [wG_run (by rfl) (by simp [ownIx])]
  unfold b_first_wrong
  have main : ∀ r0, (r0 = some (false, R)) → wL (tgT (tgCons (M.tgN 1) (tgCons (M.tgN 2) tgNil))) L1_first_wrong (enumV (rows.map .str)) [r0, none, none] (kseq (M.ret (cst .non)) (kdef [(false, R)] K)) := by
    rintro r0 rfl
    obtain ⟨I, hI⟩ : ∃ I : List Val → M.Env → Prop, I = fun vs r => ∃ (k : Nat) (b1 b2 : M.Slot), vs = (enumV (rows.map .str)).drop k ∧ k ≤ (enumV (rows.map .str)).length ∧ r = [some (false, R), b1, b2] := ⟨_, rfl⟩
    refine wL_inv I ?_ ?_ _ _ (by rw [hI]; exact ⟨0, none, none, rfl, by omega, rfl⟩)
    · intro v vs r hh
      rw [hI] at hh
      obtain ⟨k, b1, b2, e, hk, rfl⟩ := hh
      obtain ⟨hk2, rfl, rfl⟩ := drop_step e
      rw [enum_get hk2, List.getElem_map]
      have hk3 : k < rows.length := by simpa [enumV] using hk2
      have hlen := h.len
      have h60 : ¬ ((k : Int) = 60) := by omega
      simp? only [M.kT_e1, L1_first_wrong, peqI, h60, decide_false]
      refine is_name_wp rfl ?_
      have hn := nameB_of (h.nm _ (List.getElem_mem hk3))
      simp? only [isNm, hn]
      have hnot : rows[k] ∉ rows.take k := by
        intro z
        obtain ⟨i, hi, ei⟩ := List.mem_take_iff_getElem.mp z
        have := (List.getElem_inj h.nd).mp ei
        omega
      rcases hR with rfl | rfl
      · simp? only [Psl, cut_to]
        rw [← List.map_take]
        simp? only [pin_tup, hnot, decide_false]
        rw [hI]
        exact ⟨k + 1, _, _, rfl, hk2, rfl⟩
      · simp? only [Psl, cut_to]
        rw [← List.map_take]
        simp? only [pin_lst _ _ (cp _ (List.getElem_mem hk3)) (fun s hs => cp s (List.mem_of_mem_take hs)), hnot, decide_false]
        rw [hI]
        exact ⟨k + 1, _, _, rfl, hk2, rfl⟩
    · intro r hh
      rw [hI] at hh
      obtain ⟨k, b1, b2, e, hk, rfl⟩ := hh
      simp? only []
      exact q
  rcases hR with rfl | rfl
  · simp? only []
    exact main _ rfl
  · simp? only []
    exact main _ rfl
theorem isis_tl {R : Val} {rows : List Str} (h : IsRows R rows) : Pisis [R, .tup [.ty "tuple", .ty "list"]] = some (false, .bl true) := by
  have k1 := kit_tab "tuple" (by simp) "tuple" (by simp)
  have k2 := kit_tab "list" (by simp) "tuple" (by simp)
  have k3 := kit_tab "list" (by simp) "list" (by simp)
  simp at k1 k2 k3
  rcases h with rfl | rfl
  · simp [Pisis, tyOf, kitA, k1]
  · simp [Pisis, tyOf, kitA, k2, k3]
theorem need_rows_wp {R : Val} {rows : List Str} {K : GR → Prop} (hR : IsRows R rows) (h : Rows rows) (q : K (.ok false .non none)) : wG g_need_rows [(false, R)] K := by
  unfold g_need_rows
  rw [wG_run (by rfl) (by simp [ownIx])]
  unfold b_need_rows
  simp? only [isis_tl hR]
  refine first_wrong_wp hR h ?_
  simp? only [PisNot]
  exact q
/-! ### needs -/
def areB (rows : List Str) : Val → Bool
  | .tup xs => match asStrs xs with
    | some ss => (ss.all fun s => nameB s && decide (s ∈ rows)) && decide ss.Nodup
    | none => false
  | _ => false
theorem nm_all {rows : List Str} {xs : List Val} (h : (xs.all fun x => isNm x && decide (unstr x ∈ rows)) = true) : ∃ ss : List Str, xs = ss.map .str ∧ ∀ s ∈ ss, IsName s ∧ s ∈ rows := by
  induction xs with
  | nil => exact ⟨[], rfl, by simp⟩
  | cons x xs ih =>
    simp only [List.all_cons, Bool.and_eq_true] at h
    obtain ⟨ss, rfl, h2⟩ := ih (by simpa using h.2)
    cases x with
    | str s =>
      refine ⟨s :: ss, rfl, fun y hy => (List.mem_cons.mp hy).elim (fun z => ?_) (h2 y)⟩
      rw [z]
      exact ⟨nameB_iff.mp h.1.1, of_decide_eq_true h.1.2⟩
    | _ => exact absurd h.1.1 (by simp [isNm])
theorem are_needs_wp {R v : Val} {rows : List Str} {K : GR → Prop} (hR : IsRows R rows) (hc : ∀ s ∈ rows, CpOk s) (hv : (tyOf v).isSome = true) (hx : ∀ xs, v = .tup xs → xs.length ≤ 1000 ∧ ∀ x ∈ xs, (tyOf x).isSome = true) (q : K (.ok false (.bl (areB rows v)) none)) : wG g_are_needs [(false, R), (false, v)] K := by
  unfold g_are_needs
  rw [wG_run (by rfl) (by simp [ownIx])]
  unfold b_are_needs
  by_cases ht : ∃ xs, v = .tup xs
  · obtain ⟨xs, rfl⟩ := ht
    obtain ⟨hl, hty⟩ := hx xs rfl
    simp? only [isi_tt]
    refine wC_mapV (fun x => .bl (isNm x && decide (unstr x ∈ rows))) (fun _ => true) xs (fun x hx => ⟨_, rfl, rfl, rfl, fun _ => ?_⟩) (by omega) ?_
    · simp? only [E1_are_needs]
      refine is_name_wp (hty x hx) ?_
      cases hn : isNm x with
      | false =>
        simp? only []
        exact ⟨_, _, rfl, rfl⟩
      | true =>
        cases x with
        | str s =>
          simp? only [hR.in_ hc (nameB_iff.mp (show nameB s = true from hn)).cp]
          exact ⟨_, _, rfl, rfl⟩
        | _ => simp [isNm] at hn
    rw [filter_yes]
    simp? only [pall_map]
    by_cases ha : (xs.all fun x => isNm x && decide (unstr x ∈ rows)) = true
    · obtain ⟨ss, rfl, hss⟩ := nm_all ha
      have hl1000 : ss.length ≤ 1000 := by simpa using hl
      simp? only [ha, asStrs_map, List.length_map, hl1000, peqI, set_eq]
      have : areB rows (.tup (ss.map .str)) = decide ss.Nodup := by
        simp only [areB, asStrs_map]
        rw [show (ss.all fun s => nameB s && decide (s ∈ rows)) = true from List.all_eq_true.mpr fun s hs => by rw [nameB_of (hss s hs).1, decide_eq_true (hss s hs).2]; rfl, Bool.true_and]
      rw [this] at q
      exact q
    · have ha' : (xs.all fun x => isNm x && decide (unstr x ∈ rows)) = false := by simpa using ha
      simp? only [ha']
      have : areB rows (.tup xs) = false := by
        simp only [areB]
        cases h : asStrs xs with
        | none => rfl
        | some ss =>
          have := asStrs_some h
          subst this
          simp only
          rw [show (ss.all fun s => nameB s && decide (s ∈ rows)) = false from ?_, Bool.false_and]
          rw [List.all_map] at ha'
          exact ha'
      rw [this] at q
      exact q
  · have ht' : ∀ xs, v ≠ .tup xs := fun s z => ht ⟨s, z⟩
    have hi : Pisi [v, .ty "tuple"] = some (false, .bl false) := by
      rw [pisi_ok hv (by simp)]
      cases v with
      | tup s => exact absurd rfl (ht' s)
      | _ => first | rfl | simp [tyOf] at hv
    simp? only [hi]
    have : areB rows v = false := by
      cases v with
      | tup s => exact absurd rfl (ht' s)
      | _ => rfl
    rw [this] at q
    exact q
/-- needs that a sheet of these rows may have -/
structure Raw (rows : List Str) (m : Nd) : Prop where
  nd : (keys m).Nodup
  ks : ∀ s ∈ keys m, s ∈ rows
  vl : ∀ p ∈ m, p.2.Nodup ∧ ∀ y ∈ p.2, y ∈ rows
theorem areB_of {rows vs : List Str} (hn : ∀ s ∈ rows, IsName s) (h1 : vs.Nodup) (h2 : ∀ y ∈ vs, y ∈ rows) : areB rows (.tup (vs.map .str)) = true := by
  simp only [areB, asStrs_map]
  rw [decide_eq_true h1, Bool.and_true, List.all_eq_true]
  intro s hs
  rw [nameB_of (hn s (h2 s hs)), decide_eq_true (h2 s hs)]; rfl
theorem Raw.ll {rows : List Str} {m : Nd} (hr : Rows rows) (h : Raw rows m) : ∀ p ∈ m, p.2.length ≤ 60 := fun p hp => by
  have := nodup_len (h.vl p hp).1 (h.vl p hp).2
  have := hr.len
  omega
theorem need_needs_wp {R : Val} {rows : List Str} {m : Nd} {K : GR → Prop} (hR : IsRows R rows) (h : Rows rows) (hm : Raw rows m) (q : K (.ok false .non none)) : wG g_need_needs [(false, R), (false, enc m)] K := by
  have cp : ∀ s ∈ rows, CpOk s := fun s hs => (h.nm s hs).cp
  unfold g_need_needs
  rw [wG_run (by rfl) (by simp [ownIx])]
  unfold b_need_needs
  have hi : Pisi [enc m, .ty "dict"] = some (false, .bl true) := pisi_ok rfl (by simp)
  simp? only [hi, pairs_en]
  obtain ⟨I, hI⟩ : ∃ I : List Val → M.Env → Prop, I = fun vs r => ∃ (k : Nat) (b1 b2 : M.Slot), vs = (m.map prV).drop k ∧ k ≤ (m.map prV).length ∧ r = [some (false, R), some (false, enc m), b1, b2] := ⟨_, rfl⟩
  refine wL_inv I ?_ ?_ _ _ (by rw [hI]; exact ⟨0, none, none, rfl, by omega, rfl⟩)
  · intro v vs r hh
    rw [hI] at hh
    obtain ⟨k, b1, b2, e, hk, rfl⟩ := hh
    obtain ⟨hk2, rfl, rfl⟩ := drop_step e
    rw [List.getElem_map]
    have hk3 : k < m.length := by simpa using hk2
    have hmem : m[k] ∈ m := List.getElem_mem hk3
    have hkey := hm.ks _ (keys_mem hmem)
    have hv := hm.vl _ hmem
    simp? only [M.kT_e1, L1_need_needs, hR.notIn cp (cp _ hkey), hkey, decide_true]
    refine are_needs_wp hR cp rfl (fun xs e => ?_) ?_
    · cases e
      have := hm.ll h _ hmem
      exact ⟨by rw [List.length_map]; omega, fun x hx => by obtain ⟨s, _, rfl⟩ := List.mem_map.mp hx; rfl⟩
    rw [areB_of h.nm hv.1 hv.2]
    simp? only []
    rw [hI]
    exact ⟨k + 1, _, _, rfl, hk2, rfl⟩
  · intro r hh
    rw [hI] at hh
    obtain ⟨k, b1, b2, e, hk, rfl⟩ := hh
    simp? only []
    exact q
end PK
namespace PK
open PySem L2 M 
/-! ### texts of sheets -/
theorem app_len (a b : Str) : (a ++ b).length = a.length + b.length := by
  show (a.cps ++ b.cps).size = _
  rw [Array.size_append]; rfl
theorem join_len (sep : Str) : ∀ ys : List Str, (Str.join sep ys).length ≤ (ys.map (·.length)).sum + ys.length * sep.length
  | [] => by simp [Str.join]; rfl
  | [x] => by simp [Str.join]
  | x :: y :: l => by
    have ih := join_len sep (y :: l)
    rw [Str.join, app_len, app_len]
    · simp only [List.map_cons, List.sum_cons, List.length_cons, Nat.add_mul] at ih ⊢
      omega
    · simp
theorem sum_le (ys : List Str) (B : Nat) (h : ∀ y ∈ ys, y.length ≤ B) : (ys.map (·.length)).sum ≤ ys.length * B := by
  induction ys with
  | nil => simp
  | cons y ys ih =>
    have := ih fun z hz => h z (List.mem_cons_of_mem _ hz)
    have := h y (by simp)
    simp only [List.map_cons, List.sum_cons, List.length_cons, Nat.add_mul]
    omega
theorem join_le (a : Str) (ys : List Str) (B : Nat) (h : ∀ y ∈ ys, y.length ≤ B) : (Str.join a ys).length ≤ ys.length * (B + a.length) := by
  have := join_len a ys
  have := sum_le ys B h
  rw [Nat.mul_add]
  omega
theorem pjoin_of (a : Str) (ys : List Str) (B : Nat) (h : ∀ y ∈ ys, y.length ≤ B) (h2 : ys.length * (B + a.length) ≤ 16777216) : Pjoin [.str a, .lst (ys.map .str)] = some (false, .str (Str.join a ys)) := by
  have e : Txt.join a ys = Str.join a ys := PySem.StrLaws.glued_eq_join a ys
  have h3 := join_le a ys B h
  have h4 := sum_le ys B h
  rw [Nat.mul_add] at h2 h3
  simp only [Pjoin, asStrs_map, e]
  rw [if_pos ⟨by omega, by rw [sizeLine_eq]; omega⟩]
theorem pne_tnil (ss : List Str) (h : ∀ s ∈ ss, CpOk s) : PneX [.tup (ss.map .str), .tup []] = some (false, .bl (!decide (ss = []))) := by
  have h1 := shp_tup ss h
  have h2 := shp_tup [] (by simp)
  simp only [List.map_nil] at h2
  cases ss with
  | nil => simp [PneX, orP, PneS, Pne, toD, toDs, h2, PyData.eqv, PyData.eqvAll]
  | cons c cs =>
    simp only [List.map_cons] at h1
    simp [PneX, orP, PneS, Pne, toD, toDs, toDs_strs, h1, h2, PyData.eqv, PyData.eqvAll]
def nmC (s : Str) : Str := (Str.empty ++ s) ++ ":"
def rowT (s : Str) (ns : List Str) : Str := if ns = [] then s else Str.join " " (nmC s :: ns)
def sheetT (rows : List Str) (m : Nd) : Str := Str.join "\n" (rows.map fun s => rowT s (getN m s))
theorem nmC_len (s : Str) : (nmC s).length = s.length + 1 := by
  unfold nmC
  rw [app_len, app_len]
  show 0 + s.length + 1 = _
  omega
theorem rowT_len {s : Str} {ns : List Str} (hs : IsName s) (hn : ∀ y ∈ ns, IsName y) (hl : ns.length ≤ 60) : (rowT s ns).length ≤ 1000 := by
  unfold rowT
  have h8 := hs.len
  split
  · omega
  · have := join_le " " (nmC s :: ns) 9 fun y hy => by
      rcases List.mem_cons.mp hy with rfl | hy
      · rw [nmC_len]; omega
      · have := (hn y hy).len; omega
    rw [show (" " : Str).length = 1 from rfl, List.length_cons] at this
    omega
theorem row_text_wp {s : Str} {ns : List Str} {K : GR → Prop} (hs : IsName s) (hn : ∀ y ∈ ns, IsName y) (hl : ns.length ≤ 60) (q : K (.ok false (.str (rowT s ns)) none)) : wG g_row_text [(false, .str s), (false, .tup (ns.map .str))] K := by
  unfold g_row_text
  rw [wG_run (by rfl) (by simp [ownIx])]
  unfold b_row_text
  have h8 := hs.len
  simp? only [pne_tnil ns fun y hy => (hn y hy).cp]
  by_cases h0 : ns = []
  · simp? only [h0, decide_true]
    rw [rowT, if_pos h0] at q
    exact q
  · have hj := pjoin_of " " (nmC s :: ns) 9 (fun y hy => by
      rcases List.mem_cons.mp hy with rfl | hy
      · rw [nmC_len]; omega
      · have := (hn y hy).len; omega) (by rw [show (" " : Str).length = 1 from rfl, List.length_cons]; omega)
    simp only [List.map_cons] at hj
    have l1 : (Str.empty ++ s).length ≤ sizeLine := by
      rw [app_len, sizeLine_eq]
      show 0 + s.length ≤ _
      omega
    have l2 : (nmC s).length ≤ sizeLine := by
      rw [nmC_len s, sizeLine_eq]
      omega
    have l3 : (ns.map Val.str).length + 1 ≤ 100000 := by rw [List.length_map]; omega
    have e1 : Str.empty ++ s ++ ":" = nmC s := rfl
    simp? only [h0, decide_false, Pfmt, l1, l2, l3, e1, tyOf, hj]
    rw [rowT, if_neg h0] at q
    exact q
/-! ### sheets -/
def ordL (rows : List Str) : List (Str × Val) := rows.zipIdx.map fun p => (p.1, .int (p.2 : Nat))
theorem ord_keys (rows : List Str) : (ordL rows).map (·.1) = rows := by
  unfold ordL
  rw [List.map_map]
  have : ∀ (l : List Str) (n : Nat), (l.zipIdx n).map (fun p => p.1) = l := by
    intro l
    induction l with
    | nil => intro n; rfl
    | cons a l ih => intro n; simp [ih]
  exact this rows 0
theorem ord_get {rows : List Str} {s : Str} (h : s ∈ rows) : (ordL rows).lookup s = some (.int (rows.idxOf s : Nat)) := by
  have key : ∀ (l : List Str) (n : Nat), s ∈ l → ((l.zipIdx n).map fun p => (p.1, Val.int (p.2 : Nat))).lookup s = some (.int ((n + l.idxOf s : Nat) : Int)) := by
    intro l
    induction l with
    | nil => intro n h; cases h
    | cons a l ih =>
      intro n h
      simp only [List.zipIdx_cons, List.map_cons, List.lookup_cons]
      by_cases e : s = a
      · subst e
        simp
      · have e1 : (s == a) = false := beq_eq_false_iff_ne.mpr e
        rw [e1]
        simp only
        rw [ih (n + 1) ((List.mem_cons.mp h).resolve_left e), List.idxOf_cons]
        have e2 : (a == s) = false := beq_eq_false_iff_ne.mpr fun z => e z.symm
        rw [e2]
        simp
        omega
  have := key rows 0 h
  rw [Nat.zero_add] at this
  exact this
def sheetF (rows : List Str) (m : Nd) : List (Str × Val) := [("names", .tup (rows.map .str)), ("direct", enc m), ("order", .dct false (sd (ordL rows))), ("shown", .str (sheetT rows m))]
abbrev sheetV (rows : List Str) (m : Nd) : Val := .obj "Sheet" (sheetF rows m)
/-- what a method leaves of a lent object -/
def bk (o : Bool) (v : Val) : Option (Bool × Val) := if o = true then some (true, v) else none
theorem needs_wp {o : Bool} {fs : List (Str × Val)} {m : Nd} {K : GR → Prop} (h : fs.lookup ("direct" : Str) = some (enc m)) (q : K (.ok true (enc m) (bk o (.obj "Sheet" fs)))) : wG g_C_Sheet_needs [(o, .obj "Sheet" fs)] K := by
  unfold g_C_Sheet_needs
  rw [wG_run (by rfl) (by cases o <;> simp [ownIx])]
  unfold b_C_Sheet_needs
  have hp : Pfld ["Sheet"] "direct" [.obj "Sheet" fs] = some (false, enc m) := by simp [Pfld, h]
  cases o
  · simp? only [hp, Pdict, M.kdef_e2, M.kd2_e1]
    exact q
  · simp? only [hp, Pdict, M.kdef_e2, M.kd2_e1]
    exact q
theorem rows_wp {o : Bool} {fs : List (Str × Val)} {rows : List Str} {K : GR → Prop} (h : fs.lookup ("names" : Str) = some (.tup (rows.map .str))) (q : K (.ok false (.tup (rows.map .str)) (bk o (.obj "Sheet" fs)))) : wG g_C_Sheet_rows [(o, .obj "Sheet" fs)] K := by
  unfold g_C_Sheet_rows
  rw [wG_run (by rfl) (by cases o <;> simp [ownIx])]
  unfold b_C_Sheet_rows
  have hp : Pfld ["Sheet"] "names" [.obj "Sheet" fs] = some (false, .tup (rows.map .str)) := by simp [Pfld, h]
  cases o
  · simp? only [hp]
    exact q
  · simp? only [hp]
    exact q
end PK
namespace PK
open PySem L2 M 
/-! ### a sheet is made -/
structure HasF (fs : List (Str × Val)) (rows : List Str) (m : Nd) : Prop where
  nm : fs.lookup ("names" : Str) = some (.tup (rows.map .str))
  dr : fs.lookup ("direct" : Str) = some (enc m)
  nn : fs.lookup ("needs" : Str) = none
  nr : fs.lookup ("rows" : Str) = none
/-- needs of a sheet -/
structure Sh (rows : List Str) (m : Nd) : Prop extends Rows rows where
  ks : keys m = rows
  vl : ∀ p ∈ m, p.2.Nodup ∧ ∀ y ∈ p.2, y ∈ rows
  so : ∀ p ∈ m, p.2 = srt p.2
  ac : Acyc m
theorem Sh.wf {rows : List Str} {m : Nd} (h : Sh rows m) : Wf m := by
  have e := h.ks
  refine ⟨by rw [e]; exact h.nd, by rw [e]; exact h.nm, by rw [e]; exact fun p hp => (h.vl p hp).2, ?_, fun p hp => ?_⟩
  · have := congrArg List.length e
    have := h.len
    simp [keys] at *
    omega
  · have := nodup_len (h.vl p hp).1 (h.vl p hp).2
    have := h.len
    omega
theorem sheet_text_wp {o : Bool} {fs : List (Str × Val)} {rows : List Str} {m : Nd} {K : GR → Prop} (hf : HasF fs rows m) (h : Rows rows) (hw : Wf m) (hk : keys m = rows) (q : K (.ok false (.str (sheetT rows m)) (bk o (.obj "Sheet" fs)))) : wG g_sheet_text [(o, .obj "Sheet" fs)] K := by
  have hlen := h.len
  have main : ∀ {Q : AR → Prop} {r0 : M.Slot}, Q (.ok ((rows.map fun s => rowT s (getN m s)).map .str) [r0, some (true, enc m), none]) → wC (M.tgN 2) yesB E1_sheet_text [2] (rows.map .str) [] [r0, some (true, enc m), none] Q := by
    intro Q r0 q
    refine wC_map Val.str (fun s => .str (rowT s (getN m s))) (fun _ => true) rows (fun s hs => ⟨_, rfl, rfl, rfl, fun _ => ?_⟩) (by omega) ?_
    · have hs2 : s ∈ keys m := by rw [hk]; exact hs
      simp? only [E1_sheet_text, pix_en m s hs2]
      refine row_text_wp (h.nm s hs) (fun y hy => hw.nm y (hw.vl _ (getN_key hs2) y hy)) (hw.ll _ (getN_key hs2)) ?_
      simp? only []
      exact ⟨_, _, rfl, rfl⟩
    rw [filter_yes]
    rw [List.map_map] at q
    exact q
  have hj := pjoin_of "\n" (rows.map fun s => rowT s (getN m s)) 1000 (fun y hy => by
    obtain ⟨s, hs, rfl⟩ := List.mem_map.mp hy
    have hs2 : s ∈ keys m := by rw [hk]; exact hs
    exact rowT_len (h.nm s hs) (fun y hy => hw.nm y (hw.vl _ (getN_key hs2) y hy)) (hw.ll _ (getN_key hs2))) (by rw [show ("\n" : Str).length = 1 from rfl, List.length_map]; omega)
  unfold g_sheet_text
  rw [wG_run (by rfl) (by cases o <;> simp [ownIx])]
  unfold b_sheet_text
  cases o
  · simp? only [hf.nn]
    refine needs_wp hf.dr ?_
    simp? only [hf.nr, bk]
    refine rows_wp hf.nm ?_
    simp? only [bk]
    refine main ?_
    simp? only [hj]
    exact q
  · simp? only [hf.nn]
    refine needs_wp hf.dr ?_
    simp? only [hf.nr, bk]
    refine rows_wp hf.nm ?_
    simp? only [bk]
    refine main ?_
    simp? only [hj]
    exact q
/-- the needs that are kept: the rows in order, each with what it needs, ascending -/
def mkN (rows : List Str) (m : Nd) : Nd := rows.map fun s => (s, srt (getN m s))
theorem mkN_keys (rows : List Str) (m : Nd) : keys (mkN rows m) = rows := by
  unfold keys mkN
  rw [List.map_map]
  exact (List.map_congr_left fun _ _ => rfl).trans (List.map_id _)
theorem mkN_get {rows : List Str} {m : Nd} {s : Str} (h : s ∈ rows) : getN (mkN rows m) s = srt (getN m s) := by
  have key : ∀ l : List Str, s ∈ l → (l.map fun s => (s, srt (getN m s))).lookup s = some (srt (getN m s)) := by
    intro l
    induction l with
    | nil => intro h; cases h
    | cons a l ih =>
      intro h
      rw [List.map_cons, List.lookup_cons]
      by_cases e : s = a
      · subst e; simp
      · rw [show (s == a) = false from beq_eq_false_iff_ne.mpr e]
        exact ih ((List.mem_cons.mp h).resolve_left e)
  rw [getN, mkN, key rows h]; rfl
theorem getN_in {rows : List Str} {m : Nd} (hm : Raw rows m) (s : Str) : (getN m s).Nodup ∧ ∀ y ∈ getN m s, y ∈ rows := by
  by_cases h : s ∈ keys m
  · exact hm.vl _ (getN_key h)
  · rw [getN_nil h]; exact ⟨.nil, by simp⟩
theorem mkN_sh {rows : List Str} {m : Nd} (hr : Rows rows) (hm : Raw rows m) (ha : Acyc m) : Sh rows (mkN rows m) := by
  refine { toRows := hr, ks := mkN_keys rows m, vl := fun p hp => ?_, so := fun p hp => ?_, ac := ?_ }
  · obtain ⟨s, _, rfl⟩ := List.mem_map.mp hp
    have := getN_in hm s
    exact ⟨(srt_perm _).nodup_iff.mpr this.1, fun y hy => this.2 y (srt_mem.mp hy)⟩
  · obtain ⟨s, _, rfl⟩ := List.mem_map.mp hp
    exact srt_congr (srt_perm _).symm
  · obtain ⟨rk, h⟩ := ha
    refine ⟨rk, fun p hp y hy => ?_⟩
    obtain ⟨s, _, rfl⟩ := List.mem_map.mp hp
    have hy := srt_mem.mp hy
    by_cases hs : s ∈ keys m
    · exact h _ (getN_key hs) y hy
    · rw [getN_nil hs] at hy; cases hy
theorem pdget_en (m : Nd) (s : Str) : Pdget [enc m, .str s, .tup []] = some (false, .tup ((getN m s).map .str)) := by
  simp only [Pdget, M.keyOf, Option.map_some, dGet_sd, en_get, getN]
  cases m.lookup s <;> rfl
theorem psorted_tup (ss : List Str) (h : ss.length < 64) : PsortedX [.tup (ss.map .str)] = some (true, .lst ((srt ss).map .str)) := by
  simp only [PsortedX, orP, Psorted, asStrs_map]
  rw [if_pos h]
theorem psorted_lst (ss : List Str) (h : ss.length < 64) : PsortedX [.lst (ss.map .str)] = some (true, .lst ((srt ss).map .str)) := by
  simp only [PsortedX, orP, Psorted, asStrs_map]
  rw [if_pos h]
theorem enum_zip (rows : List Str) : enumV (rows.map .str) = rows.zipIdx.map fun p => .tup [.int (p.2 : Nat), .str p.1] := by
  unfold enumV
  rw [List.mapIdx_eq_zipIdx_map, List.zipIdx_map, List.map_map]
  rfl
/-- the fields that a sheet may have before it is filled -/
def Pre (fs : List (Str × Val)) : Prop := fs = [] ∨ ∃ r0 m0, fs = sheetF r0 m0
theorem zip_fst (rows : List Str) : (rows.zipIdx.map fun p => p.1) = rows := by
  have := ord_keys rows
  unfold ordL at this
  rwa [List.map_map] at this
theorem put_len (f : Str) (v : Val) : ∀ fs : List (Str × Val), (putV f v fs).length ≤ fs.length + 1
  | [] => by simp [putV]
  | (g, x) :: r => by
    have := put_len f v r
    rw [putV]
    split <;> simp <;> omega
theorem put4 {fs : List (Str × Val)} (h : Pre fs) (a b c d : Val) : putV "shown" d (putV "order" c (putV "direct" b (putV "names" a fs))) = ([("names", a), ("direct", b), ("order", c), ("shown", d)] : List (Str × Val)) := by
  rcases h with rfl | ⟨r0, m0, rfl⟩ <;> rfl
theorem put3 {fs : List (Str × Val)} (h : Pre fs) (rows : List Str) (m : Nd) (c : Val) : HasF (putV "order" c (putV "direct" (enc m) (putV "names" (.tup (rows.map .str)) fs))) rows m := by
  rcases h with rfl | ⟨r0, m0, rfl⟩ <;> exact ⟨rfl, rfl, rfl, rfl⟩
theorem Pre.len {fs : List (Str × Val)} (h : Pre fs) : fs.length ≤ 4 := by
  rcases h with rfl | ⟨r0, m0, rfl⟩ <;> simp [sheetF]
theorem fill_wp {fs : List (Str × Val)} {R : Val} {rows : List Str} {m : Nd} {K : GR → Prop} (hfs : Pre fs) (hR : IsRows R rows) (hr : Rows rows) (hm : Raw rows m) (ha : Acyc m)
    (q : K (.ok false .non (some (true, sheetV rows (mkN rows m))))) : wG g_C_Sheet_fill [(true, .obj "Sheet" fs), (false, R), (false, enc m)] K := by
  have hlen := hr.len
  have hS := mkN_sh hr hm ha
  unfold g_C_Sheet_fill
  rw [wG_run (by rfl) (by simp [ownIx])]
  unfold b_C_Sheet_fill
  simp? only []
  refine need_rows_wp hR hr ?_
  simp? only []
  refine need_needs_wp hR hr hm ?_
  simp? only [hR.items]
  refine wDC_map Val.str (fun s => s) (fun s => .tup ((srt (getN m s)).map .str)) (fun _ => true) rows (fun s hs => ⟨_, rfl, rfl, rfl, fun _ => ?_⟩) (by omega) ?_ ?_
  · have hl64 : (getN m s).length < 64 := by
      have := nodup_len (getN_in hm s).1 (getN_in hm s).2
      omega
    simp? only [K1_C_Sheet_fill, E2_C_Sheet_fill, tyOf, pdget_en, psorted_tup _ hl64]
    exact ⟨_, rfl, _, _, rfl, rfl⟩
  · rw [filter_yes, List.map_id']; exact hr.nd
  rw [filter_yes]
  have e1 : sd (rows.map fun x => (x, Val.tup ((srt (getN m x)).map .str))) = sd (en (mkN rows m)) := by
    simp only [en, mkN, List.map_map]; rfl
  rw [e1]
  simp? only []
  refine ring_in_wp hS.wf (fun _ => ?_) (fun ss hss => absurd hS.ac hss.no)
  have hmem : ("Sheet" : Str) ∈ (["Sheet"] : List Str) := List.mem_singleton.mpr rfl
  have l0 := hfs.len
  have l1 := put_len "names" (.tup (rows.map .str)) fs
  have l2 := put_len "direct" (enc (mkN rows m)) (putV "names" (.tup (rows.map .str)) fs)
  have l3 := put_len "order" (.dct false (sd (ordL rows))) (putV "direct" (enc (mkN rows m)) (putV "names" (.tup (rows.map .str)) fs))
  have z0 : fs.length < 1000 := by omega
  have z1 : (putV "names" (.tup (rows.map .str)) fs).length < 1000 := by omega
  have z2 : (putV "direct" (enc (mkN rows m)) (putV "names" (.tup (rows.map .str)) fs)).length < 1000 := by omega
  have z3 : (putV "order" (.dct false (sd (ordL rows))) (putV "direct" (enc (mkN rows m)) (putV "names" (.tup (rows.map .str)) fs))).length < 1000 := by omega
  simp? only [PisNot, hR.tuple, hmem, z0, z1]
  have eo : sd (rows.zipIdx.map fun x => (x.1, Val.int (x.2 : Nat))) = sd (ordL rows) := rfl
  rcases hR with rfl | rfl
  · simp? only []
    rw [enum_zip]
    refine wDC_map (fun p : Str × Nat => .tup [.int (p.2 : Nat), .str p.1]) (fun p => p.1) (fun p => .int (p.2 : Nat)) (fun _ => true) rows.zipIdx (fun p hp => ⟨_, rfl, rfl, rfl, fun _ => ?_⟩) (by simp; omega) ?_ ?_
    · simp? only [K3_C_Sheet_fill, E4_C_Sheet_fill]
      exact ⟨_, rfl, _, _, rfl, rfl⟩
    · rw [filter_yes, zip_fst]; exact hr.nd
    rw [filter_yes, eo]
    simp? only [hmem, z2]
    refine sheet_text_wp (put3 hfs rows _ _) hr hS.wf (mkN_keys rows m) ?_
    simp? only [bk, hmem, z3, put4 hfs]
    exact q
  · simp? only []
    rw [enum_zip]
    refine wDC_map (fun p : Str × Nat => .tup [.int (p.2 : Nat), .str p.1]) (fun p => p.1) (fun p => .int (p.2 : Nat)) (fun _ => true) rows.zipIdx (fun p hp => ⟨_, rfl, rfl, rfl, fun _ => ?_⟩) (by simp; omega) ?_ ?_
    · simp? only [K3_C_Sheet_fill, E4_C_Sheet_fill]
      exact ⟨_, rfl, _, _, rfl, rfl⟩
    · rw [filter_yes, zip_fst]; exact hr.nd
    rw [filter_yes, eo]
    simp? only [hmem, z2]
    refine sheet_text_wp (put3 hfs rows _ _) hr hS.wf (mkN_keys rows m) ?_
    simp? only [bk, hmem, z3, put4 hfs]
    exact q
/-- Sheet(), no rows -/
theorem init0_wp {K : GR → Prop} (q : K (.ok false .non (some (true, sheetV [] [])))) : wG g_C_Sheet___init__ [(true, .obj "Sheet" [])] K := by
  unfold g_C_Sheet___init__
  rw [wG_runS ⟨by simp, by simp [lents], by simp, by simp [packS, ownIx]⟩]
  rw [wG_run (by rfl) (by simp [packS, ownIx])]
  unfold b_C_Sheet___init__
  have hp : packS 1 true [(true, Val.obj "Sheet" [])] = [(true, .obj "Sheet" []), (false, .tup []), (false, .dct false [])] := rfl
  have hp2 : (List.lookup ("fill" : Str) ([] : List (Str × Val))) = none := rfl
  rw [hp]
  have e3 : (3 - (1 + 1 + if true = true then 1 else 0)) = 0 := rfl
  rw [e3]
  simp? only [hp2]
  have z1 : Pre [] := .inl rfl
  have z2 : IsRows (.tup []) [] := .inl rfl
  have z3 : Rows [] := ⟨.nil, by simp, by simp⟩
  have z4 : Raw [] [] := ⟨.nil, by simp [keys], by simp⟩
  have z5 : Acyc [] := ⟨fun _ => 0, by simp⟩
  refine fill_wp (fs := []) (R := .tup []) (rows := []) (m := []) z1 z2 z3 z4 z5 ?_
  simp? only []
  exact q
theorem of_wp {R : Val} {rows : List Str} {m : Nd} {K : GR → Prop} (hR : IsRows R rows) (hr : Rows rows) (hm : Raw rows m) (ha : Acyc m) (q : K (.ok true (sheetV rows (mkN rows m)) none)) : wG g_C_Sheet_of [(false, .cls "Sheet"), (false, R), (false, enc m)] K := by
  unfold g_C_Sheet_of
  rw [wG_run (by rfl) (by simp [ownIx])]
  unfold b_C_Sheet_of
  simp? only []
  refine init0_wp ?_
  have hl : (sheetF [] []).lookup ("fill" : Str) = none := rfl
  simp? only [hl]
  refine fill_wp (.inr ⟨[], [], rfl⟩) hR hr hm ha ?_
  simp? only []
  exact q
end PK
namespace PK
open PySem L2 M 
/-! ### what depends on what -/
inductive Dep (m : Nd) : Str → Str → Prop
  | one {a b : Str} : b ∈ getN m a → Dep m a b
  | more {a b c : Str} : b ∈ getN m a → Dep m b c → Dep m a c
theorem Dep.trans {m : Nd} {a b c : Str} (h : Dep m a b) (h2 : Dep m b c) : Dep m a c := by
  induction h with
  | one h => exact .more h h2
  | more h _ ih => exact .more h (ih h2)
theorem Dep.rk {m : Nd} {rk : Str → Nat} (hr : ∀ p ∈ m, ∀ y ∈ p.2, rk y < rk p.1) {a b : Str} (h : Dep m a b) : rk b < rk a := by
  have one : ∀ {a b : Str}, b ∈ getN m a → rk b < rk a := fun {a b} h => by
    by_cases hk : a ∈ keys m
    · exact hr _ (getN_key hk) _ h
    · rw [getN_nil hk] at h; cases h
  induction h with
  | one h => exact one h
  | more h _ ih => have := one h; omega
theorem Dep.irr {m : Nd} (ha : Acyc m) {a : Str} (h : Dep m a a) : False := by
  obtain ⟨rk, hr⟩ := ha
  have := h.rk hr
  omega
theorem Dep.left {m : Nd} {a b : Str} (h : Dep m a b) : a ∈ keys m := by
  have one : ∀ {a b : Str}, b ∈ getN m a → a ∈ keys m := fun {a b} h => by
    refine Classical.byContradiction fun hk => ?_
    rw [getN_nil hk] at h; cases h
  cases h with
  | one h => exact one h
  | more h _ => exact one h
theorem Dep.right {m : Nd} (hw : Wf m) {a b : Str} (h : Dep m a b) : b ∈ keys m := by
  induction h with
  | @one a b h =>
    by_cases hk : a ∈ keys m
    · exact hw.vl _ (getN_key hk) _ h
    · rw [getN_nil hk] at h; cases h
  | more _ _ ih => exact ih
noncomputable def depB (m : Nd) (a b : Str) : Bool := @decide (Dep m a b) (Classical.propDecidable _)
theorem depB_iff {m : Nd} {a b : Str} : depB m a b = true ↔ Dep m a b := by unfold depB; simp
theorem depB_eq {m : Nd} {a b : Str} {t : Bool} (h : t = true ↔ Dep m a b) : t = depB m a b := by
  rw [Bool.eq_iff_iff, depB_iff]; exact h
/-! ### closure -/
abbrev clE (p : Str × List Str) : Str × Val := (p.1, .dct false (tdict (.bl true) p.2))
abbrev encC (cl : Nd) : Val := .dct false (sd (cl.map clE))
theorem clE_keys (cl : Nd) : (cl.map clE).map (·.1) = keys cl := by
  rw [List.map_map]; rfl
theorem clE_get (cl : Nd) (k : Str) : (cl.map clE).lookup k = (cl.lookup k).map fun vs => .dct false (tdict (.bl true) vs) := by
  induction cl with
  | nil => rfl
  | cons p cl ih =>
    obtain ⟨a, b⟩ := p
    simp only [List.map_cons, List.lookup_cons]
    cases h : k == a with
    | true => rfl
    | false => exact ih
theorem pix_cl (cl : Nd) (s : Str) (h : s ∈ keys cl) : Pix [encC cl, .str s] = some (false, .dct false (tdict (.bl true) (getN cl s))) := by
  obtain ⟨v, e⟩ := lookup_some h
  rw [pix_sd, clE_get, getN, e]; rfl
theorem pin_cl (cl : Nd) (s : Str) : PinX [.str s, encC cl] = some (false, .bl (decide (s ∈ keys cl))) := by rw [pin_sd, clE_keys]
theorem pnotin_cl (cl : Nd) (s : Str) : PnotInX [.str s, encC cl] = some (false, .bl (!decide (s ∈ keys cl))) := by rw [pnotin_sd, clE_keys]
theorem td_keys (u : Val) (ks : List Str) : (ks.map fun k => (k, u)).map (·.1) = ks := by
  rw [List.map_map]; exact (List.map_congr_left fun _ _ => rfl).trans (List.map_id _)
theorem pin_td (u : Val) (ks : List Str) (s : Str) : PinX [.str s, .dct false (tdict u ks)] = some (false, .bl (decide (s ∈ ks))) := by rw [pin_sd, td_keys]
theorem pnotin_td (u : Val) (ks : List Str) (s : Str) : PnotInX [.str s, .dct false (tdict u ks)] = some (false, .bl (!decide (s ∈ ks))) := by rw [pnotin_sd, td_keys]
theorem keysOf_td (u : Val) (ks : List Str) : keysOfD (tdict u ks) = ks.map .str := by
  simp only [keysOfD, tdict, sd, List.map_map]; rfl
theorem plenX_d (ds : List (Val × Val)) : PlenX [.dct false ds] = some (false, .int ds.length) := rfl
theorem cl_len (cl : Nd) : (sd (cl.map clE)).length = cl.length := by simp [sd]
theorem putIx_cl {cl : Nd} {k : Str} {vs : List Str} (h : k ∉ keys cl) (hl : cl.length < 100000) : putIx (encC cl) (.str k) (.dct false (tdict (.bl true) vs)) = some (encC (cl ++ [(k, vs)])) := by
  rw [putIx_new (by rw [clE_keys]; exact h) (by simpa using hl)]
  have e : (cl ++ [(k, vs)]).map clE = cl.map clE ++ [(k, Val.dct false (tdict (.bl true) vs))] := List.map_append
  exact congrArg (fun l => some (Val.dct false (sd l))) e.symm
/-- what is found so far -/
structure CloI (m cl : Nd) : Prop where
  nd : (keys cl).Nodup
  sub : ∀ s ∈ keys cl, s ∈ keys m
  ok : ∀ p ∈ cl, p.2.Nodup ∧ ∀ y, y ∈ p.2 ↔ Dep m p.1 y
theorem CloI.len {m cl : Nd} (hw : Wf m) (h : CloI m cl) : cl.length ≤ 60 := by
  have h1 := nodup_len h.nd h.sub
  have h2 := hw.len
  simp only [keys, List.length_map] at h1
  omega
theorem CloI.ll {m cl : Nd} (hw : Wf m) (h : CloI m cl) (s : Str) : (getN cl s).length ≤ 60 := by
  by_cases hs : s ∈ keys cl
  · have h1 := h.ok _ (getN_key hs)
    have := nodup_len (r := keys m) h1.1 fun y hy => Dep.right hw ((h1.2 y).mp hy)
    have := hw.len
    simp only [keys, List.length_map] at *
    omega
  · rw [getN_nil hs]; simp
theorem fm_len {α : Type} (f : α → List Str) (B : Nat) : ∀ xs : List α, (∀ x ∈ xs, (f x).length ≤ B) → (xs.flatMap f).length ≤ xs.length * B
  | [], _ => by simp
  | x :: xs, h => by
    have := fm_len f B xs fun y hy => h y (List.mem_cons_of_mem _ hy)
    have := h x (by simp)
    rw [List.flatMap_cons, List.length_append, List.length_cons, Nat.add_mul]
    omega
theorem clos_step {m cl : Nd} {p : Str × List Str} (hw : Wf m) (h : CloI m cl) (hp : p ∈ m) (hn : p.1 ∉ keys cl) (hall : ∀ y ∈ p.2, y ∈ keys cl) : CloI m (cl ++ [(p.1, insAll [] (p.2.flatMap fun o => o :: getN cl o))]) := by
  have hg := getN_mem hw.nd hp
  refine ⟨?_, ?_, ?_⟩
  · simp only [keys, List.map_append, List.map_cons, List.map_nil]
    rw [List.nodup_append]
    exact ⟨h.nd, by simp, fun a ha b hb e => hn (by rw [List.mem_singleton.mp hb] at e; rw [← e]; exact ha)⟩
  · intro s hs
    simp only [keys, List.map_append, List.map_cons, List.map_nil] at hs
    rcases List.mem_append.mp hs with z | z
    · exact h.sub s z
    · rw [List.mem_singleton.mp z]; exact keys_mem hp
  · intro q hq
    rcases List.mem_append.mp hq with z | z
    · exact h.ok q z
    · rw [List.mem_singleton.mp z]
      refine ⟨insAll_nodup .nil, fun y => ?_⟩
      rw [insAll_mem, List.mem_flatMap]
      constructor
      · rintro (z | ⟨o, ho, hy⟩)
        · cases z
        · rcases List.mem_cons.mp hy with rfl | hy
          · exact .one (by rw [hg]; exact ho)
          · exact .more (by rw [hg]; exact ho) (((h.ok _ (getN_key (hall o ho))).2 y).mp hy)
      · intro hd
        refine .inr ?_
        cases hd with
        | one hb => rw [hg] at hb; exact ⟨y, hb, by simp⟩
        | @more _ b _ hb hd => rw [hg] at hb; exact ⟨b, hb, List.mem_cons_of_mem _ (((h.ok _ (getN_key (hall b hb))).2 y).mpr hd)⟩
theorem clos_next {m cl : Nd} (hw : Wf m) (ha : Acyc m) (h : CloI m cl) (hl : cl.length < m.length) : ∃ p ∈ m, p.1 ∉ keys cl ∧ ∀ y ∈ p.2, y ∈ keys cl := by
  obtain ⟨rk, hr⟩ := ha
  obtain ⟨q, hq, hqn⟩ : ∃ q ∈ m, q.1 ∉ keys cl := by
    refine Classical.byContradiction fun hc => ?_
    have : (keys m).length ≤ (keys cl).length := nodup_len hw.nd fun s hs => by
      obtain ⟨p, hp, rfl⟩ := List.mem_map.mp hs
      exact Classical.byContradiction fun z => hc ⟨p, hp, z⟩
    simp only [keys, List.length_map] at this
    omega
  have key : ∀ N, ∀ q ∈ m, q.1 ∉ keys cl → rk q.1 = N → ∃ p ∈ m, p.1 ∉ keys cl ∧ ∀ y ∈ p.2, y ∈ keys cl := by
    intro N
    induction N using Nat.strongRecOn with
    | ind N ih =>
      intro q hq hqn e
      by_cases hall : ∀ y ∈ q.2, y ∈ keys cl
      · exact ⟨q, hq, hqn, hall⟩
      · obtain ⟨y, hy⟩ := Classical.not_forall.mp hall
        obtain ⟨hy, hyn⟩ := Classical.not_imp.mp hy
        have h1 := hr q hq y hy
        exact ih (rk y) (by omega) _ (getN_key (hw.vl q hq y hy)) hyn rfl
  exact key _ q hq hqn rfl
theorem closure_wp {rows : List Str} {m : Nd} {K : GR → Prop} (h : Sh rows m) (q : ∀ cl, CloI m cl → (∀ s ∈ rows, s ∈ keys cl) → K (.ok true (encC cl) none)) : wG g_closure [(false, sheetV rows m)] K := by
  have hw := h.wf
  have hml := hw.len
  unfold g_closure
  rw [wG_run (by rfl) (by simp [ownIx])]
  unfold b_closure
  have n1 : (sheetF rows m).lookup ("needs" : Str) = none := rfl
  simp? only [n1]
  refine needs_wp rfl ?_
  simp? only [bk]
  obtain ⟨I, hI⟩ : ∃ I : Nat → M.Env → Prop, I = fun k r => ∃ (cl : Nd) (b : Bool) (s3 s4 : M.Slot), k = m.length - cl.length ∧ CloI m cl ∧ r = [some (false, sheetV rows m), some (b, enc m), some (true, encC cl), s3, s4, none, none] := ⟨_, rfl⟩
  refine wW_inv I ?_ _ (m.length - 0) _ (by omega) (by rw [hI]; exact ⟨[], true, none, none, rfl, ⟨.nil, by simp [keys], by simp⟩, rfl⟩)
  intro k r hh
  rw [hI] at hh
  obtain ⟨cl, b, s3, s4, rfl, hC, rfl⟩ := hh
  have hcl := hC.len hw
  simp? only [W6_closure, plenX_d, cl_len, en_len]
  by_cases hlt : cl.length < m.length
  · have hlt' : ((cl.length : Nat) : Int) < ((m.length : Nat) : Int) := by omega
    simp? only [hlt', decide_true, kTurnW_e1, L5_closure]
    obtain ⟨t, ht, htn, hta⟩ := clos_next hw h.ac hC hlt
    have go : ∀ {Q : SR → Prop} {s3 s4 : M.Slot}, (∀ cl2 s3 s4, CloI m cl2 → cl.length < cl2.length → Q (.nx [some (false, sheetV rows m), some (false, enc m), some (true, encC cl2), s3, s4, none, none])) →
        wL (tgT (tgCons (M.tgN 3) (tgCons (M.tgN 4) tgNil))) L4_closure (m.map prV) [some (false, sheetV rows m), some (false, enc m), some (true, encC cl), s3, s4, none, none] Q := by
      intro Q s3 s4 hQ
      obtain ⟨J, hJ⟩ : ∃ J : List Val → M.Env → Prop, J = fun vs r => ∃ (k : Nat) (cl2 : Nd) (s3 s4 : M.Slot), vs = (m.map prV).drop k ∧ k ≤ (m.map prV).length ∧ CloI m cl2 ∧ (∀ s ∈ keys cl, s ∈ keys cl2) ∧ (t.1 ∈ keys cl2 ∨ t ∈ m.drop k) ∧
          r = [some (false, sheetV rows m), some (false, enc m), some (true, encC cl2), s3, s4, none, none] := ⟨_, rfl⟩
      refine wL_inv J ?_ ?_ _ _ (by rw [hJ]; exact ⟨0, cl, s3, s4, rfl, by omega, hC, fun _ h => h, .inr (by simpa using ht), rfl⟩)
      · intro v vs r hh
        rw [hJ] at hh
        obtain ⟨k, cl2, s3, s4, e, hk, hC2, hsub, hor, rfl⟩ := hh
        obtain ⟨hk2, rfl, rfl⟩ := drop_step e
        rw [List.getElem_map]
        have hk3 : k < m.length := by simpa using hk2
        have hmem : m[k] ∈ m := List.getElem_mem hk3
        have hcl2 := hC2.len hw
        have hpl : (m[k]).2.length ≤ 60 := hw.ll _ hmem
        have hdrop : ∀ {cl3 : Nd}, (∀ s ∈ keys cl2, s ∈ keys cl3) → (m[k].1 ∈ keys cl3 ∨ ¬ (m[k].1 ∉ keys cl2 ∧ ∀ y ∈ m[k].2, y ∈ keys cl2)) → (t.1 ∈ keys cl3 ∨ t ∈ m.drop (k + 1)) := by
          intro cl3 hs hh
          rcases hor with z | z
          · exact .inl (hs _ z)
          · rw [List.drop_eq_getElem_cons hk3] at z
            rcases List.mem_cons.mp z with rfl | z
            · rcases hh with h1 | h1
              · exact .inl h1
              · refine .inl (hs _ ?_)
                refine Classical.byContradiction fun hc => h1 ⟨hc, fun y hy => hsub _ (hta y hy)⟩
            · exact .inr z
        simp? only [M.kT_e1, L4_closure, pnotin_cl]
        by_cases hin : m[k].1 ∈ keys cl2
        · simp? only [hin, decide_true]
          rw [hJ]
          exact ⟨k + 1, cl2, _, _, rfl, hk2, hC2, hsub, hdrop (fun _ h => h) (.inl hin), rfl⟩
        · simp? only [hin, decide_false]
          refine wC_map Val.str (fun y => .bl (decide (y ∈ keys cl2))) (fun _ => true) m[k].2 (fun y hy => ⟨_, rfl, rfl, rfl, fun _ => ?_⟩) (by omega) ?_
          · simp? only [E1_closure, pin_cl]
            exact ⟨_, _, rfl, rfl⟩
          rw [filter_yes]
          simp? only [pall_map]
          by_cases hall : (m[k].2.all fun y => decide (y ∈ keys cl2)) = true
          · have hall2 : ∀ y ∈ m[k].2, y ∈ keys cl2 := by simpa using hall
            simp? only [hall]
            refine wCL_set (u := .bl true) Val.str (fun o => o :: getN cl2 o) m[k].2 (fun x hx => ⟨_, rfl, rfl, ?_⟩) ?_ ?_
            · have hll := hC2.ll hw x
              have hl1 : (List.map Val.str (getN cl2 x)).length + 1 ≤ 100000 := by rw [List.length_map]; omega
              simp? only [pix_cl cl2 x (hall2 x hx), keysOf_td, hl1]
              exact ⟨_, rfl, rfl, fun z hz => ⟨_, false, rfl, rfl, rfl, ⟨false, rfl⟩, rfl⟩⟩
            · have := fm_len (fun o => o :: getN cl2 o) 61 m[k].2 fun x hx => by have := hC2.ll hw x; simp; omega
              omega
            · have hcl2' : cl2.length < 100000 := by omega
              simp? only [putIx_cl hin hcl2']
              rw [hJ]
              refine ⟨k + 1, _, _, _, rfl, hk2, clos_step hw hC2 hmem hin hall2, fun s hs => ?_, hdrop (fun s hs => ?_) (.inl ?_), rfl⟩
              · simp only [keys, List.map_append, List.mem_append]; exact .inl (hsub s hs)
              · simp only [keys, List.map_append, List.mem_append]; exact .inl hs
              · simp [keys]
          · have hall' : (m[k].2.all fun y => decide (y ∈ keys cl2)) = false := by simpa using hall
            simp? only [hall']
            rw [hJ]
            exact ⟨k + 1, cl2, _, _, rfl, hk2, hC2, hsub, hdrop (fun _ h => h) (.inr fun z => hall (by simpa using z.2)), rfl⟩
      · intro r hh
        rw [hJ] at hh
        obtain ⟨k, cl2, s3, s4, e, hk, hC2, hsub, hor, rfl⟩ := hh
        have hk2 := drop_end e hk
        rw [List.length_map] at hk2
        subst hk2
        have ht2 : t.1 ∈ keys cl2 := hor.resolve_right (by simp)
        refine hQ cl2 _ _ hC2 ?_
        have := nodup_len (l := t.1 :: keys cl) (r := keys cl2) (List.nodup_cons.mpr ⟨htn, hC.nd⟩) fun x hx => (List.mem_cons.mp hx).elim (fun z => by rw [z]; exact ht2) (hsub x)
        simp only [keys, List.length_cons, List.length_map] at this
        omega
    cases b
    all_goals
      simp? only [pairs_en]
      refine go fun cl2 s3 s4 hC2 hlt2 => ?_
      rw [kTurn, hI]
      exact ⟨m.length - cl2.length, by omega, cl2, _, _, _, rfl, hC2, rfl⟩
  · have hlt' : ¬ ((cl.length : Nat) : Int) < ((m.length : Nat) : Int) := by omega
    simp? only [hlt', decide_false, kTurnW_e2]
    refine q cl hC fun s hs => ?_
    refine Classical.byContradiction fun hc => ?_
    have := nodup_len (l := s :: keys cl) (r := keys m) (List.nodup_cons.mpr ⟨hc, hC.nd⟩) fun x hx => (List.mem_cons.mp hx).elim (fun z => by rw [z, h.ks]; exact hs) (hC.sub x)
    simp only [keys, List.length_cons, List.length_map] at this
    omega
end PK
namespace PK
open PySem L2 M 
/-! ### questions -/
theorem ord_in (rows : List Str) (s : Str) : PinX [.str s, .dct false (sd (ordL rows))] = some (false, .bl (decide (s ∈ rows))) := by rw [pin_sd, ord_keys]
theorem ord_notin (rows : List Str) (s : Str) : PnotInX [.str s, .dct false (sd (ordL rows))] = some (false, .bl (!decide (s ∈ rows))) := by rw [pnotin_sd, ord_keys]
theorem ord_ix {rows : List Str} {s : Str} (h : s ∈ rows) : Pix [.dct false (sd (ordL rows)), .str s] = some (false, .int (rows.idxOf s : Nat)) := by rw [pix_sd, ord_get h]; rfl
theorem f_order (rows : List Str) (m : Nd) : Pfld ["Sheet"] "order" [sheetV rows m] = some (false, .dct false (sd (ordL rows))) := rfl
theorem f_names (rows : List Str) (m : Nd) : Pfld ["Sheet"] "names" [sheetV rows m] = some (false, .tup (rows.map .str)) := rfl
theorem f_direct (rows : List Str) (m : Nd) : Pfld ["Sheet"] "direct" [sheetV rows m] = some (false, enc m) := rfl
theorem x_needs (rows : List Str) (m : Nd) : (sheetF rows m).lookup ("needs" : Str) = none := rfl
theorem x_rows (rows : List Str) (m : Nd) : (sheetF rows m).lookup ("rows" : Str) = none := rfl
theorem x_need_row (rows : List Str) (m : Nd) : (sheetF rows m).lookup ("need_row" : Str) = none := rfl
theorem x_position (rows : List Str) (m : Nd) : (sheetF rows m).lookup ("position" : Str) = none := rfl
theorem x_with_move (rows : List Str) (m : Nd) : (sheetF rows m).lookup ("with_move" : Str) = none := rfl
theorem x_with_need (rows : List Str) (m : Nd) : (sheetF rows m).lookup ("with_need" : Str) = none := rfl
theorem need_row_wp {o : Bool} {rows : List Str} {m : Nd} {s : Str} {K : GR → Prop} (h : s ∈ rows) (q : K (.ok false .non (bk o (sheetV rows m)))) : wG g_C_Sheet_need_row [(o, sheetV rows m), (false, .str s)] K := by
  unfold g_C_Sheet_need_row
  rw [wG_run (by rfl) (by cases o <;> simp [ownIx])]
  unfold b_C_Sheet_need_row
  cases o
  · simp? only [isi_ss, f_order, ord_notin, h, decide_true]
    exact q
  · simp? only [isi_ss, f_order, ord_notin, h, decide_true]
    exact q
theorem position_wp {o : Bool} {rows : List Str} {m : Nd} {s : Str} {K : GR → Prop} (h : s ∈ rows) (q : K (.ok false (.int (rows.idxOf s : Nat)) (bk o (sheetV rows m)))) : wG g_C_Sheet_position [(o, sheetV rows m), (false, .str s)] K := by
  unfold g_C_Sheet_position
  rw [wG_run (by rfl) (by cases o <;> simp [ownIx])]
  unfold b_C_Sheet_position
  cases o
  · simp? only [x_need_row]
    refine need_row_wp h ?_
    simp? only [bk, f_order, ord_ix h]
    exact q
  · simp? only [x_need_row]
    refine need_row_wp h ?_
    simp? only [bk, f_order, ord_ix h]
    exact q
theorem CloI.get {rows : List Str} {m cl : Nd} (hC : CloI m cl) {a y : Str} (h : a ∈ keys cl) : y ∈ getN cl a ↔ Dep m a y := (hC.ok _ (getN_key h)).2 y
theorem CloI.dec {m cl : Nd} (hC : CloI m cl) {a y : Str} (h : a ∈ keys cl) : decide (y ∈ getN cl a) = depB m a y := depB_eq (by rw [decide_eq_true_iff]; exact (hC.ok _ (getN_key h)).2 y)
theorem depends_wp {rows : List Str} {m : Nd} {a b : Str} {K : GR → Prop} (h : Sh rows m) (ha : a ∈ rows) (hb : b ∈ rows) (q : K (.ok false (.bl (depB m a b)) none)) : wG g_depends [(false, sheetV rows m), (false, .str a), (false, .str b)] K := by
  unfold g_depends
  rw [wG_run (by rfl) (by simp [ownIx])]
  unfold b_depends
  simp? only [x_position]
  refine position_wp ha ?_
  simp? only [x_position, bk]
  refine position_wp hb ?_
  simp? only [bk]
  refine closure_wp h fun cl hC hall => ?_
  simp? only [pix_cl cl a (hall a ha), pin_td, hC.dec (hall a ha)]
  exact q
theorem needed_rows_wp {rows : List Str} {m : Nd} {a : Str} {K : GR → Prop} (h : Sh rows m) (ha : a ∈ rows) (q : K (.ok false (.tup ((rows.filter (depB m a)).map .str)) none)) : wG g_needed_rows [(false, sheetV rows m), (false, .str a)] K := by
  have hlen := h.len
  unfold g_needed_rows
  rw [wG_run (by rfl) (by simp [ownIx])]
  unfold b_needed_rows
  simp? only [x_position]
  refine position_wp ha ?_
  simp? only [bk]
  refine closure_wp h fun cl hC hall => ?_
  simp? only [pix_cl cl a (hall a ha), x_rows]
  refine rows_wp rfl ?_
  simp? only [bk]
  refine wC_map Val.str (fun y => .str y) (depB m a) rows (fun y hy => ⟨_, rfl, ?_, rfl, fun _ => ?_⟩) (by omega) ?_
  · simp? only [F2_needed_rows, pin_td, hC.dec (hall a ha)]
  · simp? only [E1_needed_rows]
    exact ⟨_, _, rfl, rfl⟩
  simp? only []
  exact q
theorem users_wp {rows : List Str} {m : Nd} {a : Str} {K : GR → Prop} (h : Sh rows m) (ha : a ∈ rows) (q : K (.ok false (.tup ((rows.filter fun y => depB m y a).map .str)) none)) : wG g_users [(false, sheetV rows m), (false, .str a)] K := by
  have hlen := h.len
  unfold g_users
  rw [wG_run (by rfl) (by simp [ownIx])]
  unfold b_users
  simp? only [x_position]
  refine position_wp ha ?_
  simp? only [bk]
  refine closure_wp h fun cl hC hall => ?_
  simp? only [x_rows]
  refine rows_wp rfl ?_
  simp? only [bk]
  refine wC_map Val.str (fun y => .str y) (fun y => depB m y a) rows (fun y hy => ⟨_, rfl, ?_, rfl, fun _ => ?_⟩) (by omega) ?_
  · simp? only [F2_users, pix_cl cl y (hall y hy), pin_td, hC.dec (hall y hy)]
  · simp? only [E1_users]
    exact ⟨_, _, rfl, rfl⟩
  simp? only []
  exact q
/-- a chain of needs: from a on, each needs the next one -/
structure Chn (m : Nd) (l : List Str) (a b : Str) : Prop where
  hd : l.head? = some a
  la : l.getLast? = some b
  nx : ∀ i, i + 1 < l.length → l.getD (i + 1) default ∈ getN m (l.getD i default)
theorem need_chain_wp {rows : List Str} {m : Nd} {a b : Str} {K : GR → Prop} (h : Sh rows m) (ha : a ∈ rows) (hb : b ∈ rows)
    (q1 : a ≠ b → depB m a b = false → K (.ok false .non none)) (q2 : ∀ l, Chn m l a b → (a = b → l = [a]) → (a ≠ b → depB m a b = true) → K (.ok false (.tup (l.reverse.map .str)) none)) : wG g_need_chain [(false, sheetV rows m), (false, .str a), (false, .str b)] K := by
  have hlen := h.len
  have hw := h.wf
  unfold g_need_chain
  rw [wG_run (by rfl) (by simp [ownIx])]
  unfold b_need_chain
  simp? only [x_position]
  refine position_wp ha ?_
  simp? only [x_position, bk]
  refine position_wp hb ?_
  simp? only [bk]
  refine closure_wp h fun cl hC hall => ?_
  have hpx := pix_cl cl a (hall a ha)
  have hpn : PnotInX [.str b, .dct false (tdict (.bl true) (getN cl a))] = some (false, .bl (!depB m a b)) := by rw [pnotin_td, hC.dec (hall a ha)]
  simp? only [pneT]
  by_cases hno : a ≠ b ∧ depB m a b = false
  · have : ¬ a = b := hno.1
    simp? only [this, decide_false, hpx, hpn, hno.2]
    exact q1 hno.1 hno.2
  have hy : a = b ∨ Dep m a b := by
    by_cases e : a = b
    · exact .inl e
    · exact .inr (depB_iff.mp (by simpa [e] using hno))
  obtain ⟨rk, hr⟩ := h.ac
  have stepR : ∀ {w f : Str}, f ∈ getN m w → rk f < rk w ∧ f ∈ rows := fun {w f} hf => by
    have hk : w ∈ keys m := (Dep.one hf).left
    exact ⟨(Dep.one hf).rk hr, by have := hw.vl _ (getN_key hk) f hf; rwa [h.ks] at this⟩
  have loop : ∀ {Q : SR → Prop} {s6 : M.Slot}, (∀ l, Chn m l a b → (a = b → l = [a]) → Q (.nx [some (false, sheetV rows m), some (false, .str a), some (false, .str b), some (false, encC cl), some (true, enc m), some (true, .lst (l.map .str)), none])) →
      wS (whl W4_need_chain L3_need_chain 1000) [some (false, sheetV rows m), some (false, .str a), some (false, .str b), some (false, encC cl), some (true, enc m), some (true, .lst ([a].map .str)), none] Q := by
    intro Q s6 hQ
    obtain ⟨I, hI⟩ : ∃ I : Nat → M.Env → Prop, I = fun k r => ∃ (l : List Str) (w : Str), k = 61 - l.length ∧ l.head? = some a ∧ l.getLast? = some w ∧ (w = b ∨ Dep m w b) ∧ w ∈ rows ∧ (∀ x ∈ l, x ∈ rows) ∧ l.Pairwise (fun x y => rk y < rk x) ∧ (a = b → l = [a]) ∧
        (∀ i, i + 1 < l.length → l.getD (i + 1) default ∈ getN m (l.getD i default)) ∧ r = [some (false, sheetV rows m), some (false, .str a), some (false, .str b), some (false, encC cl), some (true, enc m), some (true, .lst (l.map .str)), none] := ⟨_, rfl⟩
    refine wW_inv I ?_ _ (61 - 1) _ (by omega) (by rw [hI]; exact ⟨[a], a, rfl, rfl, rfl, hy, ha, by simpa using ha, by simp, fun _ => rfl, by simp, rfl⟩)
    intro k r hh
    rw [hI] at hh
    obtain ⟨l, w, rfl, h1, h2, h3, hwr, h4, h5, h6, h7, rfl⟩ := hh
    have hne : l ≠ [] := fun z => by rw [z] at h1; cases h1
    have hll : 0 < l.length := List.length_pos_iff.mpr hne
    have hnd : l.Nodup := h5.imp fun {x y} hxy e => by rw [e] at hxy; omega
    have hl60 : l.length ≤ 60 := by
      have := nodup_len hnd h4
      omega
    have hlast := pix_last (xs := l.map Val.str) (by simpa using hll)
    have hw2 : l[l.length - 1]'(by omega) = w := by
      rw [List.getLast?_eq_getElem?, List.getElem?_eq_getElem (by omega)] at h2
      exact Option.some.inj h2
    simp only [List.length_map, List.getElem_map, hw2] at hlast
    have hng : Pneg [.int 1] = some (false, .int (-1)) := rfl
    simp? only [W4_need_chain, hng, hlast, pneT]
    by_cases hwb : w = b
    · simp? only [hwb, decide_true, kTurnW_e2]
      exact hQ l ⟨h1, by rw [h2, hwb], h7⟩ h6
    · have hwk : w ∈ keys m := by rw [h.ks]; exact hwr
      simp? only [hwb, decide_false, kTurnW_e1, L3_need_chain, hng, hlast, pix_en m w hwk]
      have hgl : (getN m w).length ≤ 60 := hw.ll _ (getN_key hwk)
      refine wC_map Val.str (fun y => .str y) (fun y => decide (y = b) || depB m y b) (getN m w) (fun y hy => ⟨_, rfl, ?_, rfl, fun _ => ?_⟩) (by omega) ?_
      · have hyr := (stepR hy).2
        simp? only [F2_need_chain, peqT]
        by_cases e : y = b
        · simp? only [e, decide_true, Bool.true_or]
        · simp? only [e, decide_false, Bool.false_or, pix_cl cl y (hall y hyr), pin_td, hC.dec (hall y hyr)]
      · simp? only [E1_need_chain]
        exact ⟨_, _, rfl, rfl⟩
      have hD : Dep m w b := h3.resolve_left hwb
      obtain ⟨y0, hy0, hy1⟩ : ∃ y ∈ getN m w, y = b ∨ Dep m y b := by
        cases hD with
        | one hb => exact ⟨b, hb, .inl rfl⟩
        | @more _ c _ hc hd => exact ⟨c, hc, .inr hd⟩
      cases hf : (getN m w).filter fun y => decide (y = b) || depB m y b with
      | nil =>
        have : y0 ∈ (getN m w).filter fun y => decide (y = b) || depB m y b := List.mem_filter.mpr ⟨hy0, by rw [Bool.or_eq_true, decide_eq_true_iff, depB_iff]; exact hy1⟩
        rw [hf] at this; cases this
      | cons f fs =>
        have hfm : f ∈ (getN m w).filter fun y => decide (y = b) || depB m y b := by rw [hf]; simp
        obtain ⟨hf1, hf2⟩ := List.mem_filter.mp hfm
        rw [Bool.or_eq_true, decide_eq_true_iff, depB_iff] at hf2
        have hp0 : Pix [.lst ((f :: fs).map fun y => Val.str y), .int 0] = some (false, .str f) := by
          rw [pix_lst (by decide) (by simp)]; rfl
        have hma := mapp (ds := l.map Val.str) (v := .str f) (by simp; omega)
        simp? only [] at hp0
        simp? only [hp0, hma]
        rw [hI]
        have hfr := stepR hf1
        refine ⟨61 - (l ++ [f]).length, by simp; omega, l ++ [f], f, rfl, by rw [List.head?_append, h1]; rfl, by simp, hf2, hfr.2, ?_, ?_, ?_, ?_, by rw [List.map_append]; rfl⟩
        · intro x hx
          rcases List.mem_append.mp hx with z | z
          · exact h4 x z
          · rw [List.mem_singleton.mp z]; exact hfr.2
        · rw [List.pairwise_append]
          refine ⟨h5, by simp, fun x hx y hy => ?_⟩
          rw [List.mem_singleton.mp hy]
          have hxw : x = w ∨ rk w < rk x := by
            obtain ⟨i, hi, rfl⟩ := List.mem_iff_getElem.mp hx
            by_cases e : i = l.length - 1
            · subst e; exact .inl hw2
            · refine .inr ?_
              rw [← hw2]
              exact (List.pairwise_iff_getElem.mp h5) i (l.length - 1) hi (by omega) (by omega)
          rcases hxw with rfl | z
          · exact hfr.1
          · have := hfr.1; omega
        · intro e
          have := h6 e
          subst this
          simp at h2
          exact absurd (h2 ▸ e) hwb
        · intro i hi
          rw [List.length_append, List.length_singleton] at hi
          by_cases hi2 : i + 1 < l.length
          · have := h7 i hi2
            simp only [List.getD_eq_getElem?_getD] at this ⊢
            rw [List.getElem?_append_left hi2, List.getElem?_append_left (by omega)]
            exact this
          · have e2 : i = l.length - 1 := by omega
            subst e2
            simp only [List.getD_eq_getElem?_getD]
            have e4 : (l ++ [f])[l.length - 1 + 1]? = some f := by
              rw [List.getElem?_append_right (by omega), show l.length - 1 + 1 - l.length = 0 by omega]; rfl
            have e5 : (l ++ [f])[l.length - 1]? = l[l.length - 1]? := List.getElem?_append_left (by omega)
            rw [e4, e5, List.getElem?_eq_getElem (show l.length - 1 < l.length by omega), hw2]
            exact hf1
  have fin : ∀ {Q : SR → Prop}, (∀ l, Chn m l a b → (a = b → l = [a]) → Q (.nx [some (false, sheetV rows m), some (false, .str a), some (false, .str b), some (false, encC cl), some (true, enc m), some (true, .lst (l.map .str)), none])) →
      wS (whl W4_need_chain L3_need_chain 1000) [some (false, sheetV rows m), some (false, .str a), some (false, .str b), some (false, encC cl), some (true, enc m), some (true, .lst [.str a]), none] Q := fun hQ => loop (s6 := none) hQ
  have hdep : a ≠ b → depB m a b = true := fun e => depB_iff.mpr (hy.resolve_left e)
  by_cases e : a = b
  · subst e
    simp? only [decide_true, x_needs]
    refine needs_wp rfl ?_
    simp? only [bk]
    refine fin fun l hl he => ?_
    simp? only []
    rw [← List.map_reverse]
    exact q2 l hl he hdep
  · have hd := hdep e
    simp? only [e, decide_false, hpx, hpn, hd, x_needs]
    refine needs_wp rfl ?_
    simp? only [bk]
    refine fin fun l hl he => ?_
    simp? only []
    rw [← List.map_reverse]
    exact q2 l hl he hdep
end PK
namespace PK
open PySem L2 M 
/-! ### sheets changed -/
theorem isi_ii (i : Int) : Pisi [.int i, .ty "int"] = some (false, .bl true) := pisi_ok rfl (by simp)
theorem isi_ib (i : Int) : Pisi [.int i, .ty "bool"] = some (false, .bl false) := pisi_ok rfl (by simp)
theorem is_integer_wp {i : Int} {K : GR → Prop} (q : K (.ok false (.bl true) none)) : wG g_is_integer [(false, .int i)] K := by
  unfold g_is_integer
  rw [wG_run (by rfl) (by simp [ownIx])]
  unfold b_is_integer
  simp? only [isi_ii, isi_ib]
  exact q
theorem is_between_wp {i l h : Int} {K : GR → Prop} (q : K (.ok false (.bl (decide (l ≤ i ∧ i ≤ h))) none)) : wG g_is_between [(false, .int i), (false, .int l), (false, .int h)] K := by
  unfold g_is_between
  rw [wG_run (by rfl) (by simp [ownIx])]
  unfold b_is_between
  simp? only []
  refine is_integer_wp ?_
  simp? only []
  by_cases h1 : l ≤ i
  · simp? only [h1, decide_true]
    have : decide (l ≤ i ∧ i ≤ h) = decide (i ≤ h) := by simp [h1]
    rw [this] at q
    exact q
  · simp? only [h1, decide_false]
    have : decide (l ≤ i ∧ i ≤ h) = false := by simp [h1]
    rw [this] at q
    exact q
theorem is_index_wp {i n : Int} {K : GR → Prop} (q : K (.ok false (.bl (decide (0 ≤ i ∧ i < n))) none)) : wG g_is_index [(false, .int i), (false, .int n)] K := by
  unfold g_is_index
  rw [wG_run (by rfl) (by simp [ownIx])]
  unfold b_is_index
  have hs : Psub [.int n, .int 1] = some (false, .int (n - 1)) := rfl
  simp? only [hs]
  refine is_between_wp ?_
  have : decide (0 ≤ i ∧ i ≤ n - 1) = decide (0 ≤ i ∧ i < n) := decide_eq_decide.mpr (by omega)
  rw [this]
  simp? only []
  exact q
theorem Sh.raw {rows : List Str} {m : Nd} (h : Sh rows m) {rows' : List Str} (hs : ∀ s ∈ rows, s ∈ rows') : Raw rows' m := by
  have e := h.ks
  exact ⟨by rw [e]; exact h.nd, by rw [e]; exact hs, fun p hp => ⟨(h.vl p hp).1, fun y hy => hs y ((h.vl p hp).2 y hy)⟩⟩
/-- needs of the same rows in another order -/
theorem mkN_same {rows rows' : List Str} {m : Nd} (h : Sh rows m) {s : Str} (hs : s ∈ rows') (hr : s ∈ rows) : getN (mkN rows' m) s = getN m s := by
  rw [mkN_get hs]
  exact (h.so _ (getN_key (by rw [h.ks]; exact hr))).symm
theorem dep_congr {m m' : Nd} (h : ∀ s, getN m s = getN m' s) {a b : Str} : Dep m a b ↔ Dep m' a b := by
  have one : ∀ {m m' : Nd}, (∀ s, getN m s = getN m' s) → ∀ {a b : Str}, Dep m a b → Dep m' a b := fun h _ _ d => by
    induction d with
    | one hb => exact .one (by rw [← h]; exact hb)
    | more hb _ ih => exact .more (by rw [← h]; exact hb) ih
  exact ⟨one h, one fun s => (h s).symm⟩
theorem depB_congr {m m' : Nd} (h : ∀ s, getN m s = getN m' s) (a b : Str) : depB m a b = depB m' a b := by
  rw [Bool.eq_iff_iff, depB_iff, depB_iff]; exact dep_congr h
theorem mkN_all {rows rows' : List Str} {m : Nd} (h : Sh rows m) (he : ∀ s, s ∈ rows' ↔ s ∈ rows) (s : Str) : getN (mkN rows' m) s = getN m s := by
  by_cases hr : s ∈ rows
  · exact mkN_same h ((he s).mpr hr) hr
  · rw [getN_nil (by rw [mkN_keys, he]; exact hr), getN_nil (by rw [h.ks]; exact hr)]
/-- the rows with one put elsewhere -/
def mvR (rows : List Str) (s : Str) (i : Nat) : List Str := (rows.filter fun y => !decide (y = s)).take i ++ s :: (rows.filter fun y => !decide (y = s)).drop i
theorem mvR_perm {rows : List Str} (hn : rows.Nodup) {s : Str} (hs : s ∈ rows) (i : Nat) : (mvR rows s i).Perm rows := by
  unfold mvR
  refine List.perm_middle.trans ?_
  rw [List.take_append_drop]
  have : ∀ l : List Str, l.Nodup → s ∈ l → (s :: l.filter fun y => !decide (y = s)).Perm l := by
    intro l
    induction l with
    | nil => intro _ h; cases h
    | cons a l ih =>
      intro nd h
      rw [List.nodup_cons] at nd
      by_cases e : a = s
      · subst e
        rw [List.filter_cons_of_neg (by simp)]
        refine List.Perm.cons _ ?_
        rw [List.filter_eq_self.mpr fun y hy => by simp; intro z; exact nd.1 (z ▸ hy)]
      · rw [List.filter_cons_of_pos (by simpa using e)]
        exact (List.Perm.swap _ _ _).trans ((ih nd.2 ((List.mem_cons.mp h).resolve_left fun z => e z.symm)).cons a)
  exact this rows hn hs
theorem Rows.perm {rows rows' : List Str} (h : Rows rows) (p : rows'.Perm rows) : Rows rows' := ⟨p.nodup_iff.mpr h.nd, fun s hs => h.nm s (p.subset hs), by rw [p.length_eq]; exact h.len⟩
theorem with_move_wp {o : Bool} {rows : List Str} {m : Nd} {s : Str} {i : Int} {K : GR → Prop} (h : Sh rows m) (hs : s ∈ rows) (h0 : 0 ≤ i) (h1 : i < rows.length)
    (q : K (.ok true (sheetV (mvR rows s i.toNat) (mkN (mvR rows s i.toNat) m)) (bk o (sheetV rows m)))) : wG g_C_Sheet_with_move [(o, sheetV rows m), (false, .str s), (false, .int i)] K := by
  have hlen := h.len
  have hp := mvR_perm h.nd hs i.toNat
  unfold g_C_Sheet_with_move
  rw [wG_run (by rfl) (by cases o <;> simp [ownIx])]
  unfold b_C_Sheet_with_move
  have hin : decide (0 ≤ i ∧ i < (rows.length : Int)) = true := decide_eq_true ⟨h0, h1⟩
  have hfl := List.length_filter_le (fun y => !decide (y = s)) rows
  cases o
  all_goals
    simp? only [x_need_row]
    refine need_row_wp hs ?_
    simp? only [bk, f_names, List.length_map]
    refine is_index_wp ?_
    rw [hin]
    simp? only [f_names]
    refine wC_map Val.str (fun y => .str y) (fun y => !decide (y = s)) rows (fun y hy => ⟨_, rfl, ?_, rfl, fun _ => ?_⟩) (by omega) ?_
    · simp? only [F2_C_Sheet_with_move, pneT]
    · simp? only [E1_C_Sheet_with_move]
      exact ⟨_, _, rfl, rfl⟩
    have e1 : List.map Val.str ((rows.filter fun y => !decide (y = s)).take i.toNat) ++ Val.str s :: List.map Val.str ((rows.filter fun y => !decide (y = s)).drop i.toNat) = (mvR rows s i.toNat).map .str := by simp [mvR]
    have e2 : (List.map Val.str (mvR rows s i.toNat)).length ≤ 100000 := by rw [List.length_map, hp.length_eq]; omega
    have e0 : (rows.filter fun y => !decide (y = s)).map (fun y => Val.str y) = (rows.filter fun y => !decide (y = s)).map .str := rfl
    simp? only [Psl, cut_toI _ h0, cut_fromI _ h0, e0]
    rw [← List.map_take, ← List.map_drop]
    simp? only [e1, e2, f_direct]
    refine of_wp (.inr rfl) (h.toRows.perm hp) (h.raw fun s hs => hp.mem_iff.mpr hs) h.ac ?_
    simp? only []
    exact q
theorem dPut_en {m : Nd} {k : Str} {vs : List Str} (h : k ∈ keys m) : dPut (sd (en m)) (.inr k) (.tup (vs.map .str)) = sd (en (m.map fun p => if p.1 = k then (p.1, vs) else p)) := by
  have hk : ((sd (en m)).any fun p => M.keyIs (.inr k) p.1) = true := by rw [sd_any, en_keys]; exact decide_eq_true h
  unfold dPut
  rw [if_pos hk]
  simp only [sd, en, List.map_map]
  refine List.map_congr_left fun p _ => ?_
  by_cases e : p.1 = k
  · simp [M.keyIs, e]
  · have e' : ¬ k = p.1 := fun z => e z.symm
    simp [M.keyIs, e, e']
def setN (m : Nd) (k : Str) (vs : List Str) : Nd := m.map fun p => if p.1 = k then (p.1, vs) else p
theorem setN_keys (m : Nd) (k : Str) (vs : List Str) : keys (setN m k vs) = keys m := by
  unfold keys setN
  rw [List.map_map]
  refine List.map_congr_left fun p _ => ?_
  by_cases e : p.1 = k <;> simp [e]
theorem setN_get {m : Nd} {k : Str} {vs : List Str} (s : Str) (h : k ∈ keys m) : getN (setN m k vs) s = if s = k then vs else getN m s := by
  unfold getN setN
  induction m with
  | nil => cases h
  | cons p m ih =>
    obtain ⟨a, b⟩ := p
    rw [List.map_cons]
    by_cases e : a = k
    · subst e
      simp only [if_true, List.lookup_cons]
      by_cases e2 : s = a
      · subst e2; simp
      · rw [show (s == a) = false from beq_eq_false_iff_ne.mpr e2, if_neg e2]
        by_cases hk : a ∈ keys m
        · have := ih hk
          rwa [if_neg e2] at this
        · have : (m.map fun p => if p.1 = a then (p.1, vs) else p) = m := by
            refine (List.map_congr_left fun p hp => ?_).trans (List.map_id _)
            rw [if_neg fun (z : p.1 = a) => hk (z ▸ keys_mem hp)]; rfl
          rw [this]
    · rw [if_neg e]
      simp only [List.lookup_cons]
      have hk : k ∈ keys m := by
        simp only [keys, List.map_cons] at h
        exact (List.mem_cons.mp h).resolve_left fun z => e z.symm
      by_cases e2 : s = a
      · subst e2
        rw [if_neg e]; simp
      · rw [show (s == a) = false from beq_eq_false_iff_ne.mpr e2]
        exact ih hk
theorem setN_mem {m : Nd} {k : Str} {vs : List Str} {p : Str × List Str} (h : p ∈ setN m k vs) : (p.1 = k ∧ p.2 = vs ∧ k ∈ keys m) ∨ (p ∈ m ∧ p.1 ≠ k) := by
  obtain ⟨q, hq, e⟩ := List.mem_map.mp h
  by_cases z : q.1 = k
  · rw [if_pos z] at e
    subst e
    exact .inl ⟨z, rfl, z ▸ keys_mem hq⟩
  · rw [if_neg z] at e
    subst e
    exact .inr ⟨hq, z⟩
/-- one need more, no ring -/
theorem setN_ac {m : Nd} (nd : (keys m).Nodup) (ha : Acyc m) {a b : Str} (hab : a ≠ b) (hd : ¬ Dep m b a) {vs : List Str} (hv : ∀ y ∈ vs, y = b ∨ y ∈ getN m a) : Acyc (setN m a vs) := by
  obtain ⟨rk, hr⟩ := ha
  have one : ∀ {x y : Str}, y ∈ getN m x → rk y < rk x := fun h => (Dep.one h).rk hr
  classical
  refine ⟨fun s => if s = a ∨ Dep m s a then rk s + (rk b + 1) else rk s, fun p hp y hy => ?_⟩
  dsimp only
  have nb : ¬ (b = a ∨ Dep m b a) := fun z => z.elim (fun z => hab z.symm) hd
  have step : ∀ {x y : Str}, y ∈ getN m x → (if y = a ∨ Dep m y a then rk y + (rk b + 1) else rk y) < (if x = a ∨ Dep m x a then rk x + (rk b + 1) else rk x) := by
    intro x y h
    have h1 := one h
    by_cases hy : y = a ∨ Dep m y a
    · have hx : x = a ∨ Dep m x a := .inr (hy.elim (fun z => by subst z; exact .one h) fun z => .more h z)
      rw [if_pos hy, if_pos hx]; omega
    · rw [if_neg hy]; split <;> omega
  rcases setN_mem hp with ⟨e1, e2, hk⟩ | ⟨hm, hne⟩
  · rw [e2] at hy
    rw [e1]
    rcases hv y hy with rfl | z
    · rw [if_neg nb, if_pos (.inl rfl)]; omega
    · exact step z
  · exact step (by rw [getN_mem nd hm]; exact hy)
theorem with_need_wp {o : Bool} {rows : List Str} {m : Nd} {a b : Str} {K : GR → Prop} (h : Sh rows m) (ha : a ∈ rows) (hb : b ∈ rows) (hab : a ≠ b) (hd : ¬ Dep m b a)
    (q : ∀ m', Sh rows m' → (∀ s y, y ∈ getN m' s ↔ y ∈ getN m s ∨ (s = a ∧ y = b)) → K (.ok true (sheetV rows m') (bk o (sheetV rows m)))) : wG g_C_Sheet_with_need [(o, sheetV rows m), (false, .str a), (false, .str b)] K := by
  have hlen := h.len
  have hw := h.wf
  have hak : a ∈ keys m := by rw [h.ks]; exact ha
  have hga := getN_in (h.raw fun _ z => z) a
  have hgl : (getN m a).length ≤ 60 := hw.ll _ (getN_key hak)
  have hfl := List.length_filter_le (fun y => !decide (y = b)) (getN m a)
  have hml := hw.len
  obtain ⟨vs, hvs⟩ : ∃ vs, vs = (getN m a).filter (fun y => !decide (y = b)) ++ [b] := ⟨_, rfl⟩
  have hmem : ∀ y, y ∈ vs ↔ y = b ∨ y ∈ getN m a := fun y => by
    rw [hvs, List.mem_append, List.mem_filter, List.mem_singleton]
    by_cases e : y = b
    · simp [e]
    · simp [e]
  have hnd : vs.Nodup := by
    rw [hvs, List.nodup_append]
    exact ⟨hga.1.sublist List.filter_sublist, by simp, fun x hx y hy e => by
      rw [List.mem_singleton.mp hy] at e
      have := (List.mem_filter.mp hx).2
      simp [e] at this⟩
  have hR : Raw rows (setN m a vs) := by
    refine ⟨by rw [setN_keys]; exact hw.nd, by rw [setN_keys, h.ks]; exact fun _ z => z, fun p hp => ?_⟩
    rcases setN_mem hp with ⟨_, e2, _⟩ | ⟨hm, _⟩
    · rw [e2]
      exact ⟨hnd, fun y hy => ((hmem y).mp hy).elim (fun z => by rw [z]; exact hb) (hga.2 y)⟩
    · exact h.vl p hm
  have hA := setN_ac hw.nd h.ac hab hd (vs := vs) fun y hy => (hmem y).mp hy
  have hS := mkN_sh h.toRows hR hA
  have hq := q _ hS fun s y => by
    by_cases hs : s ∈ rows
    · rw [mkN_get hs, srt_mem, setN_get s hak]
      by_cases e : s = a
      · rw [if_pos e, hmem, e]
        constructor
        · rintro (z | z)
          · exact .inr ⟨rfl, z⟩
          · exact .inl z
        · rintro (z | z)
          · exact .inr z
          · exact .inl z.2
      · rw [if_neg e]
        constructor
        · exact .inl
        · rintro (z | z)
          · exact z
          · exact absurd z.1 e
    · rw [getN_nil (by rw [mkN_keys]; exact hs), getN_nil (by rw [h.ks]; exact hs)]
      constructor
      · intro z; cases z
      · rintro (z | z)
        · cases z
        · exact absurd (z.1 ▸ ha) hs
  have hds : dPut (sd (en m)) (.inr a) (.tup (vs.map .str)) = sd (en (setN m a vs)) := dPut_en hak
  unfold g_C_Sheet_with_need
  rw [wG_run (by rfl) (by cases o <;> simp [ownIx])]
  unfold b_C_Sheet_with_need
  have hml2 : m.length < 100000 := by omega
  cases o
  all_goals
    simp? only [x_need_row]
    refine need_row_wp ha ?_
    simp? only [bk, x_need_row]
    refine need_row_wp hb ?_
    simp? only [bk, f_direct, pix_en m a hak]
    refine wC_map Val.str (fun y => .str y) (fun y => !decide (y = b)) (getN m a) (fun y hy => ⟨_, rfl, ?_, rfl, fun _ => ?_⟩) (by omega) ?_
    · simp? only [F2_C_Sheet_with_need, pneT]
    · simp? only [E1_C_Sheet_with_need]
      exact ⟨_, _, rfl, rfl⟩
    have e1 : ((getN m a).filter fun y => !decide (y = b)).map (fun y => Val.str y) ++ [Val.str b] = vs.map .str := by rw [hvs, List.map_append]; rfl
    have e2 : (vs.map Val.str).length ≤ 100000 := by rw [hvs]; simp; omega
    simp? only [f_names, f_direct, en_len, hml2, e1, e2, M.keyOf, hds]
    refine of_wp (.inl rfl) h.toRows hR hA ?_
    simp? only []
    exact hq
end PK
namespace PK
open PySem L2 M 
/-! ### reprs -/
theorem toDkv_en (m : Nd) : toDkv (sd (en m)) = some (m.map fun p => (PyData.str p.1, PyData.tuple (p.2.map .str))) := by
  induction m with
  | nil => rfl
  | cons p m ih =>
    simp only [en, sd, List.map_cons] at ih ⊢
    simp only [toDkv, keyD, toD, toDs_strs, Option.map_some, ih]
theorem all_mapT {α β : Type} (f : β → Bool) (g : α → β) (xs : List α) (h : ∀ x ∈ xs, f (g x) = true) : (xs.map g).all f = true := by
  rw [List.all_map, List.all_eq_true]; exact h
theorem rszs_strs (ss : List Str) (h : ∀ s ∈ ss, IsName s) : rszs (ss.map .str) ≤ ss.length * 84 ∧ txOks (ss.map .str) = true ∧ PyData.showableAll (ss.map .str) = true ∧ PyData.depthAll (ss.map .str) = 0 ∧ noLsts (ss.map .str) = true := by
  induction ss with
  | nil => simp [rszs, txOks, PyData.showableAll, PyData.depthAll, noLsts]
  | cons s ss ih =>
    obtain ⟨h1, h2, h3, h4, h5⟩ := ih fun x hx => h x (List.mem_cons_of_mem _ hx)
    have hs := h s List.mem_cons_self
    have hl := hs.len
    simp only [List.map_cons, rszs, rsz, txOks, txOk, PyData.showableAll, PyData.showable, PyData.depthAll, PyData.depth, noLsts, noLst, h2, h3, h4, h5, strOk_iff.mpr hs.cp, List.length_cons, Bool.and_self, Nat.max_self, and_true]
    omega
theorem repr_kv (m : Nd) (hn : ∀ p ∈ m, IsName p.1) (hv : ∀ p ∈ m, p.2.length ≤ 60 ∧ ∀ y ∈ p.2, IsName y) :
    rszk (m.map fun p => (PyData.str p.1, PyData.tuple (p.2.map .str))) ≤ m.length * 6000 ∧ txOkk (m.map fun p => (PyData.str p.1, PyData.tuple (p.2.map .str))) = true ∧ PyData.showableKv (m.map fun p => (PyData.str p.1, PyData.tuple (p.2.map .str))) = true ∧
      PyData.depthKv (m.map fun p => (PyData.str p.1, PyData.tuple (p.2.map .str))) ≤ 1 := by
  induction m with
  | nil => simp [rszk, txOkk, PyData.showableKv, PyData.depthKv]
  | cons p m ih =>
    obtain ⟨h1, h2, h3, h4⟩ := ih (fun x hx => hn x (List.mem_cons_of_mem _ hx)) (fun x hx => hv x (List.mem_cons_of_mem _ hx))
    have hs := hn p List.mem_cons_self
    have hl := hs.len
    have hv' := hv p List.mem_cons_self
    obtain ⟨g1, g2, g3, g4, g5⟩ := rszs_strs p.2 hv'.2
    simp only [List.map_cons, rszk, rsz, txOkk, txOk, PyData.showableKv, PyData.showable, PyData.depthKv, PyData.depth, g2, g3, g4, h2, h3, strOk_iff.mpr hs.cp, List.length_cons, Bool.and_self, and_true, true_and]
    constructor <;> omega
theorem repr_en {m : Nd} (hg : Wf m) : ∃ x : Str, PreprX [enc m] = some (false, .str x) := by
  have hv : ∀ p ∈ m, p.2.length ≤ 60 ∧ ∀ y ∈ p.2, IsName y := fun p hp => ⟨hg.ll p hp, fun y hy => hg.nm y (hg.vl p hp y hy)⟩
  obtain ⟨h1, h2, h3, h4⟩ := repr_kv m (fun p hp => hg.nm _ (keys_mem hp)) hv
  have hlen := hg.len
  refine ⟨(PyData.dict (m.map fun p => (PyData.str p.1, PyData.tuple (p.2.map .str)))).shown, ?_⟩
  simp only [PreprX, orP, PreprD, toDkv_en]
  have q1 : (PyData.dict (m.map fun p => (PyData.str p.1, PyData.tuple (p.2.map .str)))).shown.length ≤ sizeLine := by
    have := shown_le (.dict (m.map fun p => (PyData.str p.1, PyData.tuple (p.2.map .str)))) (by rw [txOk]; exact h2)
    rw [rsz] at this
    have e : sizeLine = 16777216 := rfl
    omega
  have q2 : ((m.map fun p => (PyData.str p.1, PyData.tuple (p.2.map .str))).all fun p => noLst p.2) = true := all_mapT _ _ _ fun p hp => by
    simp only [noLst]; exact (rszs_strs p.2 (hv p hp).2).2.2.2.2
  rw [if_pos ⟨q2, by rw [PyData.showable]; exact h3, by rw [PyData.depth]; omega, q1⟩]
theorem repr_of {v : Val} {d : PyData} (hd : toD v = some d) (h1 : d.showable = true) (h2 : d.hasDict = false) (h3 : d.depth ≤ 60) (h4 : d.shown.length ≤ sizeLine) (hn : PreprD [v] = none) : PreprX [v] = some (false, .str d.shown) := by
  simp only [PreprX, orP, hn, Prepr, hd]
  rw [if_pos ⟨h1, h2, h3, h4⟩]
theorem repr_tup {ss : List Str} (h : ∀ s ∈ ss, IsName s) (hl : ss.length ≤ 60) : ∃ x : Str, PreprX [.tup (ss.map .str)] = some (false, .str x) := by
  obtain ⟨h1, h2, h3, h4, h5⟩ := rszs_strs ss h
  have hd : toD (.tup (ss.map .str)) = some (.tuple (ss.map .str)) := by rw [toD, toDs_strs]; rfl
  refine ⟨_, repr_of hd (by rw [PyData.showable]; exact h3) ?_ (by rw [PyData.depth]; omega) ?_ rfl⟩
  · have : ∀ l : List Str, PyData.hasDictAll (l.map .str) = false := by
      intro l
      induction l with
      | nil => rfl
      | cons a l ih => simp [PyData.hasDictAll, PyData.hasDict, ih]
    simp [PyData.hasDict, this]
  · have := shown_le (.tuple (ss.map .str)) (by rw [txOk]; exact h2)
    rw [rsz] at this
    have e : sizeLine = 16777216 := rfl
    omega
theorem repr_non : ∃ x : Str, PreprX [.non] = some (false, .str x) := ⟨_, repr_of (d := .none) rfl rfl rfl (by decide) (by rw [sizeLine_eq]; decide) rfl⟩
/-! ### a sheet with a ring is refused -/
theorem ring_in_val {m : Nd} (hm : Wf m) : ∃ v, g_ring_in [(false, enc m)] = .ok false v none ∧ ((v = .non ∧ Acyc m) ∨ ∃ ss : List Str, v = .tup (ss.map .str) ∧ Ring m ss) := by
  show wG g_ring_in [(false, enc m)] fun x => ∃ v, x = .ok false v none ∧ ((v = .non ∧ Acyc m) ∨ ∃ ss : List Str, v = .tup (ss.map .str) ∧ Ring m ss)
  exact ring_in_wp (K := fun x => ∃ v, x = .ok false v none ∧ ((v = .non ∧ Acyc m) ∨ ∃ ss : List Str, v = .tup (ss.map .str) ∧ Ring m ss)) hm (fun h => ⟨_, rfl, .inl ⟨rfl, h⟩⟩) fun ss h => ⟨_, rfl, .inr ⟨ss, rfl, h⟩⟩
theorem mkN_wf {rows : List Str} {m : Nd} (hr : Rows rows) (hm : Raw rows m) : Wf (mkN rows m) := by
  have e := mkN_keys rows m
  constructor
  · rw [e]; exact hr.nd
  · rw [e]; exact hr.nm
  · rw [e]
    intro p hp y hy
    obtain ⟨s, _, rfl⟩ := List.mem_map.mp hp
    exact (getN_in hm s).2 y (srt_mem.mp hy)
  · have := hr.len; simp [mkN]; omega
  · intro p hp
    obtain ⟨s, _, rfl⟩ := List.mem_map.mp hp
    rw [srt_len]
    have := nodup_len (getN_in hm s).1 (getN_in hm s).2
    have := hr.len
    omega
theorem mkN_ac {rows : List Str} {m : Nd} (hm : Raw rows m) (h : Acyc (mkN rows m)) : Acyc m := by
  obtain ⟨rk, hr⟩ := h
  refine ⟨rk, fun p hp y hy => ?_⟩
  have hs := hm.ks _ (keys_mem hp)
  have e := getN_mem hm.nd hp
  refine hr (p.1, srt (getN m p.1)) (List.mem_map.mpr ⟨p.1, hs, rfl⟩) y ?_
  rw [srt_mem, e]; exact hy
theorem mkN_ring {rows : List Str} {m : Nd} {ss : List Str} (hr : Rows rows) (hm : Raw rows m) (hk : ∀ s ∈ rows, s ∈ keys m) (h : Ring (mkN rows m) ss) : Ring m ss := by
  have e := mkN_keys rows m
  refine ⟨h.ne, fun s hs => hk s (by have := h.ks s hs; rwa [e] at this), h.nd, fun k hkl => ?_⟩
  have h1 := h.nx k hkl
  have h2 : ss.getD k default ∈ rows := by
    have := h.ks (ss.getD k default) (by simp [List.getD_eq_getElem?_getD, hkl])
    rwa [e] at this
  rwa [mkN_get h2, srt_mem] at h1
abbrev ringX (ss : List Str) : Val := .exc "HasRing" [("ring", .tup (ss.map .str))]
theorem fill_ring_wp {fs : List (Str × Val)} {R : Val} {rows : List Str} {m : Nd} {K : GR → Prop} (hR : IsRows R rows) (hr : Rows rows) (hm : Raw rows m) (ha : ¬ Acyc m)
    (q : ∀ ss, Ring (mkN rows m) ss → K (.ex (ringX ss) (some (true, .obj "Sheet" fs)))) : wG g_C_Sheet_fill [(true, .obj "Sheet" fs), (false, R), (false, enc m)] K := by
  have hlen := hr.len
  unfold g_C_Sheet_fill
  rw [wG_run (by rfl) (by simp [ownIx])]
  unfold b_C_Sheet_fill
  simp? only []
  refine need_rows_wp hR hr ?_
  simp? only []
  refine need_needs_wp hR hr hm ?_
  simp? only [hR.items]
  refine wDC_map Val.str (fun s => s) (fun s => .tup ((srt (getN m s)).map .str)) (fun _ => true) rows (fun s hs => ⟨_, rfl, rfl, rfl, fun _ => ?_⟩) (by omega) ?_ ?_
  · have hl64 : (getN m s).length < 64 := by
      have := nodup_len (getN_in hm s).1 (getN_in hm s).2
      omega
    simp? only [K1_C_Sheet_fill, E2_C_Sheet_fill, tyOf, pdget_en, psorted_tup _ hl64]
    exact ⟨_, rfl, _, _, rfl, rfl⟩
  · rw [filter_yes, List.map_id']; exact hr.nd
  rw [filter_yes]
  have e1 : sd (rows.map fun x => (x, Val.tup ((srt (getN m x)).map .str))) = sd (en (mkN rows m)) := by
    simp only [en, mkN, List.map_map]; rfl
  rw [e1]
  simp? only []
  refine ring_in_wp (mkN_wf hr hm) (fun h => absurd (mkN_ac hm h) ha) (fun ss hss => ?_)
  simp? only [PisNot, M.kdef_e3, M.kd3_e1]
  exact q ss hss
theorem of_ring_wp {R : Val} {rows : List Str} {m : Nd} {K : GR → Prop} (hR : IsRows R rows) (hr : Rows rows) (hm : Raw rows m) (ha : ¬ Acyc m) (q : ∀ ss, Ring (mkN rows m) ss → K (.ex (ringX ss) none)) : wG g_C_Sheet_of [(false, .cls "Sheet"), (false, R), (false, enc m)] K := by
  unfold g_C_Sheet_of
  rw [wG_run (by rfl) (by simp [ownIx])]
  unfold b_C_Sheet_of
  simp? only []
  refine init0_wp ?_
  have hl : (sheetF [] []).lookup ("fill" : Str) = none := rfl
  simp? only [hl]
  refine fill_ring_wp hR hr hm ha fun ss hss => ?_
  simp? only []
  exact q ss hss
end PK
namespace PK
open PySem L2 M 
/-! ### lists as sets, texts as values -/
theorem perm_of {a b : List Str} (ha : a.Nodup) (hb : b.Nodup) (h : ∀ x, x ∈ a ↔ x ∈ b) : a.Perm b := by
  rw [List.perm_iff_count]
  have cn : ∀ {l : List Str} (x : Str), l.Nodup → l.count x = if x ∈ l then 1 else 0 := by
    intro l x
    induction l with
    | nil => intro _; simp
    | cons y l ih =>
      intro nd
      rw [List.nodup_cons] at nd
      rw [List.count_cons, ih nd.2]
      by_cases e : y = x
      · subst e; simp [nd.1]
      · have e' : ¬ x = y := fun z => e z.symm
        simp [e, e']
  intro x
  rw [cn x ha, cn x hb]
  simp [h x]
theorem pdict_of {α : Type} (kf : α → Str) (z : α → Val) (xs : List α) (nd : (xs.map kf).Nodup) : Pdict [.lst (xs.map fun x => .tup [.str (kf x), z x])] = some (true, .dct false (sd (xs.map fun x => (kf x, z x)))) := by
  have h1 : ∀ xs : List α, asPairs (xs.map fun x => .tup [.str (kf x), z x]) = some (xs.map fun x => (.str (kf x), z x)) := by
    intro xs
    induction xs with
    | nil => rfl
    | cons x xs ih => simp only [List.map_cons, asPairs, ih, Option.map_some]
  have h2 : ∀ (xs : List α) (acc : List (Str × Val)), (acc.map (·.1) ++ xs.map kf).Nodup → putAll (sd acc) (xs.map fun x => (.str (kf x), z x)) = some (sd (acc ++ xs.map fun x => (kf x, z x))) := by
    intro xs
    induction xs with
    | nil => intro acc _; simp [putAll]
    | cons x xs ih =>
      intro acc nd
      rw [List.map_cons] at nd
      have hn : kf x ∉ acc.map (·.1) := fun hm => (List.nodup_append.mp nd).2.2 _ hm (kf x) (by simp) rfl
      rw [List.map_cons, putAll]
      simp only [M.keyOf]
      rw [dPut_new hn, ih (acc ++ [(kf x, z x)]) (by simpa using nd)]
      simp
  have h3 := h2 xs [] (by simpa using nd)
  rw [show (sd [] : List (Val × Val)) = [] from rfl] at h3
  simp only [Pdict, h1, h3]
  rfl
theorem pne_strs (a b : List Str) (ha : ∀ s ∈ a, CpOk s) (hb : ∀ s ∈ b, CpOk s) : PneX [.lst (a.map .str), .lst (b.map .str)] = some (false, .bl (!decide (a = b))) := by
  have h1 := shp_strs a ha
  have h2 := shp_strs b hb
  have key : ∀ a b : List Str, PyData.eqvAll (a.map .str) (b.map .str) = decide (a = b) := by
    intro a
    induction a with
    | nil => intro b; cases b <;> simp [PyData.eqvAll]
    | cons x a ih =>
      intro b
      cases b with
      | nil => simp [PyData.eqvAll]
      | cons z b => simp only [List.map_cons, PyData.eqvAll, ih, eqv_str, List.cons.injEq]; rw [Bool.eq_iff_iff]; simp
  have h3 : Pne [.lst (a.map .str), .lst (b.map .str)] = some (false, .bl (!decide (a = b))) := by
    simp only [Pne, toD, toDs_strs, Option.map_some]
    rw [if_pos ⟨h1, h2⟩]
    simp only [PyData.eqv, key]
  simp only [PneX, orP, PneS, h3]
theorem pneB (a b : Bool) : PneX [.bl a, .bl b] = some (false, .bl (!(a == b))) := by cases a <;> cases b <;> rfl
theorem peqB (a b : Bool) : PeqX [.bl a, .bl b] = some (false, .bl (a == b)) := by cases a <;> cases b <;> rfl
theorem peq_one {a : Str} (h : CpOk a) : PeqX [.tup [.str a], .tup [.str a]] = some (false, .bl true) := by
  have h1 := shp_tup [a] (by simpa using h)
  simp only [List.map_cons, List.map_nil] at h1
  simp [PeqX, orP, PeqS, Peq, toD, toDs, h1, PyData.eqv, PyData.eqvAll]
end PK
namespace BS
open PySem L2 M BB PK
def E1__law_sheet : EF := (bin Pix (oS 2) (oS 9))
def F2__law_sheet : BF := (andB (tst (bin Pgt (oS 7) (oV (cst (.int 1))))) (tst (bin PeqX (oV (callG 2 g__law_draw (osCons (oS 0) (osCons (oV (bin Pix (oV (lst (asCons (cst (.int 1)) (asCons (cst (.int 1)) (asCons (cst (.int 4)) (asCons (cst (.int 3)) (asCons (cst (.int 2)) asNil))))))) (oS 7))) osNil)))) (oV (cst (.int 0))))))
def L3__law_sheet : SF := (seq (asg 8 (lc (itR rng1 (asCons (var 4) asNil)) (tgN 9) F2__law_sheet E1__law_sheet [9]))
    (seq (ifS (tst (bin PeqX (oS 7) (oV (cst (.int 1))))) (asg 8 (frz (slc (oS 2) (pInt (prim Pmax2 (osCons (oV (cst (.int 0))) (osCons (oV (bin Psub (oS 4) (oV (cst (.int 1))))) osNil)))) (pInt (var 4))))) skip)
    (setIx 3 (bin Pix (oS 2) (oS 4)) (prim Ptuple (osCons (oV (callG 2 g__law_shuffled (osCons (oS 0) (osCons (oV (var 8)) osNil)))) osNil)))))
def b__law_sheet : SF := (seq (asgT (tgT (tgCons (tgN 6) (tgCons (tgN 7) tgNil))) (tup (asCons (callG 2 g__law_draw (osCons (oS 0) (osCons (oV (cst (.int 4))) osNil))) (asCons (callG 2 g__law_draw (osCons (oS 0) (osCons (oV (cst (.int 5))) osNil))) asNil))))
    (seq (asg 2 (frz (callG 2 g__law_names (osCons (oS 0) (osCons (oV (var 1)) osNil)))))
    (seq (asg 3 (dNew false))
    (seq (forS (itR rng1 (asCons (var 1) asNil)) (tgN 4) L3__law_sheet)
    (seq (asg 5 (bin Pix (oV (lst (asCons (var 2) (asCons (prim Prev (osCons (oS 2) osNil)) (asCons (callG 2 g__law_shuffled (osCons (oS 0) (osCons (oV (var 2)) osNil))) (asCons (callG 2 g__law_shuffled (osCons (oS 0) (osCons (oV (var 2)) osNil))) asNil)))))) (oS 6)))
    (ret (tup (asCons (var 5) (asCons (var 3) asNil)))))))))
def g__law_sheet : GF := runDef [0, 1] 2 10 b__law_sheet
end BS
namespace BS
open PySem L2 M BB PK
/-! ### the drawn sheet -/
/-- rows and needs of a sheet, as they are drawn -/
structure Pg (rows : List Str) (m : Nd) : Prop where
  rw_ : Rows rows
  raw : Raw rows m
  ac : Acyc m
  ks : ∀ s ∈ rows, s ∈ keys m
theorem pixB (d : Int) (h : 1 < d ∧ d < 5) : ∃ q : Int, Pix [.lst [.int 1, .int 1, .int 4, .int 3, .int 2], .int d] = some (false, .int q) ∧ 0 < q ∧ q < 20 := by
  have : d = 2 ∨ d = 3 ∨ d = 4 := by omega
  rcases this with z | z | z <;> subst z
  · exact ⟨4, rfl, by decide, by decide⟩
  · exact ⟨3, rfl, by decide, by decide⟩
  · exact ⟨2, rfl, by decide, by decide⟩
theorem cut_two {α : Type} (xs : List α) (a b : Nat) (hb : b ≤ xs.length) : cutA xs (some (a : Int)) (some (b : Int)) = (xs.take b).drop a := by
  unfold cutA
  rw [HT.sIx_nat, HT.sIx_nat, Nat.min_eq_left hb]
  rcases Nat.le_total a xs.length with h | h
  · rw [Nat.min_eq_left h, List.drop_take]
  · rw [Nat.min_eq_right h, List.drop_eq_nil_of_le (Nat.le_refl _), List.drop_eq_nil_of_le (by simp; omega)]; simp
/-- the slots of a turn -/
abbrev bsE (p : Val) (many : Int) (hid : List Str) (m : Nd) (k : M.Slot) (way d : Int) (s : M.Slot) : M.Env := [some (true, p), some (false, .int many), some (false, .lst (hid.map .str)), some (true, enc m), k, none, some (false, .int way), some (false, .int d), s, none]
theorem bs_some {m0 many way d : Int} {p : Val} {hid : List Str} {m : Nd} {k : Nat} {b8 : M.Slot} {Q : AR → Prop} (hp : Pen m0 p) (hm : m0 < 990000) (hl : hid.length ≤ 60) (hk : k ≤ hid.length) (d1 : d < 5)
    (q : ∀ (ys : List Str) (p' : Val), ys.Sublist (hid.take k) → Pen (m0 + k) p' → Q (.ok (ys.map .str) (bsE p' many hid m (some (false, .int (k : Nat))) way d b8))) :
    wC (M.tgN 9) F2__law_sheet E1__law_sheet [9] (nums k) [] (bsE p many hid m (some (false, .int (k : Nat))) way d b8) Q := by
  have hpos := hp.pos
  obtain ⟨I, hI⟩ : ∃ I : List Val → List Val → M.Env → Prop, I = fun vs acc r => ∃ (j : Nat) (ys : List Str) (p4 : Val), vs = (nums k).drop j ∧ j ≤ k ∧ acc = ys.map .str ∧ ys.Sublist (hid.take j) ∧ Pen (m0 + j) p4 ∧ r = bsE p4 many hid m (some (false, .int (k : Nat))) way d b8 := ⟨_, rfl⟩
  refine wC_inv I ?_ ?_ _ _ _ (by rw [hI]; exact ⟨0, [], p, rfl, by omega, rfl, by simp, hp.mono (by omega), rfl⟩)
  · intro v vs acc r h
    rw [hI] at h
    obtain ⟨j, ys, p4, e, hj, rfl, hys, hp4, rfl⟩ := h
    obtain ⟨hj2, rfl, rfl⟩ := drop_step e
    rw [nums_len] at hj2
    rw [nums_get]
    have hjh : j < hid.length := by omega
    have hyl := hys.length_le
    rw [List.length_take] at hyl
    have hacc : (ys.map Val.str).length < 100000 := by rw [List.length_map]; omega
    have hx := pix_strs (ss := hid) (i := (j : Int)) (by omega) (by simpa using hjh)
    simp only [Int.toNat_natCast] at hx
    have keep : ys.Sublist (hid.take (j + 1)) := hys.trans (List.take_sublist_take_left (by omega))
    simp? only [F2__law_sheet, E1__law_sheet]
    by_cases hd : 1 < d
    · obtain ⟨qq, e2, q0, q1⟩ := pixB d ⟨hd, d1⟩
      simp? only [hd, decide_true, e2]
      refine draw_wp hp4 (by omega) q0 (by omega) fun w p5 w0 w1 hp5 => ?_
      simp? only [peqI]
      by_cases hw : w = 0
      · simp? only [hw, decide_true, hx]
        rw [hI]
        refine ⟨hacc, j + 1, ys ++ [hid[j]], p5, rfl, hj2, by simp, ?_, hp5.mono (by omega), rfl⟩
        rw [List.take_succ_eq_append_getElem hjh]
        exact hys.append (.refl _)
      · simp? only [hw, decide_false]
        rw [hI]
        exact ⟨j + 1, ys, p5, rfl, hj2, rfl, keep, hp5.mono (by omega), rfl⟩
    · simp? only [hd, decide_false]
      rw [hI]
      exact ⟨j + 1, ys, p4, rfl, hj2, rfl, keep, hp4.mono (by omega), rfl⟩
  · intro acc r h
    rw [hI] at h
    obtain ⟨j, ys, p4, e, hj, rfl, hys, hp4, rfl⟩ := h
    have hj2 := drop_end e (by rw [nums_len]; exact hj)
    rw [nums_len] at hj2
    subst hj2
    exact q ys p4 hys hp4
theorem bs_turn {m0 many way d : Int} {p : Val} {hid : List Str} {m : Nd} {k : Nat} {b8 : M.Slot} {Q : SR → Prop} (hp : Pen m0 p) (hm : m0 < 980000) (hl : hid.length ≤ 60) (hk : k < hid.length) (d1 : d < 5)
    (hnd : hid.Nodup) (hfr : hid[k] ∉ keys m) (hml : m.length ≤ 60)
    (q : ∀ (us : List Str) (p' : Val) (b8 : M.Slot), us.Nodup → (∀ y ∈ us, y ∈ hid.take k) → Pen (m0 + 130) p' → Q (.nx (bsE p' many hid (m ++ [(hid[k], us)]) (some (false, .int (k : Nat))) way d b8))) :
    wS L3__law_sheet (bsE p many hid m (some (false, .int (k : Nat))) way d b8) Q := by
  have hpos := hp.pos
  have x2 := pix_strs (ss := hid) (i := (k : Int)) (by omega) (by simpa using hk)
  simp only [Int.toNat_natCast] at x2
  have hpx : ∀ us : List Str, putIx (enc m) (.str hid[k]) (.tup (us.map .str)) = some (enc (m ++ [(hid[k], us)])) := fun us => by
    have := putIx_new (v := .tup (us.map .str)) (ps := en m) (by rw [en_keys]; exact hfr) (by simp [en]; omega)
    rw [show en m ++ [(hid[k], .tup (us.map .str))] = en (m ++ [(hid[k], us)]) by simp [en]] at this
    exact this
  have htl : (hid.take k).length = k := by rw [List.length_take]; omega
  unfold L3__law_sheet
  rw [wS_seq]
  simp? [rng_nat k (by omega)]
  refine bs_some hp (by omega) hl (by omega) d1 fun ys p4 hys hp4 => ?_
  have hyl := hys.length_le
  rw [htl] at hyl
  simp? []
  rw [kseq, wS_seq]
  generalize hK : kseq _ Q = K2
  have tail : ∀ (zs : List Str) (b : Bool), zs.Sublist (hid.take k) → K2 (.nx (bsE p4 many hid m (some (false, .int (k : Nat))) way d (some (b, .lst (zs.map .str))))) := by
    intro zs b hz
    have hzl := hz.length_le
    rw [htl] at hzl
    rw [← hK, kseq]
    cases b
    all_goals
      simp? only []
      refine shuffled_wp hp4 (by simp; omega) (by simp; omega) fun ys p6 hperm hp6 => ?_
      obtain ⟨us, rfl, hus⟩ := perm_strs hperm
      simp? only [x2, hpx]
      exact q us p6 _ (hus.nodup_iff.mpr ((hnd.sublist (List.take_sublist _ _)).sublist hz)) (fun y hy => hz.subset (hus.subset hy)) (hp6.mono (by simp; omega))
  by_cases hd1 : d = 1
  · subst hd1
    have hcut : cutA (hid.map Val.str) (some ((k : Int) - 1)) (some (k : Int)) = ((hid.take k).drop (k - 1)).map .str ∨ k = 0 := by
      by_cases h0 : k = 0
      · exact .inr h0
      · refine .inl ?_
        rw [show ((k : Int) - 1) = ((k - 1 : Nat) : Int) by omega, cut_two _ _ _ (by simp; omega), List.map_drop, List.map_take]
    have hcut0 : cutA (hid.map Val.str) (some ((0 : Nat) : Int)) (some ((0 : Nat) : Int)) = [] := by rw [cut_two _ _ _ (by omega)]; rfl
    have hsub : Psub [.int (k : Nat), .int 1] = some (false, .int ((k : Int) - 1)) := rfl
    by_cases h0 : k = 0
    · subst h0
      have hmx : Pmax2 [.int 0, .int (((0 : Nat) : Int) - 1)] = some (false, .int ((0 : Nat) : Int)) := rfl
      simp? only [peqI, decide_true, hsub, hmx, Psl, hcut0]
      exact tail [] false (List.nil_sublist _)
    · have hmx : Pmax2 [.int 0, .int ((k : Int) - 1)] = some (false, .int ((k : Int) - 1)) := by
        simp only [Pmax2]
        have : (if ((k : Int) - 1) > 0 then (k : Int) - 1 else 0) = (k : Int) - 1 := by split <;> omega
        rw [this]
      simp? only [peqI, decide_true, hsub, hmx, Psl, hcut.resolve_right h0]
      exact tail _ false (List.drop_sublist _ _)
  · simp? only [peqI, hd1, decide_false]
    exact tail ys true hys
theorem sheet_wp {m0 many : Int} {p : Val} {K : GR → Prop} (hp : Pen m0 p) (hm : m0 < 900000) (h0 : 0 ≤ many) (h1 : many ≤ 60)
    (q : ∀ (rows : List Str) (m : Nd) (p' : Val), rows.length = many.toNat → Pg rows m → Pen (m0 + 9000) p' → K (.ok false (.tup [.lst (rows.map .str), enc m]) (some (true, p')))) : wG g__law_sheet [(true, p), (false, .int many)] K := by
  have hpos := hp.pos
  unfold g__law_sheet
  rw [wG_run (by rfl) (by simp [ownIx])]
  unfold b__law_sheet
  simp? only []
  refine draw_wp hp (by omega) (by decide) (by decide) fun way pa w0 w1 hpa => ?_
  simp? only []
  refine draw_wp hpa (by omega) (by decide) (by decide) fun d pb d0 d1 hpb => ?_
  simp? only []
  refine names_wp hpb (by omega) (by omega) (by omega) fun hid p1 hl hnd hnm hp1 => ?_
  simp? only [rng_nums many ⟨by omega, by omega⟩]
  obtain ⟨I, hI⟩ : ∃ I : List Val → M.Env → Prop, I = fun vs r => ∃ (k : Nat) (m : Nd) (p3 : Val) (b4 b8 : M.Slot), vs = (nums many.toNat).drop k ∧ k ≤ many.toNat ∧ keys m = hid.take k ∧ (∀ x ∈ m, x.2.Nodup ∧ ∀ y ∈ x.2, y ∈ hid ∧ hid.idxOf y < hid.idxOf x.1) ∧ Pen (m0 + 4 + k * 130) p3 ∧
    r = bsE p3 many hid m b4 way d b8 := ⟨_, rfl⟩
  refine wL_inv I ?_ ?_ _ _ (by rw [hI]; exact ⟨0, [], p1, none, none, rfl, by omega, by simp [keys], by simp, hp1.mono (by omega), rfl⟩)
  · intro v vs r h
    rw [hI] at h
    obtain ⟨k, m, p3, b4, b8, e, hk, hkeys, hvals, hp3, rfl⟩ := h
    obtain ⟨hk2, rfl, rfl⟩ := drop_step e
    rw [nums_get]
    rw [nums_len] at hk2
    have hkn : k < hid.length := by omega
    have hml : m.length = k := by
      have := congrArg List.length hkeys
      simp [keys] at this
      omega
    have hfresh : hid[k] ∉ keys m := by
      rw [hkeys]
      intro z
      obtain ⟨i, hi, ei⟩ := List.mem_take_iff_getElem.mp z
      have := (List.getElem_inj hnd).mp ei
      omega
    simp only [M.kT, M.tgN, List.set_cons_succ, List.set_cons_zero]
    refine bs_turn hp3 (by omega) (by omega) hkn d1 hnd hfresh (by omega) fun us p6 b8 hu1 hu2 hp6 => ?_
    rw [kTurn, hI]
    refine ⟨k + 1, _, p6, _, _, rfl, hk2, ?_, ?_, hp6.mono (by simp; omega), rfl⟩
    · simp only [keys, List.map_append] at hkeys ⊢
      rw [hkeys, List.take_succ_eq_append_getElem hkn]; rfl
    · intro x hx
      rcases List.mem_append.mp hx with z | z
      · exact hvals x z
      · rw [List.mem_singleton.mp z]
        refine ⟨hu1, fun y hy => ?_⟩
        obtain ⟨i, hi, rfl⟩ := List.mem_take_iff_getElem.mp (hu2 y hy)
        refine ⟨List.getElem_mem _, ?_⟩
        rw [hnd.idxOf_getElem, hnd.idxOf_getElem]
        omega
  · intro r h
    rw [hI] at h
    obtain ⟨k, m, p3, b4, b8, e, hk, hkeys, hvals, hp3, rfl⟩ := h
    have hk2 := drop_end e (by rw [nums_len]; exact hk)
    rw [nums_len] at hk2
    subst hk2
    rw [← hl, List.take_length] at hkeys
    have hPg : ∀ rows : List Str, rows.Perm hid → Pg rows m := fun rows hr => by
      refine ⟨⟨hr.nodup_iff.mpr hnd, fun s hs => hnm s (hr.subset hs), by rw [hr.length_eq]; omega⟩, ⟨by rw [hkeys]; exact hnd, fun s hs => ?_, fun x hx => ⟨(hvals x hx).1, fun y hy => ?_⟩⟩, ⟨hid.idxOf, fun x hx y hy => ((hvals x hx).2 y hy).2⟩, fun s hs => ?_⟩
      · rw [hkeys] at hs; exact hr.mem_iff.mpr hs
      · exact hr.mem_iff.mpr ((hvals x hx).2 y hy).1
      · rw [hkeys]; exact hr.mem_iff.mp hs
    simp? only []
    refine shuffled_wp hp3 (by simp; omega) (by simp; omega) fun ys1 p4 hperm1 hp4 => ?_
    obtain ⟨us1, rfl, hus1⟩ := perm_strs hperm1
    simp? only []
    refine shuffled_wp hp4 (by simp; omega) (by simp; omega) fun ys2 p5 hperm2 hp5 => ?_
    obtain ⟨us2, rfl, hus2⟩ := perm_strs hperm2
    have hp6 : Pen (m0 + 9000) p5 := hp5.mono (by simp; omega)
    rw [← List.map_reverse]
    have : way = 0 ∨ way = 1 ∨ way = 2 ∨ way = 3 := by omega
    rcases this with z | z | z | z <;> subst z
    · have hx : Pix [.lst [.lst (hid.map .str), .lst (hid.reverse.map .str), .lst (us1.map .str), .lst (us2.map .str)], .int 0] = some (false, .lst (hid.map .str)) := rfl
      simp? only [hx]
      exact q hid m p5 (by omega) (hPg _ (.refl _)) hp6
    · have hx : Pix [.lst [.lst (hid.map .str), .lst (hid.reverse.map .str), .lst (us1.map .str), .lst (us2.map .str)], .int 1] = some (false, .lst (hid.reverse.map .str)) := rfl
      simp? only [hx]
      exact q _ m p5 (by simp; omega) (hPg _ (List.reverse_perm _)) hp6
    · have hx : Pix [.lst [.lst (hid.map .str), .lst (hid.reverse.map .str), .lst (us1.map .str), .lst (us2.map .str)], .int 2] = some (false, .lst (us1.map .str)) := rfl
      simp? only [hx]
      exact q _ m p5 (by have := hus1.length_eq; omega) (hPg _ hus1) hp6
    · have hx : Pix [.lst [.lst (hid.map .str), .lst (hid.reverse.map .str), .lst (us1.map .str), .lst (us2.map .str)], .int 3] = some (false, .lst (us2.map .str)) := rfl
      simp? only [hx]
      exact q _ m p5 (by have := hus2.length_eq; omega) (hPg _ hus2) hp6
end BS
namespace K10
open PySem L2 M BB PK BS
def E1__law_tangle : EF := (var 7)
def F2__law_tangle : BF := (andB (tst (bin Pgt (oS 3) (oV (cst (.int 1))))) (tst (bin PeqX (oV (callG 2 g__law_draw (osCons (oS 0) (osCons (oV (bin Pix (oV (lst (asCons (cst (.int 1)) (asCons (cst (.int 1)) (asCons (cst (.int 12)) (asCons (cst (.int 6)) (asCons (cst (.int 3)) asNil))))))) (oS 3))) osNil)))) (oV (cst (.int 0))))))
def L3__law_tangle : SF := (seq (asg 6 (lc (itV (var 2)) (tgN 7) F2__law_tangle E1__law_tangle [7]))
    (seq (ifS (tst (bin PeqX (oS 3) (oV (cst (.int 1))))) (asg 6 (frz (lst (asCons (bin Pix (oS 2) (oV (bin Pmod (oV (bin Padd (oS 5) (oV (cst (.int 1))))) (oS 1)))) asNil)))) skip)
    (seq (ifS (tst (bin PeqX (oV (callG 2 g__law_draw (osCons (oS 0) (osCons (oV (cst (.int 9))) osNil)))) (oV (cst (.int 0))))) (asg 6 (frz (lst (asCons (bin Pix (oS 2) (oS 5)) asNil)))) skip)
    (setIx 4 (bin Pix (oS 2) (oS 5)) (prim Ptuple (osCons (oV (callG 2 g__law_shuffled (osCons (oS 0) (osCons (oV (var 6)) osNil)))) osNil))))))
def b__law_tangle : SF := (seq (asg 2 (frz (callG 2 g__law_names (osCons (oS 0) (osCons (oV (var 1)) osNil)))))
    (seq (asg 3 (frz (callG 2 g__law_draw (osCons (oS 0) (osCons (oV (cst (.int 5))) osNil)))))
    (seq (asg 4 (dNew false))
    (seq (forS (itR rng1 (asCons (var 1) asNil)) (tgN 5) L3__law_tangle)
    (ret (mv 4))))))
def g__law_tangle : GF := runDef [0, 1] 2 8 b__law_tangle
def E1__law_has_ring : EF := (var 5)
def F2__law_has_ring : BF := (tst (bin PinX (oS 5) (oS 1)))
def E3__law_has_ring : EF := (var 4)
def F4__law_has_ring : BF := (tst (bin PeqX (oV (lc (itV (bin Pix (oS 1) (oS 4))) (tgN 5) F2__law_has_ring E1__law_has_ring [5])) (oV (lst asNil))))
def E5__law_has_ring : EF := (tup (asCons (var 4) (asCons (bin Pix (oS 1) (oS 4)) asNil)))
def F6__law_has_ring : BF := (tst (bin PnotInX (oS 4) (oS 3)))
def L7__law_has_ring : SF := (seq (asg 3 (frz (lc (itV (var 1)) (tgN 4) F4__law_has_ring E3__law_has_ring [4])))
    (asg 1 (frz (prim Pdict (osCons (oV (lc (itV (var 1)) (tgN 4) F6__law_has_ring E5__law_has_ring [4])) osNil)))))
def b__law_has_ring : SF := (seq (asg 1 (frz (prim Pdict (osCons (oS 0) osNil))))
    (seq (forS (itR rng1 (asCons (prim PlenX (osCons (oS 0) osNil)) asNil)) (tgN 2) L7__law_has_ring)
    (ret (bin PneY (oS 1) (oV (dNew false))))))
def g__law_has_ring : GF := runDef [0] 1 6 b__law_has_ring
def L1__law_is_ring : SF := (ifS (orB (notB (tst (prim Pisi (osCons (oV (bin Pix (oS 1) (oS 2))) (osCons (oV (cst (.ty "str"))) osNil))))) (orB (tst (bin PnotInX (oV (bin Pix (oS 1) (oS 2))) (oS 0))) (tst (bin PinX (oV (bin Pix (oS 1) (oS 2))) (oV (slc (oS 1) pNo (pInt (var 2)))))))) (ret (cst (.bl false))) skip)
def L2__law_is_ring : SF := (ifS (tst (bin PnotInX (oV (bin Pix (oS 1) (oV (bin Pmod (oV (bin Padd (oS 2) (oV (cst (.int 1))))) (oV (prim Plen (osCons (oS 1) osNil))))))) (oV (bin Pix (oS 0) (oV (bin Pix (oS 1) (oS 2))))))) (ret (cst (.bl false))) skip)
def b__law_is_ring : SF := (seq (ifS (orB (notB (tst (prim Pisi (osCons (oS 1) (osCons (oV (cst (.ty "tuple"))) osNil))))) (tst (bin PeqX (oS 1) (oV (tup asNil))))) (ret (cst (.bl false))) skip)
    (seq (forS (itR rng1 (asCons (prim Plen (osCons (oS 1) osNil)) asNil)) (tgN 2) L1__law_is_ring)
    (seq (forS (itR rng1 (asCons (prim Plen (osCons (oS 1) osNil)) asNil)) (tgN 2) L2__law_is_ring)
    (ret (cst (.bl true))))))
def g__law_is_ring : GF := runDef [0, 1] 2 3 b__law_is_ring
def E1_is_ring : EF := (andV (prim Pisi (osCons (oS 2) (osCons (oV (cst (.ty "str"))) osNil))) (bin PinX (oS 2) (oS 0)))
def E2_is_ring : EF := (bin PinX (oS 3) (oV (bin Pix (oS 0) (oS 2))))
def b_is_ring : SF := (seq (ifS (orB (notB (tst (prim Pisi (osCons (oS 1) (osCons (oV (cst (.ty "tuple"))) osNil))))) (tst (bin PeqX (oV (prim Plen (osCons (oS 1) osNil))) (oV (cst (.int 0)))))) (ret (cst (.bl false))) skip)
    (seq (ifS (orB (notB (tst (prim Pall (osCons (oV (lc (itV (var 1)) (tgN 2) yesB E1_is_ring [2])) osNil)))) (tst (bin Plt (oV (lenSet (var 1))) (oV (prim Plen (osCons (oS 1) osNil)))))) (ret (cst (.bl false))) skip)
    (ret (prim Pall (osCons (oV (lc (itZip (asCons (var 1) (asCons (tup (asStar (slc (oS 1) (pInt (cst (.int 1))) pNo) (asCons (bin Pix (oS 1) (oV (cst (.int 0)))) asNil))) asNil))) (tgT (tgCons (tgN 2) (tgCons (tgN 3) tgNil))) yesB E2_is_ring [2, 3])) osNil)))))
def g_is_ring : GF := runDef [0, 1] 2 4 b_is_ring
def Y1__law_refused : SF := (drop (callG 3 g_C_Sheet_of (osCons (oV (cst (.cls "Sheet"))) (osCons (oV (var 0)) (osCons (oV (var 1)) osNil)))))
def U2__law_refused : SF := (asg 2 (var 3))
def TB3__law_refused : ETb := ([(("InvalidRow", "HasRing"), false), (("InvalidNeeds", "HasRing"), false), (("HasRing", "HasRing"), true)], [(("InvalidRow", "ValueError"), true), (("InvalidNeeds", "ValueError"), true), (("HasRing", "ValueError"), true)])
def b__law_refused : SF := (seq (asg 2 (cst .non))
    (seq (tryS Y1__law_refused [⟨[("InvalidRow", true), ("InvalidNeeds", true), ("HasRing", true)], some 3, U2__law_refused⟩])
    (seq (ifS (tst (bin Pis (oS 2) (oV (cst .non)))) (ret (cst .non)) skip)
    (ret (ite (andB (tst (prim (PisE TB3__law_refused) (osCons (oS 2) (osCons (oV (cst (.cls "HasRing"))) osNil)))) (tst (prim (PisE TB3__law_refused) (osCons (oS 2) (osCons (oV (cst (.ty "ValueError"))) osNil))))) (prim (Pxf ["HasRing"] "ring") (osCons (oS 2) osNil)) (cst (.str "other")))))))
def g__law_refused : GF := runDef [0, 1] 2 4 b__law_refused
def E1_law : EF := (var 7)
def L2_law : SF := (seq (asg 3 (frz (callG 2 g__law_tangle (osCons (oS 1) (osCons (oV (bin Pix (oV (lst (asCons (cst (.int 0)) (asCons (cst (.int 1)) (asCons (cst (.int 2)) (asCons (cst (.int 3)) (asCons (cst (.int 9)) (asCons (callG 2 g__law_draw (osCons (oS 1) (osCons (oV (cst (.int 10))) osNil))) asNil)))))))) (oV (callG 2 g__law_draw (osCons (oS 1) (osCons (oV (cst (.int 6))) osNil)))))) osNil)))))
    (seq (asg 4 (frz (prim PreprX (osCons (oS 3) osNil))))
    (seq (asg2 5 6 (asCons (callG 1 g_ring_in (osCons (oV (var 3)) osNil)) (asCons (callG 1 g_ring_in (osCons (oV (var 3)) osNil)) asNil)))
    (seq (ifS (orB (tst (bin PneX (oV (bin PisNot (oS 5) (oV (cst .non)))) (oV (callG 1 g__law_has_ring (osCons (oV (var 3)) osNil))))) (tst (bin PneX (oV (prim PreprX (osCons (oS 5) osNil))) (oV (prim PreprX (osCons (oS 6) osNil)))))) (ret (cst (.bl false))) skip)
    (seq (ifS (andB (tst (bin PisNot (oS 5) (oV (cst .non)))) (orB (notB (tst (callG 2 g__law_is_ring (osCons (oV (var 3)) (osCons (oV (var 5)) osNil))))) (tst (bin PisNot (oV (callG 2 g_is_ring (osCons (oV (var 3)) (osCons (oV (var 5)) osNil)))) (oV (cst (.bl true))))))) (ret (cst (.bl false))) skip)
    (seq (asg 5 (frz (callG 2 g__law_refused (osCons (oV (frz (callG 2 g__law_shuffled (osCons (oS 1) (osCons (oV (frz (lc (itV (var 3)) (tgN 7) yesB E1_law [7]))) osNil))))) (osCons (oV (var 3)) osNil)))))
    (seq (ifS (orB (tst (bin PneX (oV (bin PisNot (oS 5) (oV (cst .non)))) (oV (callG 1 g__law_has_ring (osCons (oV (var 3)) osNil))))) (andB (tst (bin PisNot (oS 5) (oV (cst .non)))) (notB (tst (callG 2 g__law_is_ring (osCons (oV (var 3)) (osCons (oV (var 5)) osNil))))))) (ret (cst (.bl false))) skip)
    (ifS (tst (bin PneX (oV (prim PreprX (osCons (oS 3) osNil))) (oS 4))) (ret (cst (.bl false))) skip))))))))
def b_law : SF := (seq (asg 1 (callG 1 g__law_pen (osCons (oV (var 0)) osNil)))
    (seq (forS (itR rng1 (asCons (cst (.int 5)) asNil)) (tgN 2) L2_law)
    (ret (cst (.bl true)))))
def g_law : GF := runDef [0] 1 8 b_law
end K10
namespace K10
open PySem L2 M BB PK BS
/-! ### needs that may have rings -/
structure Tg (m : Nd) : Prop where
  nd : (keys m).Nodup
  nm : ∀ s ∈ keys m, IsName s
  vl : ∀ p ∈ m, p.2.Nodup ∧ ∀ y ∈ p.2, y ∈ keys m
  len : m.length ≤ 9
theorem Tg.wf {m : Nd} (h : Tg m) : Wf m := ⟨h.nd, h.nm, fun p hp => (h.vl p hp).2, by have := h.len; omega, fun p hp => by
  have := nodup_len (h.vl p hp).1 (h.vl p hp).2
  have := h.len
  simp only [keys, List.length_map] at *
  omega⟩
theorem pixT (d : Int) (h : 1 < d ∧ d < 5) : ∃ q : Int, Pix [.lst [.int 1, .int 1, .int 12, .int 6, .int 3], .int d] = some (false, .int q) ∧ 0 < q ∧ q < 20 := by
  have : d = 2 ∨ d = 3 ∨ d = 4 := by omega
  rcases this with z | z | z <;> subst z
  · exact ⟨12, rfl, by decide, by decide⟩
  · exact ⟨6, rfl, by decide, by decide⟩
  · exact ⟨3, rfl, by decide, by decide⟩
abbrev tg (p : Val) (many : Int) (nms : List Str) (d : Int) (m : Nd) (k : M.Slot) (s : M.Slot) : M.Env := [some (true, p), some (false, .int many), some (false, .lst (nms.map .str)), some (false, .int d), some (true, enc m), k, s, none]
theorem tangle_some {m0 many d : Int} {p : Val} {nms : List Str} {m : Nd} {k b6 : M.Slot} {Q : AR → Prop} (hp : Pen m0 p) (hm : m0 < 990000) (hl : nms.length ≤ 9) (d1 : d < 5)
    (q : ∀ (ys : List Str) (p' : Val), ys.Sublist nms → Pen (m0 + nms.length) p' → Q (.ok (ys.map .str) (tg p' many nms d m k b6))) :
    wC (M.tgN 7) F2__law_tangle E1__law_tangle [7] (nms.map .str) [] (tg p many nms d m k b6) Q := by
  have hpos := hp.pos
  obtain ⟨I, hI⟩ : ∃ I : List Val → List Val → M.Env → Prop, I = fun vs acc r => ∃ (j : Nat) (ys : List Str) (p4 : Val), vs = (nms.map Val.str).drop j ∧ j ≤ nms.length ∧ acc = ys.map .str ∧ ys.Sublist (nms.take j) ∧ Pen (m0 + j) p4 ∧ r = tg p4 many nms d m k b6 := ⟨_, rfl⟩
  refine wC_inv I ?_ ?_ _ _ _ (by rw [hI]; exact ⟨0, [], p, rfl, by omega, rfl, by simp, hp.mono (by omega), rfl⟩)
  · intro v vs acc r h
    rw [hI] at h
    obtain ⟨j, ys, p4, e, hj, rfl, hys, hp4, rfl⟩ := h
    obtain ⟨hj2, rfl, rfl⟩ := drop_step e
    rw [List.length_map] at hj2
    rw [List.getElem_map]
    have hyl := hys.length_le
    rw [List.length_take] at hyl
    have hacc : (ys.map Val.str).length < 100000 := by rw [List.length_map]; omega
    have keep : ys.Sublist (nms.take (j + 1)) := hys.trans (List.take_sublist_take_left (by omega))
    simp? only [F2__law_tangle, E1__law_tangle]
    by_cases hd : 1 < d
    · obtain ⟨qq, e2, q0, q1⟩ := pixT d ⟨hd, d1⟩
      simp? only [hd, decide_true, e2]
      refine draw_wp hp4 (by omega) q0 (by omega) fun w p5 w0 w1 hp5 => ?_
      simp? only [peqI]
      by_cases hw : w = 0
      · simp? only [hw, decide_true]
        rw [hI]
        refine ⟨hacc, j + 1, ys ++ [nms[j]], p5, rfl, hj2, by simp, ?_, hp5.mono (by omega), rfl⟩
        rw [List.take_succ_eq_append_getElem hj2]
        exact hys.append (.refl _)
      · simp? only [hw, decide_false]
        rw [hI]
        exact ⟨j + 1, ys, p5, rfl, hj2, rfl, keep, hp5.mono (by omega), rfl⟩
    · simp? only [hd, decide_false]
      rw [hI]
      exact ⟨j + 1, ys, p4, rfl, hj2, rfl, keep, hp4.mono (by omega), rfl⟩
  · intro acc r h
    rw [hI] at h
    obtain ⟨j, ys, p4, e, hj, rfl, hys, hp4, rfl⟩ := h
    have hj2 := drop_end e (by rw [List.length_map]; exact hj)
    rw [List.length_map] at hj2
    subst hj2
    rw [List.take_length] at hys
    exact q ys p4 hys hp4
theorem tangle_turn {m0 many d : Int} {p : Val} {nms : List Str} {m : Nd} {k : Nat} {b6 : M.Slot} {Q : SR → Prop} (hp : Pen m0 p) (hm : m0 < 980000) (hl : nms.length ≤ 9) (hmn : nms.length = many.toNat) (hk : k < nms.length) (d1 : d < 5)
    (hnd : nms.Nodup) (hfr : nms[k] ∉ keys m) (hml : m.length ≤ 9)
    (q : ∀ (us : List Str) (p' : Val) (b6 : M.Slot), us.Nodup → (∀ y ∈ us, y ∈ nms) → Pen (m0 + 40) p' → Q (.nx (tg p' many nms d (m ++ [(nms[k], us)]) (some (false, .int (k : Nat))) b6))) :
    wS L3__law_tangle (tg p many nms d m (some (false, .int (k : Nat))) b6) Q := by
  have hpos := hp.pos
  have m0' : 0 ≤ ((k : Int) + 1) % many := Int.emod_nonneg _ (by omega)
  have m1' : ((k : Int) + 1) % many < many := Int.emod_lt_of_pos _ (by omega)
  have x1 := pix_strs (ss := nms) m0' (by omega)
  have x2 := pix_strs (ss := nms) (i := (k : Int)) (by omega) (by simpa using hk)
  simp only [Int.toNat_natCast] at x2
  have hpx : ∀ us : List Str, putIx (enc m) (.str nms[k]) (.tup (us.map .str)) = some (enc (m ++ [(nms[k], us)])) := fun us => by
    have := putIx_new (v := .tup (us.map .str)) (ps := en m) (by rw [en_keys]; exact hfr) (by simp [en]; omega)
    rw [show en m ++ [(nms[k], .tup (us.map .str))] = en (m ++ [(nms[k], us)]) by simp [en]] at this
    exact this
  have one : ∀ (i : Nat) (hi : i < nms.length), ([nms[i]] : List Str).Nodup ∧ ([nms[i]] : List Str).length ≤ 9 ∧ ∀ y ∈ [nms[i]], y ∈ nms := fun i hi => ⟨by simp, by simp, fun y hy => by rw [List.mem_singleton.mp hy]; exact List.getElem_mem hi⟩
  unfold L3__law_tangle
  rw [wS_seq]
  simp? []
  refine tangle_some hp (by omega) hl d1 fun ys p4 hys hp4 => ?_
  have hyl := hys.length_le
  simp? []
  rw [kseq, wS_seq]
  generalize hK : kseq _ Q = K2
  have tail : ∀ (zs : List Str) (b : Bool), zs.Nodup ∧ zs.length ≤ 9 ∧ (∀ y ∈ zs, y ∈ nms) → K2 (.nx (tg p4 many nms d m (some (false, .int (k : Nat))) (some (b, .lst (zs.map .str))))) := by
    intro zs b hz
    rw [← hK, kseq, wS_seq]
    generalize hK3 : kseq _ Q = K3
    have fin : ∀ (zs : List Str) (p5 : Val) (b : Bool), zs.Nodup ∧ zs.length ≤ 9 ∧ (∀ y ∈ zs, y ∈ nms) → Pen (m0 + 12) p5 → K3 (.nx (tg p5 many nms d m (some (false, .int (k : Nat))) (some (b, .lst (zs.map .str))))) := by
      intro zs p5 b hz hp5
      have hzl := hz.2.1
      rw [← hK3, kseq]
      cases b
      all_goals
        simp? only []
        refine shuffled_wp hp5 (by simp; omega) (by simp; omega) fun ys p6 hperm hp6 => ?_
        obtain ⟨us, rfl, hus⟩ := perm_strs hperm
        simp? only [x2, hpx]
        exact q us p6 _ (hus.nodup_iff.mpr hz.1) (fun y hy => hz.2.2 y (hus.subset hy)) (hp6.mono (by simp; omega))
    simp? only []
    refine draw_wp hp4 (by omega) (by decide) (by decide) fun w p5 w0 w1 hp5 => ?_
    by_cases hw : w = 0
    · simp? only [peqI, hw, decide_true, x2]
      exact fin [_] p5 false (one _ hk) (hp5.mono (by omega))
    · simp? only [peqI, hw, decide_false]
      exact fin zs p5 b hz (hp5.mono (by omega))
  by_cases hd1 : d = 1
  · subst hd1
    simp? only [peqI, decide_true, Padd, pmodI (show 0 < many by omega), x1]
    exact tail [_] false (one _ (by omega))
  · simp? only [peqI, hd1, decide_false]
    exact tail ys true ⟨hnd.sublist hys, by omega, fun y hy => hys.subset hy⟩
theorem tangle_wp {m0 many : Int} {p : Val} {K : GR → Prop} (hp : Pen m0 p) (hm : m0 < 900000) (h0 : 0 ≤ many) (h1 : many ≤ 9)
    (q : ∀ (m : Nd) (p' : Val), Tg m → Pen (m0 + 1000) p' → K (.ok true (enc m) (some (true, p')))) : wG g__law_tangle [(true, p), (false, .int many)] K := by
  have hpos := hp.pos
  unfold g__law_tangle
  rw [wG_run (by rfl) (by simp [ownIx])]
  unfold b__law_tangle
  simp? only []
  refine names_wp hp (by omega) (by omega) (by omega) fun nms p1 hl hnd hnm hp1 => ?_
  simp? only []
  refine draw_wp hp1 (by omega) (by decide) (by decide) fun d p2 d0 d1 hp2 => ?_
  simp? only [rng_nums many ⟨by omega, by omega⟩]
  obtain ⟨I, hI⟩ : ∃ I : List Val → M.Env → Prop, I = fun vs r => ∃ (k : Nat) (m : Nd) (p3 : Val) (b5 b6 : M.Slot), vs = (nums many.toNat).drop k ∧ k ≤ many.toNat ∧ keys m = nms.take k ∧ (∀ x ∈ m, x.2.Nodup ∧ ∀ y ∈ x.2, y ∈ nms) ∧ Pen (m0 + 4 + k * 40) p3 ∧
    r = tg p3 many nms d m b5 b6 := ⟨_, rfl⟩
  refine wL_inv I ?_ ?_ _ _ (by rw [hI]; exact ⟨0, [], p2, none, none, rfl, by omega, by simp [keys], by simp, hp2.mono (by omega), rfl⟩)
  · intro v vs r h
    rw [hI] at h
    obtain ⟨k, m, p3, b5, b6, e, hk, hkeys, hvals, hp3, rfl⟩ := h
    obtain ⟨hk2, rfl, rfl⟩ := drop_step e
    rw [nums_get]
    rw [nums_len] at hk2
    have hkn : k < nms.length := by omega
    have hml : m.length = k := by
      have := congrArg List.length hkeys
      simp [keys] at this
      omega
    have hfresh : nms[k] ∉ keys m := by
      rw [hkeys]
      intro z
      obtain ⟨i, hi, ei⟩ := List.mem_take_iff_getElem.mp z
      have := (List.getElem_inj hnd).mp ei
      omega
    simp only [M.kT, M.tgN, List.set_cons_succ, List.set_cons_zero]
    refine tangle_turn hp3 (by omega) (by omega) hl hkn d1 hnd hfresh (by omega) fun us p6 b6 hu1 hu2 hp6 => ?_
    rw [kTurn, hI]
    refine ⟨k + 1, _, p6, _, _, rfl, hk2, ?_, ?_, hp6.mono (by simp; omega), rfl⟩
    · simp only [keys, List.map_append] at hkeys ⊢
      rw [hkeys, List.take_succ_eq_append_getElem hkn]; rfl
    · intro x hx
      rcases List.mem_append.mp hx with z | z
      · exact hvals x z
      · rw [List.mem_singleton.mp z]
        exact ⟨hu1, hu2⟩
  · intro r h
    rw [hI] at h
    obtain ⟨k, m, p3, b5, b6, e, hk, hkeys, hvals, hp3, rfl⟩ := h
    have hk2 := drop_end e (by rw [nums_len]; exact hk)
    rw [nums_len] at hk2
    subst hk2
    rw [← hl, List.take_length] at hkeys
    simp? only []
    refine q m p3 ⟨by rw [hkeys]; exact hnd, by rw [hkeys]; exact hnm, by rw [hkeys]; exact hvals, ?_⟩ (hp3.mono (by omega))
    have := congrArg List.length hkeys
    simp only [keys, List.length_map] at this
    omega
end K10
namespace K10
open PySem L2 M BB PK BS
/-! ### the law's own looks -/
theorem pneY_nil (m : Nd) : PneY [enc m, .dct false []] = some (false, .bl (!decide (m = []))) := by
  have h1 : PneX [enc m, .dct false []] = none := rfl
  cases m with
  | nil => rfl
  | cons p m =>
    have h2 : eqDL [] (sd (en (p :: m))) = some false := rfl
    simp only [PneY, orP, h1, PneDD, h2, Option.map_some]
    simp
/-- how what is left shrinks -/
def leftN (m : Nd) : Nat → Nd
  | 0 => m
  | n + 1 => stay (leftN m n)
theorem leftN_un {m : Nd} (hw : Wf m) : ∀ n, UnI m (leftN m n) n
  | 0 => ⟨.refl _, fun _ => 0, by simp, fun p hp hk => absurd (keys_mem hp) hk⟩
  | n + 1 => (leftN_un hw n).step hw
theorem left_ac {m : Nd} (hw : Wf m) (ha : Acyc m) (n : Nat) : (leftN m n).length ≤ m.length - n := by
  induction n with
  | zero => simp [leftN]
  | succ n ih =>
    have hU := leftN_un hw n
    by_cases he : leftN m n = []
    · simp [leftN, he, stay]
    · have : outs (leftN m n) ≠ [] := by
        obtain ⟨rk, hr⟩ := ha
        intro ho
        have key : ∀ N, ∀ p ∈ leftN m n, rk p.1 = N → False := by
          intro N
          induction N using Nat.strongRecOn with
          | ind N ihN =>
            intro p hp e
            have hx : ∃ y ∈ p.2, y ∈ keys (leftN m n) := by
              refine Classical.byContradiction fun hc => ?_
              have : p ∈ outs (leftN m n) := List.mem_filter.mpr ⟨hp, by simpa using hc⟩
              rw [ho] at this; cases this
            obtain ⟨y, hy, hyk⟩ := hx
            have h1 := hr p (hU.sub.subset hp) y hy
            exact ihN (rk y) (by omega) _ (getN_key hyk) rfl
        cases hl : leftN m n with
        | nil => exact he hl
        | cons p l => exact key _ p (by rw [hl]; simp) rfl
      have := stay_lt this
      rw [leftN]
      omega
theorem left_end {m : Nd} (hw : Wf m) : leftN m m.length = [] ↔ Acyc m := by
  constructor
  · intro h
    obtain ⟨rk, _, r2⟩ := (leftN_un hw m.length).rk
    rw [h] at r2
    exact ⟨rk, fun p hp y hy => (r2 p hp (by simp [keys]) y hy).2⟩
  · intro h
    have := left_ac hw h m.length
    exact List.eq_nil_of_length_eq_zero (by omega)
theorem has_ring_wp {m : Nd} {K : GR → Prop} (hw : Wf m) (q : ∀ b : Bool, (b = false ↔ Acyc m) → K (.ok false (.bl b) none)) : wG g__law_has_ring [(false, enc m)] K := by
  have hlen := hw.len
  unfold g__law_has_ring
  rw [wG_run (by rfl) (by simp [ownIx])]
  unfold b__law_has_ring
  simp? only [Pdict, plenX_d, en_len, rng_nat m.length (by omega)]
  obtain ⟨I, hI⟩ : ∃ I : List Val → M.Env → Prop, I = fun vs r => ∃ (k : Nat) (b2 b3 : M.Slot), vs = (nums m.length).drop k ∧ k ≤ m.length ∧ r = [some (false, enc m), some (false, enc (leftN m k)), b2, b3, none, none] := ⟨_, rfl⟩
  refine wL_inv I ?_ ?_ _ _ (by rw [hI]; exact ⟨0, none, none, rfl, by omega, rfl⟩)
  · intro v vs r hh
    rw [hI] at hh
    obtain ⟨k, b2, b3, e, hk, rfl⟩ := hh
    obtain ⟨hk2, rfl, rfl⟩ := drop_step e
    rw [nums_get]
    rw [nums_len] at hk2
    have hU := leftN_un hw k
    generalize hL : leftN m k = left at hU
    have hll := hU.sub.length_le
    have ndl : (keys left).Nodup := hw.nd.sublist (hU.sub.map _)
    have cpk : ∀ s ∈ keys left, CpOk s := fun s hs => (hw.nm s ((hU.sub.map _).subset hs)).cp
    have hkeys : List.map (fun p : Val × Val => p.1) (sd (en left)) = (keys left).map .str := by simp [sd, en, keys]
    have hkl : (keys left).length ≤ 60 := by simp [keys]; omega
    simp? only [M.kT_e1, L7__law_has_ring, hkeys]
    refine wC_map Val.str (fun s => .str s) (fun s => decide (((getN left s).filter fun y => decide (y ∈ keys left)) = [])) (keys left) (fun s hs => ⟨_, rfl, ?_, rfl, fun _ => ?_⟩) (by omega) ?_
    · have hg : (getN left s).length ≤ 60 := hw.ll _ (hU.sub.subset (getN_key hs))
      simp? only [F4__law_has_ring, pix_en left s hs]
      refine wC_map Val.str (fun y => .str y) (fun y => decide (y ∈ keys left)) (getN left s) (fun y hy => ⟨_, rfl, ?_, rfl, fun _ => ?_⟩) (by omega) ?_
      · simp? only [F2__law_has_ring, pin_en]
      · simp? only [E1__law_has_ring]
        exact ⟨_, _, rfl, rfl⟩
      have e0 : ((getN left s).filter fun y => decide (y ∈ keys left)).map (fun y => Val.str y) = ((getN left s).filter fun y => decide (y ∈ keys left)).map .str := rfl
      simp? only [e0, peq_nilX _ (fun y hy => cpk y (of_decide_eq_true (List.mem_filter.mp hy).2))]
    · simp? only [E3__law_has_ring]
      exact ⟨_, _, rfl, rfl⟩
    have hready : ((keys left).filter fun s => decide (((getN left s).filter fun y => decide (y ∈ keys left)) = [])).map (fun s => Val.str s) = (keys (outs left)).map .str := by
      congr 1
      unfold keys outs
      rw [List.filter_map]
      congr 1
      refine List.filter_congr fun p hp => ?_
      have hg := getN_mem ndl hp
      simp only [Function.comp]
      rw [hg, Bool.eq_iff_iff]
      simp only [decide_eq_true_eq, List.filter_eq_nil_iff, Bool.not_eq_true', List.any_eq_false]
      rfl
    rw [hready]
    have co : ∀ s ∈ keys (outs left), CpOk s := fun s hs => cpk s (((List.filter_sublist (l := left)).map _).subset hs)
    simp? only [hkeys]
    refine wC_map Val.str (fun s => .tup [.str s, .tup ((getN left s).map .str)]) (fun s => !decide (s ∈ keys (outs left))) (keys left) (fun s hs => ⟨_, rfl, ?_, rfl, fun _ => ?_⟩) (by omega) ?_
    · simp? only [F6__law_has_ring, pnotin_lst s _ (cpk s hs) co]
    · simp? only [E5__law_has_ring, pix_en left s hs]
      exact ⟨_, _, rfl, rfl⟩
    have hkst : (keys left).filter (fun s => !decide (s ∈ keys (outs left))) = keys (stay left) := by
      rw [← stay_eq hw.nd hU.sub]
      unfold keys
      rw [List.filter_map]
      rfl
    have hd := pdict_of (fun s => s) (fun s => .tup ((getN left s).map .str)) (keys (stay left)) (by rw [List.map_id']; exact ndl.sublist ((List.filter_sublist (l := left)).map _))
    have he : sd ((keys (stay left)).map fun s => (s, Val.tup ((getN left s).map .str))) = sd (en (stay left)) := by
      congr 1
      unfold en keys
      rw [List.map_map]
      refine List.map_congr_left fun p hp => ?_
      have := getN_mem ndl ((List.mem_filter.mp hp).1)
      simp only [Function.comp, this]
    rw [he] at hd
    rw [hkst]
    simp? only [hd]
    rw [hI]
    exact ⟨k + 1, _, _, rfl, hk2, by rw [leftN, hL]⟩
  · intro r hh
    rw [hI] at hh
    obtain ⟨k, b2, b3, e, hk, rfl⟩ := hh
    have hk2 := drop_end e (by rw [nums_len]; exact hk)
    rw [nums_len] at hk2
    subst hk2
    simp? only [pneY_nil]
    refine q _ ?_
    rw [← left_end hw]
    simp
end K10
namespace K10
open PySem L2 M BB PK BS
/-! ### rings are rings -/
theorem ring_len {m : Nd} {ss : List Str} (hw : Wf m) (h : Ring m ss) : ss.length ≤ 60 := by
  have h1 := nodup_len h.nd h.ks
  have h2 := hw.len
  simp only [keys, List.length_map] at h1
  omega
theorem ring_nm {m : Nd} {ss : List Str} (hw : Wf m) (h : Ring m ss) : ∀ s ∈ ss, IsName s := fun s hs => hw.nm s (h.ks s hs)
theorem law_is_ring_wp {m : Nd} {ss : List Str} {K : GR → Prop} (hw : Wf m) (h : Ring m ss) (q : K (.ok false (.bl true) none)) : wG g__law_is_ring [(false, enc m), (false, .tup (ss.map .str))] K := by
  have hl := ring_len hw h
  have hpos : 0 < ss.length := List.length_pos_iff.mpr h.ne
  have hgd : ∀ i (hi : i < ss.length), ss[i] = ss.getD i default := fun i hi => by simp [List.getD_eq_getElem?_getD, hi]
  unfold g__law_is_ring
  rw [wG_run (by rfl) (by simp [ownIx])]
  unfold b__law_is_ring
  simp? only [isi_tt, peq_tnil ss (fun s hs => (ring_nm hw h s hs).cp), h.ne, decide_false, List.length_map, rng_nat ss.length (by omega)]
  obtain ⟨I, hI⟩ : ∃ I : List Val → M.Env → Prop, I = fun vs r => ∃ (k : Nat) (b2 : M.Slot), vs = (nums ss.length).drop k ∧ k ≤ ss.length ∧ r = [some (false, enc m), some (false, .tup (ss.map .str)), b2] := ⟨_, rfl⟩
  refine wL_inv I ?_ ?_ _ _ (by rw [hI]; exact ⟨0, none, rfl, by omega, rfl⟩)
  · intro v vs r hh
    rw [hI] at hh
    obtain ⟨k, b2, e, hk, rfl⟩ := hh
    obtain ⟨hk2, rfl, rfl⟩ := drop_step e
    rw [nums_get]
    rw [nums_len] at hk2
    have hx := pix_tstrs (ss := ss) (i := (k : Int)) (by omega) (by simpa using hk2)
    simp only [Int.toNat_natCast] at hx
    have hin : ss[k] ∈ keys m := h.ks _ (List.getElem_mem hk2)
    have hno : ¬ ss[k] ∈ ss.take k := fun z => by
      obtain ⟨j, hj, e2⟩ := List.mem_take_iff_getElem.mp z
      have := (List.getElem_inj h.nd).mp e2
      omega
    have htk : (ss.map Val.str).take k = (ss.take k).map .str := by rw [List.map_take]
    simp only [M.kT, M.tgN, List.set_cons_succ, List.set_cons_zero, L1__law_is_ring]
    simp? only [hx, isi_ss, pnotin_en, hin, decide_true, Psl, cut_to, htk]
    simp? only [pin_tup, hno, decide_false]
    rw [hI]
    exact ⟨k + 1, _, rfl, hk2, rfl⟩
  · intro r hh
    rw [hI] at hh
    obtain ⟨k, b2, e, hk, rfl⟩ := hh
    clear hI I
    simp? only [List.length_map, rng_nat ss.length (by omega)]
    obtain ⟨I, hI⟩ : ∃ I : List Val → M.Env → Prop, I = fun vs r => ∃ (k : Nat) (b2 : M.Slot), vs = (nums ss.length).drop k ∧ k ≤ ss.length ∧ r = [some (false, enc m), some (false, .tup (ss.map .str)), b2] := ⟨_, rfl⟩
    refine wL_inv I ?_ ?_ _ _ (by rw [hI]; exact ⟨0, b2, rfl, by omega, rfl⟩)
    · intro v vs r hh
      rw [hI] at hh
      obtain ⟨k, b2, e, hk, rfl⟩ := hh
      obtain ⟨hk2, rfl, rfl⟩ := drop_step e
      rw [nums_get]
      rw [nums_len] at hk2
      have hx := pix_tstrs (ss := ss) (i := (k : Int)) (by omega) (by simpa using hk2)
      simp only [Int.toNat_natCast, hgd] at hx
      obtain ⟨j, hj, hlt, hm2⟩ : ∃ j : Nat, j = (k + 1) % ss.length ∧ j < ss.length ∧ ((k : Int) + 1) % (ss.length : Int) = (j : Int) := ⟨_, rfl, Nat.mod_lt _ (by omega), by rw [Int.natCast_emod]; rfl⟩
      have hx2 := pix_tstrs (ss := ss) (i := (j : Int)) (by omega) (by simpa using hlt)
      simp only [Int.toNat_natCast, hgd] at hx2
      have hkey : ss.getD k default ∈ keys m := h.ks _ (by rw [← hgd k hk2]; exact List.getElem_mem hk2)
      have h4 := h.nx k hk2
      rw [← hj] at h4
      simp only [M.kT, M.tgN, List.set_cons_succ, List.set_cons_zero, L2__law_is_ring]
      simp? only [Padd, List.length_map, pmodI (show (0 : Int) < (ss.length : Int) by omega), hm2, hx, hx2, pix_en m _ hkey, pnotin_tup]
      simp? only [h4, decide_true]
      rw [hI]
      exact ⟨k + 1, _, rfl, hk2, rfl⟩
    · intro r hh
      rw [hI] at hh
      obtain ⟨k, b2, e, hk, rfl⟩ := hh
      simp? only []
      exact q
def rot (ss : List Str) : List Str := ss.drop 1 ++ [ss.getD 0 default]
theorem rot_get {ss : List Str} {k : Nat} (hk : k < ss.length) : (rot ss)[k]? = some (ss.getD ((k + 1) % ss.length) default) := by
  unfold rot
  rcases Nat.lt_or_ge (k + 1) ss.length with h | h
  · rw [List.getElem?_append_left (by simp; omega), Nat.mod_eq_of_lt h]
    simp [List.getD_eq_getElem?_getD, Nat.add_comm 1 k, h]
  · have e : k + 1 = ss.length := by omega
    rw [List.getElem?_append_right (by simp; omega), e, Nat.mod_self]
    have : k - (ss.drop 1).length = 0 := by simp; omega
    rw [this]; rfl
theorem zip_of {ss : List Str} {f : Str → Str → Bool} (h : ∀ k, k < ss.length → f (ss.getD k default) (ss.getD ((k + 1) % ss.length) default) = true) : ((ss.zip (rot ss)).all fun p => f p.1 p.2) = true := by
  rw [List.all_eq_true]
  have hrl : ss ≠ [] → (rot ss).length = ss.length := fun h => by
    have := List.length_pos_iff.mpr h
    simp [rot]; omega
  rintro ⟨a, b⟩ hp
  obtain ⟨k, hk, e⟩ := List.mem_iff_getElem.mp hp
  rw [List.length_zip] at hk
  have hk1 : k < ss.length := by omega
  have hk2 : k < (rot ss).length := by omega
  simp only [List.getElem_zip, Prod.mk.injEq] at e
  have e2 := rot_get hk1
  rw [List.getElem?_eq_getElem hk2] at e2
  have := h k hk1
  obtain ⟨e3, e4⟩ := e
  simp only
  rw [← e3, ← e4, Option.some.inj e2]
  simpa [List.getD_eq_getElem?_getD, hk1] using this
theorem is_ring_wp {m : Nd} {ss : List Str} {K : GR → Prop} (hw : Wf m) (h : Ring m ss) (q : K (.ok false (.bl true) none)) : wG g_is_ring [(false, enc m), (false, .tup (ss.map .str))] K := by
  have hl := ring_len hw h
  have hpos : 0 < ss.length := List.length_pos_iff.mpr h.ne
  have hne : ¬ ((ss.length : Int) = 0) := by omega
  have hl1000 : ss.length ≤ 1000 := by omega
  unfold g_is_ring
  rw [wG_run (by rfl) (by simp [ownIx])]
  unfold b_is_ring
  simp? only [isi_tt, peqI, List.length_map, hne, decide_false]
  refine wC_map Val.str (fun _ => .bl true) (fun _ => true) ss (fun s hs => ⟨_, rfl, rfl, rfl, fun _ => ?_⟩) (by omega) ?_
  · have hin : s ∈ keys m := h.ks s hs
    simp? only [E1_is_ring, isi_ss, pin_en, hin, decide_true]
    exact ⟨_, _, rfl, rfl⟩
  rw [filter_yes]
  have hp1 := pall_map (fun _ : Str => true) ss
  have hp2 : (ss.all fun _ => true) = true := by simp
  rw [hp2] at hp1
  have hr : (ss.map Val.str).drop 1 ++ [Val.str (ss.getD 0 default)] = (rot ss).map .str := by simp [rot]
  have h00 : Pix [.tup (ss.map .str), .int 0] = some (false, .str (ss.getD 0 default)) := by
    rw [pix_tstrs (by decide) (by simpa using hpos)]
    simp [List.getD_eq_getElem?_getD, hpos]
  have hrl : (rot ss).length = ss.length := by simp [rot]; omega
  have hrl2 : (rot ss).length ≤ 100000 := by omega
  have cut1 : cutA (ss.map Val.str) (some 1) none = (ss.map Val.str).drop 1 := cut_from _ 1
  simp? only [hp1, asStrs_map, List.length_map, hl1000, set_lt, h.nd, decide_true, Psl, cut1, h00, hr, hrl2, zipOf, zipV_map]
  refine wC_map (fun p : Str × Str => .tup [.str p.1, .str p.2]) (fun p => .bl (decide (p.2 ∈ getN m p.1))) (fun _ => true) (ss.zip (rot ss)) (fun p hp => ⟨_, rfl, rfl, rfl, fun _ => ?_⟩) (by simp; omega) ?_
  · simp? only [E2_is_ring, pix_en m p.1 (h.ks _ (List.of_mem_zip hp).1), pin_tup]
    exact ⟨_, _, rfl, rfl⟩
  rw [filter_yes]
  simp? only [pall_map]
  have := zip_of (ss := ss) (f := fun a b => decide (b ∈ getN m a)) fun k hk => decide_eq_true (h.nx k hk)
  rw [this]
  exact q
/-! ### what a sheet says -/
theorem refused_wp {rows : List Str} {m : Nd} {K : GR → Prop} (hr : Rows rows) (hm : Raw rows m) (hk : ∀ s ∈ rows, s ∈ keys m)
    (q1 : Acyc m → K (.ok false .non none)) (q2 : ∀ ss, Ring m ss → K (.ok false (.tup (ss.map .str)) none)) : wG g__law_refused [(false, .lst (rows.map .str)), (false, enc m)] K := by
  unfold g__law_refused
  rw [wG_run (by rfl) (by simp [ownIx])]
  unfold b__law_refused
  simp? only [Y1__law_refused]
  by_cases ha : Acyc m
  · refine of_wp (.inr rfl) hr hm ha ?_
    simp? only [Pis]
    exact q1 ha
  · refine of_ring_wp (.inr rfl) hr hm ha fun ss hss => ?_
    have hlk : ([("InvalidRow", true), ("InvalidNeeds", true), ("HasRing", true)] : List (Str × Bool)).lookup ("HasRing" : Str) = some true := rfl
    have t1 : PisE TB3__law_refused [ringX ss, .cls "HasRing"] = some (false, .bl true) := rfl
    have t2 : PisE TB3__law_refused [ringX ss, .ty "ValueError"] = some (false, .bl true) := rfl
    have t3 : Pxf ["HasRing"] "ring" [ringX ss] = some (false, .tup (ss.map .str)) := rfl
    simp? only [hlk, U2__law_refused, Pis, t1, t2, t3]
    exact q2 ss (mkN_ring hr hm hk hss)
end K10
namespace K10
open PySem L2 M BB PK BS
/-! ### the law -/
theorem rows_of {m : Nd} {us : List Str} (hg : Tg m) (hus : us.Perm (keys m)) : Rows us ∧ Raw us m ∧ ∀ s ∈ us, s ∈ keys m := by
  have hl := hus.length_eq
  have hm := hg.len
  simp only [keys, List.length_map] at hl
  exact ⟨⟨hus.nodup_iff.mpr hg.nd, fun s hs => hg.nm s (hus.subset hs), by omega⟩, ⟨hg.nd, fun s hs => hus.symm.subset hs, fun p hp => ⟨(hg.vl p hp).1, fun y hy => hus.symm.subset ((hg.vl p hp).2 y hy)⟩⟩, fun s hs => hus.subset hs⟩
theorem pixM (a d : Int) (h0 : 0 ≤ d) (h1 : d < 6) : ∃ v : Int, Pix [.lst [.int 0, .int 1, .int 2, .int 3, .int 9, .int a], .int d] = some (false, .int v) ∧ (v = a ∨ (0 ≤ v ∧ v ≤ 9)) := by
  have : d = 0 ∨ d = 1 ∨ d = 2 ∨ d = 3 ∨ d = 4 ∨ d = 5 := by omega
  rcases this with z | z | z | z | z | z <;> subst z
  · exact ⟨0, rfl, .inr (by decide)⟩
  · exact ⟨1, rfl, .inr (by decide)⟩
  · exact ⟨2, rfl, .inr (by decide)⟩
  · exact ⟨3, rfl, .inr (by decide)⟩
  · exact ⟨9, rfl, .inr (by decide)⟩
  · exact ⟨a, rfl, .inl rfl⟩
abbrev lw (s0 : Val) (p : Val) (b2 b3 b4 b5 b6 : M.Slot) : M.Env := [some (false, s0), some (true, p), b2, b3, b4, b5, b6, none]
/-- what a ring told, or none, is -/
def Told (m : Nd) (v : Val) : Prop := (v = .non ∧ Acyc m) ∨ ∃ ss : List Str, v = .tup (ss.map .str) ∧ Ring m ss
theorem told_non {m : Nd} {v : Val} {b : Bool} (h : Told m v) (hb : b = false ↔ Acyc m) : PisNot [v, .non] = some (false, .bl b) := by
  rcases h with ⟨rfl, ha⟩ | ⟨ss, rfl, hr⟩
  · rw [hb.mpr ha]; rfl
  · cases b with
    | true => rfl
    | false => exact absurd (hb.mp rfl) hr.no
theorem told_repr {m : Nd} {v : Val} (hw : Wf m) (h : Told m v) : ∃ x : Str, PreprX [v] = some (false, .str x) := by
  rcases h with ⟨rfl, ha⟩ | ⟨ss, rfl, hr⟩
  · exact repr_non
  · exact repr_tup (ring_nm hw hr) (ring_len hw hr)
theorem keys_en (m : Nd) : List.map (fun p : Val × Val => p.1) (sd (en m)) = (keys m).map .str := by simp [sd, en, keys]
theorem law_turn {m0 : Int} {p s0 : Val} {b2 b3 b4 b5 b6 : M.Slot} {Q : SR → Prop} (hp : Pen m0 p) (hm : m0 < 500000)
    (q : ∀ (p' : Val) (b3 b4 b5 b6 : M.Slot), Pen (m0 + 3000) p' → Q (.nx (lw s0 p' b2 b3 b4 b5 b6))) : wS L2_law (lw s0 p b2 b3 b4 b5 b6) Q := by
  have hpos := hp.pos
  unfold L2_law
  rw [wS_seq]
  simp? only []
  refine draw_wp (n := 10) hp (by omega) (by decide) (by decide) fun d p1 d0 d1 hp1 => ?_
  simp? only []
  refine draw_wp (n := 6) hp1 (by omega) (by decide) (by decide) fun c p2 c0 c1 hp2 => ?_
  obtain ⟨many, e1, hmany⟩ := pixM d c c0 c1
  simp? only [e1]
  refine tangle_wp hp2 (by omega) (by omega) (by omega) fun m p3 hg hp3 => ?_
  have hw := hg.wf
  obtain ⟨x, hx⟩ := repr_en hw
  obtain ⟨v, hv, ht⟩ := ring_in_val hw
  have ht : Told m v := ht
  obtain ⟨y, hy⟩ := told_repr hw ht
  have hri : ∀ K : GR → Prop, K (.ok false v none) → wG g_ring_in [(false, enc m)] K := fun K k => by
    unfold wG; rw [hv]; exact k
  simp? only [hx]
  refine hri _ ?_
  simp? only []
  refine hri _ ?_
  obtain ⟨b, hb⟩ : ∃ b : Bool, b = false ↔ Acyc m := by
    by_cases h : Acyc m
    · exact ⟨false, by simp [h]⟩
    · exact ⟨true, by simp [h]⟩
  have hhr : ∀ K : GR → Prop, K (.ok false (.bl b) none) → wG g__law_has_ring [(false, enc m)] K := fun K k => has_ring_wp hw fun b' hb' => by
    have : b' = b := by
      have := hb'.trans hb.symm
      revert this
      cases b <;> cases b' <;> simp
    rw [this]; exact k
  simp? only [told_non ht hb]
  refine hhr _ ?_
  simp? only [pneB, beq_self_eq_true, Bool.not_true, hy, pneT, decide_true]
  generalize hK : kseq _ Q = K2
  have tail : ∀ b5 b6 : M.Slot, K2 (.nx (lw s0 p3 b2 (some (false, enc m)) (some (false, .str x)) b5 b6)) := by
    intro b5 b6
    rw [← hK, kseq]
    simp? only [keys_en]
    have hkl : (keys m).length ≤ 9 := by have := hg.len; simpa [keys] using this
    refine wC_map Val.str (fun s => .str s) (fun _ => true) (keys m) (fun s hs => ⟨_, rfl, rfl, rfl, fun _ => ?_⟩) (by omega) ?_
    · simp? only [E1_law]
      exact ⟨_, _, rfl, rfl⟩
    rw [filter_yes]
    have e0 : (keys m).map (fun s => Val.str s) = (keys m).map .str := rfl
    simp? only [e0]
    refine shuffled_wp hp3 (by simp; omega) (by simp; omega) fun ys p4 hperm hp4 => ?_
    obtain ⟨us, rfl, hus⟩ := perm_strs hperm
    obtain ⟨hr1, hr2, hr3⟩ := rows_of hg hus
    simp? only []
    have fin : ∀ v2, Told m v2 → wS (seq (ifS (orB (tst (bin PneX (oV (bin PisNot (oS 5) (oV (cst .non)))) (oV (callG 1 g__law_has_ring (osCons (oV (var 3)) osNil))))) (andB (tst (bin PisNot (oS 5) (oV (cst .non)))) (notB (tst (callG 2 g__law_is_ring (osCons (oV (var 3)) (osCons (oV (var 5)) osNil))))))) (ret (cst (.bl false))) skip)
        (ifS (tst (bin PneX (oV (prim PreprX (osCons (oS 3) osNil))) (oS 4))) (ret (cst (.bl false))) skip)) (lw s0 p4 b2 (some (false, enc m)) (some (false, .str x)) (some (false, v2)) b6) Q := by
      intro v2 ht2
      have fin2 : ∀ b5 : M.Slot, wS (ifS (tst (bin PneX (oV (prim PreprX (osCons (oS 3) osNil))) (oS 4))) (ret (cst (.bl false))) skip) (lw s0 p4 b2 (some (false, enc m)) (some (false, .str x)) b5 b6) Q := by
        intro b5
        simp? only [hx, pneT, decide_true]
        exact q p4 _ _ _ _ (hp4.mono (by simp; omega))
      rw [wS_seq]
      generalize hK3 : kseq _ Q = K3
      simp? only [told_non ht2 hb]
      refine hhr _ ?_
      simp? only [pneB, beq_self_eq_true, Bool.not_true, told_non ht2 hb]
      rcases ht2 with ⟨rfl, ha⟩ | ⟨ss, rfl, hr⟩
      · have hbf := hb.mpr ha
        subst hbf
        simp? only []
        rw [← hK3, kseq]
        exact fin2 _
      · have hbt : b = true := by
          cases b with
          | true => rfl
          | false => exact absurd (hb.mp rfl) hr.no
        subst hbt
        simp? only []
        refine law_is_ring_wp hw hr ?_
        simp? only []
        rw [← hK3, kseq]
        exact fin2 _
    refine refused_wp hr1 hr2 hr3 (fun ha => ?_) fun ss hr => ?_
    · simp? []
      exact fin .non (.inl ⟨rfl, ha⟩)
    · simp? []
      exact fin _ (.inr ⟨ss, rfl, hr⟩)
  simp only [told_non ht hb]
  rcases ht with ⟨rfl, ha⟩ | ⟨ss, rfl, hr⟩
  · have hbf := hb.mpr ha
    subst hbf
    simp? only []
    exact tail _ _
  · have hbt : b = true := by
      cases b with
      | true => rfl
      | false => exact absurd (hb.mp rfl) hr.no
    subst hbt
    simp? only []
    refine law_is_ring_wp hw hr ?_
    simp? only []
    refine is_ring_wp hw hr ?_
    simp? only [PisNot, decide_true, Bool.not_true]
    exact tail _ _
theorem holds (ns : List Int) (hns : ns.length ≤ 63) : g_law [(false, .scr ns)] = .ok false (.bl true) none := by
  show wG g_law [(false, .scr ns)] fun x => x = .ok false (.bl true) none
  unfold g_law
  rw [wG_run (by rfl) (by simp [ownIx])]
  unfold b_law
  simp? only []
  refine pen_wp hns fun p hp => ?_
  simp? only [rng_nums 5 ⟨by decide, by decide⟩]
  obtain ⟨I, hI⟩ : ∃ I : List Val → M.Env → Prop, I = fun vs r => ∃ (k : Nat) (p : Val) (b2 b3 b4 b5 b6 : M.Slot), vs = (nums (5 : Int).toNat).drop k ∧ k ≤ 5 ∧ Pen (k * 3000) p ∧ r = lw (.scr ns) p b2 b3 b4 b5 b6 := ⟨_, rfl⟩
  refine wL_inv I ?_ ?_ _ _ (by rw [hI]; exact ⟨0, p, none, none, none, none, none, rfl, by omega, hp, rfl⟩)
  · intro v vs r h
    rw [hI] at h
    obtain ⟨k, p, b2, b3, b4, b5, b6, e, hk, hp, rfl⟩ := h
    obtain ⟨hk2, rfl, rfl⟩ := drop_step e
    rw [nums_get]
    rw [nums_len] at hk2
    have hk3 : k < 5 := hk2
    simp only [M.kT, M.tgN, List.set_cons_succ, List.set_cons_zero]
    refine law_turn hp (by omega) fun p' b3 b4 b5 b6 hp' => ?_
    rw [kTurn, hI]
    exact ⟨k + 1, p', _, _, _, _, _, rfl, hk2, hp'.mono (by omega), rfl⟩
  · intro r h
    rw [hI] at h
    obtain ⟨k, p, b2, b3, b4, b5, b6, e, hk, hp, rfl⟩ := h
    simp? only []
end K10
namespace K10
open PySem L2 M BB PK BS
abbrev top (i : Nat) : Stmt := PySem.Challenge.pw_passwidth_k10_rings_found.main.body.getD i (.Pass ⟨0, 0, 0, 0⟩)
abbrev s__law_pen : Stmt := top 35
abbrev s__law_draw : Stmt := top 36
abbrev s__law_names : Stmt := top 37
abbrev s__law_shuffled : Stmt := top 38
abbrev s__law_tangle : Stmt := top 39
abbrev s_unfinished : Stmt := top 2
abbrev s_ring_in : Stmt := top 3
abbrev s__law_has_ring : Stmt := top 40
abbrev s__law_is_ring : Stmt := top 41
abbrev s_is_ring : Stmt := top 4
abbrev s_is_name : Stmt := top 15
abbrev s_first_wrong : Stmt := top 29
abbrev s_need_rows : Stmt := top 31
abbrev s_are_needs : Stmt := top 30
abbrev s_need_needs : Stmt := top 32
abbrev s_C_Sheet_needs : Stmt := inCls (top 33) 6
abbrev s_row_text : Stmt := top 25
abbrev s_C_Sheet_rows : Stmt := inCls (top 33) 5
abbrev s_sheet_text : Stmt := top 26
abbrev s_C_Sheet_fill : Stmt := inCls (top 33) 2
abbrev s_C_Sheet___init__ : Stmt := inCls (top 33) 1
abbrev s_C_Sheet_of : Stmt := inCls (top 33) 3
abbrev s__law_refused : Stmt := top 42
abbrev s_law : Stmt := top 43
abbrev s_C_InvalidRow___init__ : Stmt := inCls (top 7) 0
theorem sc_C_InvalidRow___init__ : FnScope ["self", "index"] ["self", "index"] (defScope s_C_InvalidRow___init__) := ⟨rfl, rfl, rfl, by decide +kernel, rfl, by decide +kernel, by decide +kernel⟩
abbrev s_C_InvalidNeeds___init__ : Stmt := inCls (top 8) 0
theorem sc_C_InvalidNeeds___init__ : FnScope ["self", "name"] ["self", "name"] (defScope s_C_InvalidNeeds___init__) := ⟨rfl, rfl, rfl, by decide +kernel, rfl, by decide +kernel, by decide +kernel⟩
abbrev s_C_HasRing___init__ : Stmt := inCls (top 9) 0
theorem sc_C_HasRing___init__ : FnScope ["self", "ring"] ["self", "ring"] (defScope s_C_HasRing___init__) := ⟨rfl, rfl, rfl, by decide +kernel, rfl, by decide +kernel, by decide +kernel⟩
theorem sc__law_pen : FnScope ["_law_script"] ["_law_script"] (defScope s__law_pen) := ⟨rfl, rfl, rfl, by decide +kernel, rfl, by decide +kernel, by decide +kernel⟩
theorem sc__law_draw : FnScope ["_law_pen_here", "_law_many", "_law_at", "_law_cell", "_law_mixed", "_law_digit", "_law_great"] ["_law_pen_here", "_law_many"] (defScope s__law_draw) := ⟨rfl, rfl, rfl, by decide +kernel, rfl, by decide +kernel, by decide +kernel⟩
theorem sc__law_names : FnScope ["_law_pen_here", "_law_many", "_law_letters", "_law_base", "_law_found", "_law_k", "_law_way", "_law_first", "_law_one", "_law_two"] ["_law_pen_here", "_law_many"] (defScope s__law_names) := ⟨rfl, rfl, rfl, by decide +kernel, rfl, by decide +kernel, by decide +kernel⟩
theorem sc__law_shuffled : FnScope ["_law_pen_here", "_law_some", "_law_left", "_law_k"] ["_law_pen_here", "_law_some"] (defScope s__law_shuffled) := ⟨rfl, rfl, rfl, by decide +kernel, rfl, by decide +kernel, by decide +kernel⟩
theorem sc__law_tangle : FnScope ["_law_pen_here", "_law_many", "_law_names_here", "_law_dense", "_law_found", "_law_k", "_law_some", "_law_one"] ["_law_pen_here", "_law_many"] (defScope s__law_tangle) := ⟨rfl, rfl, rfl, by decide +kernel, rfl, by decide +kernel, by decide +kernel⟩
theorem sc_unfinished : FnScope ["needs", "left", "ready", "name", "others", "other"] ["needs"] (defScope s_unfinished) := ⟨rfl, rfl, rfl, by decide +kernel, rfl, by decide +kernel, by decide +kernel⟩
theorem sc_ring_in : FnScope ["needs", "left", "walk", "following", "other"] ["needs"] (defScope s_ring_in) := ⟨rfl, rfl, rfl, by decide +kernel, rfl, by decide +kernel, by decide +kernel⟩
theorem sc__law_has_ring : FnScope ["_law_needs", "_law_left", "_law_turn", "_law_ready", "_law_name", "_law_one"] ["_law_needs"] (defScope s__law_has_ring) := ⟨rfl, rfl, rfl, by decide +kernel, rfl, by decide +kernel, by decide +kernel⟩
theorem sc__law_is_ring : FnScope ["_law_needs", "_law_thing", "_law_k"] ["_law_needs", "_law_thing"] (defScope s__law_is_ring) := ⟨rfl, rfl, rfl, by decide +kernel, rfl, by decide +kernel, by decide +kernel⟩
theorem sc_is_ring : FnScope ["needs", "thing", "name", "other"] ["needs", "thing"] (defScope s_is_ring) := ⟨rfl, rfl, rfl, by decide +kernel, rfl, by decide +kernel, by decide +kernel⟩
theorem sc_is_name : FnScope ["value", "letter"] ["value"] (defScope s_is_name) := ⟨rfl, rfl, rfl, by decide +kernel, rfl, by decide +kernel, by decide +kernel⟩
theorem sc_first_wrong : FnScope ["rows", "index", "name"] ["rows"] (defScope s_first_wrong) := ⟨rfl, rfl, rfl, by decide +kernel, rfl, by decide +kernel, by decide +kernel⟩
theorem sc_need_rows : FnScope ["rows", "wrong"] ["rows"] (defScope s_need_rows) := ⟨rfl, rfl, rfl, by decide +kernel, rfl, by decide +kernel, by decide +kernel⟩
theorem sc_are_needs : FnScope ["rows", "value", "name"] ["rows", "value"] (defScope s_are_needs) := ⟨rfl, rfl, rfl, by decide +kernel, rfl, by decide +kernel, by decide +kernel⟩
theorem sc_need_needs : FnScope ["rows", "needs", "name", "others"] ["rows", "needs"] (defScope s_need_needs) := ⟨rfl, rfl, rfl, by decide +kernel, rfl, by decide +kernel, by decide +kernel⟩
theorem sc_C_Sheet_needs : FnScope ["self"] ["self"] (defScope s_C_Sheet_needs) := ⟨rfl, rfl, rfl, by decide +kernel, rfl, by decide +kernel, by decide +kernel⟩
theorem sc_row_text : FnScope ["name", "needed"] ["name", "needed"] (defScope s_row_text) := ⟨rfl, rfl, rfl, by decide +kernel, rfl, by decide +kernel, by decide +kernel⟩
theorem sc_C_Sheet_rows : FnScope ["self"] ["self"] (defScope s_C_Sheet_rows) := ⟨rfl, rfl, rfl, by decide +kernel, rfl, by decide +kernel, by decide +kernel⟩
theorem sc_sheet_text : FnScope ["sheet", "needs", "name"] ["sheet"] (defScope s_sheet_text) := ⟨rfl, rfl, rfl, by decide +kernel, rfl, by decide +kernel, by decide +kernel⟩
theorem sc_C_Sheet_fill : FnScope ["self", "rows", "needs", "direct", "ring", "name", "index"] ["self", "rows", "needs"] (defScope s_C_Sheet_fill) := ⟨rfl, rfl, rfl, by decide +kernel, rfl, by decide +kernel, by decide +kernel⟩
theorem sc_C_Sheet___init__ : FnScope ["self", "rows", "needs"] ["self", "rows", "needs"] (defScope s_C_Sheet___init__) := ⟨rfl, rfl, rfl, by decide +kernel, rfl, by decide +kernel, by decide +kernel⟩
theorem sc_C_Sheet_of : FnScope ["cls", "rows", "needs", "found"] ["cls", "rows", "needs"] (defScope s_C_Sheet_of) := ⟨rfl, rfl, rfl, by decide +kernel, rfl, by decide +kernel, by decide +kernel⟩
theorem sc__law_refused : FnScope ["_law_rows", "_law_needs", "_law_caught", "e"] ["_law_rows", "_law_needs"] (defScope s__law_refused) := ⟨rfl, rfl, rfl, by decide +kernel, rfl, by decide +kernel, by decide +kernel⟩
theorem sc_law : FnScope ["_law_script", "_law_pen_here", "_law_turn", "_law_needs", "_law_kept", "_law_told", "_law_again", "_law_name"] ["_law_script"] (defScope s_law) := ⟨rfl, rfl, rfl, by decide +kernel, rfl, by decide +kernel, by decide +kernel⟩
structure Txt (K : PySem.W.Frag) (mg : Str → Option Value) : Prop where
  d__law_pen : ∃ fd, FunQ K "_law_pen" "_law_pen" s__law_pen (He.ga K "_law_pen") fd
  d__law_draw : ∃ fd, FunQ K "_law_draw" "_law_draw" s__law_draw (He.ga K "_law_draw") fd
  d__law_names : ∃ fd, FunQ K "_law_names" "_law_names" s__law_names (He.ga K "_law_names") fd
  d__law_shuffled : ∃ fd, FunQ K "_law_shuffled" "_law_shuffled" s__law_shuffled (He.ga K "_law_shuffled") fd
  d__law_tangle : ∃ fd, FunQ K "_law_tangle" "_law_tangle" s__law_tangle (He.ga K "_law_tangle") fd
  d_unfinished : ∃ fd, FunQ K "unfinished" "unfinished" s_unfinished (He.ga K "unfinished") fd
  d_ring_in : ∃ fd, FunQ K "ring_in" "ring_in" s_ring_in (He.ga K "ring_in") fd
  d__law_has_ring : ∃ fd, FunQ K "_law_has_ring" "_law_has_ring" s__law_has_ring (He.ga K "_law_has_ring") fd
  d__law_is_ring : ∃ fd, FunQ K "_law_is_ring" "_law_is_ring" s__law_is_ring (He.ga K "_law_is_ring") fd
  d_is_ring : ∃ fd, FunQ K "is_ring" "is_ring" s_is_ring (He.ga K "is_ring") fd
  d_is_name : ∃ fd, FunQ K "is_name" "is_name" s_is_name (He.ga K "is_name") fd
  d_first_wrong : ∃ fd, FunQ K "first_wrong" "first_wrong" s_first_wrong (He.ga K "first_wrong") fd
  d_need_rows : ∃ fd, FunQ K "need_rows" "need_rows" s_need_rows (He.ga K "need_rows") fd
  d_are_needs : ∃ fd, FunQ K "are_needs" "are_needs" s_are_needs (He.ga K "are_needs") fd
  d_need_needs : ∃ fd, FunQ K "need_needs" "need_needs" s_need_needs (He.ga K "need_needs") fd
  d_C_Sheet_needs : ∃ fd, FunQ K "needs" "Sheet.needs" s_C_Sheet_needs (M.pf K (He.ga K "Sheet") "needs") fd
  d_row_text : ∃ fd, FunQ K "row_text" "row_text" s_row_text (He.ga K "row_text") fd
  d_C_Sheet_rows : ∃ fd, FunQ K "rows" "Sheet.rows" s_C_Sheet_rows (M.pf K (He.ga K "Sheet") "rows") fd
  d_sheet_text : ∃ fd, FunQ K "sheet_text" "sheet_text" s_sheet_text (He.ga K "sheet_text") fd
  d_C_Sheet_fill : ∃ fd, FunQ K "fill" "Sheet.fill" s_C_Sheet_fill (He.ma K (He.ga K "Sheet") "fill") fd
  d_C_Sheet___init__ : ∃ fd, FunQ K "__init__" "Sheet.__init__" s_C_Sheet___init__ (He.ma K (He.ga K "Sheet") "__init__") fd
  d_C_Sheet_of : ∃ fd, FunQ K "of" "Sheet.of" s_C_Sheet_of (He5.wf K (He.ga K "Sheet") "classmethod" "of") fd
  d__law_refused : ∃ fd, FunQ K "_law_refused" "_law_refused" s__law_refused (He.ga K "_law_refused") fd
  d_law : ∃ fd, FunQ K "law" "law" s_law (He.ga K "law") fd
  d_C_InvalidRow___init__ : ∃ fd, FunQ K "__init__" "InvalidRow.__init__" s_C_InvalidRow___init__ (He.ma K (He.ga K "InvalidRow") "__init__") fd
  d_C_InvalidNeeds___init__ : ∃ fd, FunQ K "__init__" "InvalidNeeds.__init__" s_C_InvalidNeeds___init__ (He.ma K (He.ga K "InvalidNeeds") "__init__") fd
  d_C_HasRing___init__ : ∃ fd, FunQ K "__init__" "HasRing.__init__" s_C_HasRing___init__ (He.ma K (He.ga K "HasRing") "__init__") fd
  g__law_pen : mg "_law_pen" = some (.ref (He.ga K "_law_pen"))
  g__law_draw : mg "_law_draw" = some (.ref (He.ga K "_law_draw"))
  g__law_names : mg "_law_names" = some (.ref (He.ga K "_law_names"))
  g__law_shuffled : mg "_law_shuffled" = some (.ref (He.ga K "_law_shuffled"))
  g__law_tangle : mg "_law_tangle" = some (.ref (He.ga K "_law_tangle"))
  g_unfinished : mg "unfinished" = some (.ref (He.ga K "unfinished"))
  g_ring_in : mg "ring_in" = some (.ref (He.ga K "ring_in"))
  g__law_has_ring : mg "_law_has_ring" = some (.ref (He.ga K "_law_has_ring"))
  g__law_is_ring : mg "_law_is_ring" = some (.ref (He.ga K "_law_is_ring"))
  g_is_ring : mg "is_ring" = some (.ref (He.ga K "is_ring"))
  g_is_name : mg "is_name" = some (.ref (He.ga K "is_name"))
  g_first_wrong : mg "first_wrong" = some (.ref (He.ga K "first_wrong"))
  g_need_rows : mg "need_rows" = some (.ref (He.ga K "need_rows"))
  g_are_needs : mg "are_needs" = some (.ref (He.ga K "are_needs"))
  g_need_needs : mg "need_needs" = some (.ref (He.ga K "need_needs"))
  t_C_Sheet_needs : PropOf K (He.ga K "Sheet") "needs" (He.ma K (He.ga K "Sheet") "needs") (M.pf K (He.ga K "Sheet") "needs")
  g_row_text : mg "row_text" = some (.ref (He.ga K "row_text"))
  t_C_Sheet_rows : PropOf K (He.ga K "Sheet") "rows" (He.ma K (He.ga K "Sheet") "rows") (M.pf K (He.ga K "Sheet") "rows")
  g_sheet_text : mg "sheet_text" = some (.ref (He.ga K "sheet_text"))
  t_C_Sheet_fill : Meth K (He.ga K "Sheet") "fill" (He.ma K (He.ga K "Sheet") "fill")
  t_C_Sheet___init__ : Mk K (He.ga K "Sheet") (He.ma K (He.ga K "Sheet") "__init__")
  t_C_Sheet_of : ClX.CMet K (He.ga K "Sheet") (.type "type") "of" (He.ma K (He.ga K "Sheet") "of") (He5.wf K (He.ga K "Sheet") "classmethod" "of")
  g__law_refused : mg "_law_refused" = some (.ref (He.ga K "_law_refused"))
  g_law : mg "law" = some (.ref (He.ga K "law"))
  gc_Sheet : mg "Sheet" = some (.ref (He.ga K "Sheet"))
  cl_Sheet : Cls K (He.ga K "Sheet")
  cr_Sheet : ClX.CRead K (He.ga K "Sheet") (.type "type")
  na_Sheet_direct : NoAttr K (He.ga K "Sheet") "direct"
  na_Sheet_names : NoAttr K (He.ga K "Sheet") "names"
  na_Sheet_order : NoAttr K (He.ga K "Sheet") "order"
  na_Sheet_shown : NoAttr K (He.ga K "Sheet") "shown"
  gc_InvalidRow : mg "InvalidRow" = some (.ref (He.ga K "InvalidRow"))
  gc_InvalidNeeds : mg "InvalidNeeds" = some (.ref (He.ga K "InvalidNeeds"))
  gc_HasRing : mg "HasRing" = some (.ref (He.ga K "HasRing"))
  gc_PassError : mg "PassError" = some (.ref (He.ga K "PassError"))
  ex_InvalidRow : ExOk K (He.ga K "InvalidRow")
  xi_InvalidRow : IniOk K (He.ga K "InvalidRow") (He.ma K (He.ga K "InvalidRow") "__init__")
  ex_InvalidNeeds : ExOk K (He.ga K "InvalidNeeds")
  xi_InvalidNeeds : IniOk K (He.ga K "InvalidNeeds") (He.ma K (He.ga K "InvalidNeeds") "__init__")
  ex_HasRing : ExOk K (He.ga K "HasRing")
  xi_HasRing : IniOk K (He.ga K "HasRing") (He.ma K (He.ga K "HasRing") "__init__")
  xn_InvalidRow_index : PySem.W.findIn K (.ref (He.ga K "InvalidRow")) "index" = some none
  xn_InvalidNeeds_name : PySem.W.findIn K (.ref (He.ga K "InvalidNeeds")) "name" = some none
  xn_HasRing_ring : PySem.W.findIn K (.ref (He.ga K "HasRing")) "ring" = some none
  xm_HasRing_PassError : PySem.W.exmOne K (.ref (He.ga K "HasRing")) (.ref (He.ga K "PassError")) = some true
  xm_InvalidNeeds_PassError : PySem.W.exmOne K (.ref (He.ga K "InvalidNeeds")) (.ref (He.ga K "PassError")) = some true
  xm_InvalidRow_PassError : PySem.W.exmOne K (.ref (He.ga K "InvalidRow")) (.ref (He.ga K "PassError")) = some true
  xk_InvalidRow_HasRing : PySem.W.kitOne K (.ref (He.ga K "InvalidRow")) (.ref (He.ga K "HasRing")) = some false
  xk_InvalidNeeds_HasRing : PySem.W.kitOne K (.ref (He.ga K "InvalidNeeds")) (.ref (He.ga K "HasRing")) = some false
  xk_HasRing_HasRing : PySem.W.kitOne K (.ref (He.ga K "HasRing")) (.ref (He.ga K "HasRing")) = some true
  xt_InvalidRow_ValueError : PySem.W.kitOne K (.ref (He.ga K "InvalidRow")) (.type "ValueError") = some true
  xt_InvalidNeeds_ValueError : PySem.W.kitOne K (.ref (He.ga K "InvalidNeeds")) (.type "ValueError") = some true
  xt_HasRing_ValueError : PySem.W.kitOne K (.ref (He.ga K "HasRing")) (.type "ValueError") = some true
  b_ValueError : mg "ValueError" = none
  b_abs : mg "abs" = none
  b_all : mg "all" = none
  b_any : mg "any" = none
  b_dict : mg "dict" = none
  b_enumerate : mg "enumerate" = none
  b_int : mg "int" = none
  b_isinstance : mg "isinstance" = none
  b_len : mg "len" = none
  b_list : mg "list" = none
  b_range : mg "range" = none
  b_repr : mg "repr" = none
  b_set : mg "set" = none
  b_sorted : mg "sorted" = none
  b_str : mg "str" = none
  b_tuple : mg "tuple" = none
  b_zip : mg "zip" = none
  c_LETTERS : ∃ t, mg "LETTERS" = some (.str "abcdefghijklmnopqrstuvwxyz" t)
  c_LIMIT : ∃ t, mg "LIMIT" = some (.int 60 t)
  c_LONGEST_NAME : ∃ t, mg "LONGEST_NAME" = some (.int 8 t)
section
variable {P : Program} {w : World} {K : PySem.W.Frag} {mg : Str → Option Value} {base : Heap}
theorem ok__law_pen (T : Txt K mg) : DefP P w K mg base ⟨K, cmK K⟩ 1 "_law_pen" s__law_pen ["_law_script"] g__law_pen := by
  obtain ⟨fd, F⟩ := T.d__law_pen
  refine def_mk (N := ["_law_script"]) (ios := [0]) (k := 0) T.g__law_pen F sc__law_pen (fun cdv A0 outer s H E hr => ⟨fun A W hw hio tk => ?_⟩) (fun _ _ _ _ _ _ us hl => match us, hl with | [_], _ => rfl)
  have c := cal_of (CM := cmK K) (N := ["_law_script"]) (mg := mg) (P := P) (w := w) (K := K) (base := base) (E := E) (cdv := cdv) (H := H) (s := s) (A := A0) (outer := outer) (qual := "_law_pen") (scope := defScope s__law_pen) (k := 0) hr
  have hC : ∀ x : Str, A.w.CM x = some (He.ga K x) := fun x => by rw [hw]; rfl
  have hK : A.w.K = K := by rw [hw]
  rw [← hw] at c
  have nd : (["_law_script"] : List Str).Nodup := sc__law_pen.nd
  have nio : ∀ i, i ∉ A.io ∨ i ∈ [0] := fun i => by by_cases h : i ∈ A.io; exact .inr (hio i h); exact .inl h
  exact (pss_one' (ps_ret' (pe_dsp (pps_Cons pe_cs (pe_slc c (po_S (pv 0)) po_pNo (po_pInt pe_ci)) (pps_Cons pe_cs pe_ci (pps_Cons pe_cs pe_ci pps_Nil))))))
theorem ok__law_draw (T : Txt K mg) : DefP P w K mg base ⟨K, cmK K⟩ 1 "_law_draw" s__law_draw ["_law_pen_here", "_law_many"] g__law_draw := by
  obtain ⟨fd, F⟩ := T.d__law_draw
  refine def_mk (N := ["_law_pen_here", "_law_many", "_law_at", "_law_cell", "_law_mixed", "_law_digit", "_law_great"]) (ios := [0, 1]) (k := 0) T.g__law_draw F sc__law_draw (fun cdv A0 outer s H E hr => ⟨fun A W hw hio tk => ?_⟩) (fun _ _ _ _ _ _ us hl => match us, hl with | [_, _], _ => rfl)
  have c := cal_of (CM := cmK K) (N := ["_law_pen_here", "_law_many", "_law_at", "_law_cell", "_law_mixed", "_law_digit", "_law_great"]) (mg := mg) (P := P) (w := w) (K := K) (base := base) (E := E) (cdv := cdv) (H := H) (s := s) (A := A0) (outer := outer) (qual := "_law_draw") (scope := defScope s__law_draw) (k := 0) hr
  have hC : ∀ x : Str, A.w.CM x = some (He.ga K x) := fun x => by rw [hw]; rfl
  have hK : A.w.K = K := by rw [hw]
  rw [← hw] at c
  have nd : (["_law_pen_here", "_law_many", "_law_at", "_law_cell", "_law_mixed", "_law_digit", "_law_great"] : List Str).Nodup := sc__law_draw.nd
  have nio : ∀ i, i ∉ A.io ∨ i ∈ [0, 1] := fun i => by by_cases h : i ∈ A.io; exact .inr (hio i h); exact .inl h
  exact (pss_cons' (ps_if' (pt_cmpV opr_gt (po_V (pe_idx c (po_S (pv 0)) (po_V pe_cs))) (po_V pe_ci)) (pss_cons' (ps_asg' (i := 5) nd rfl (by first | exact .inl rfl | exact .inr rfl) (pe_bin (opr_mod c) (po_V (pe_idx c (po_S (pv 0)) (po_V pe_cs))) (po_S (pv 1))) ((nio 5).resolve_right (by decide)))
    (pss_cons' (ps_setIx c (pv 0) pe_cs (pe_bin (opr_div c) (po_V (pe_idx c (po_S (pv 0)) (po_V pe_cs))) (po_S (pv 1))))
    (pss_one' (ps_ret' (pe_mv (pv 5)))))) pss_nil')
    (pss_cons' (ps_asg' (i := 2) nd rfl (by first | exact .inl rfl | exact .inr rfl) (pe_idx c (po_S (pv 0)) (po_V pe_cs)) ((nio 2).resolve_right (by decide)))
    (pss_cons' (ps_setIx c (pv 0) pe_cs (pe_bin (opr_add c) (po_S (pv 2)) (po_V pe_ci)))
    (pss_cons' (ps_asg' (i := 3) nd rfl (by first | exact .inl rfl | exact .inr rfl) (pe_frz (pe_bin (opr_add c) (po_V (pe_bin (opr_mul c) (po_V pe_ci) (po_S (pv 2)))) (po_V pe_ci))) ((nio 3).resolve_right (by decide)))
    (pss_cons' (ps_if' (pt_cmpV (opr_neX c) (po_V (pe_idx c (po_S (pv 0)) (po_V pe_cs))) (po_V (pe_lst' pa_asNil))) (pss_one' (ps_asg' (i := 3) nd rfl (by first | exact .inl rfl | exact .inr rfl) (pe_idx c (po_V (pe_idx c (po_S (pv 0)) (po_V pe_cs))) (po_V (pe_bin (opr_mod c) (po_S (pv 2)) (po_V (pe_bi (bi_len c) rfl T.b_len bf_len (pa_osCons (po_V (pe_idx c (po_S (pv 0)) (po_V pe_cs))) pa_osNil)))))) ((nio 3).resolve_right (by decide)))) pss_nil')
    (pss_cons' (ps_if' (PW.pt (pw_and' (pt_cmpV opr_lt (po_S (pv 2)) (po_V (pe_bi (bi_len c) rfl T.b_len bf_len (pa_osCons (po_V (pe_idx c (po_S (pv 0)) (po_V pe_cs))) pa_osNil)))) (pw_and1 (pt_cmpV opr_ge (po_V (pe_bi bi_abs rfl T.b_abs bf_abs (pa_osCons (po_S (pv 3)) pa_osNil))) (po_V (pe_bin (opr_pow c) (po_V pe_ci) (po_V pe_ci))))))) (pss_cons' (ps_asg' (i := 6) nd rfl (by first | exact .inl rfl | exact .inr rfl) (pe_frz (pe_bin (opr_add c) (po_V (pe_bin (opr_mul c) (po_V pe_ci) (po_V (pe_bi bi_abs rfl T.b_abs bf_abs (pa_osCons (po_S (pv 3)) pa_osNil))))) (po_V (pe_bt bi_int rfl T.b_int bt_int (pa_osCons (po_V (pe_cmpV opr_lt (po_S (pv 3)) (po_V pe_ci))) pa_osNil))))) ((nio 6).resolve_right (by decide)))
    (pss_cons' (ps_setIx c (pv 0) pe_cs (pe_bin (opr_div c) (po_S (pv 6)) (po_S (pv 1))))
    (pss_one' (ps_ret' (pe_bin (opr_mod c) (po_S (pv 6)) (po_S (pv 1))))))) pss_nil')
    (pss_cons' (ps_asg' (i := 4) nd rfl (by first | exact .inl rfl | exact .inr rfl) (pe_frz (pe_bin (opr_mod c) (po_V (pe_bin (opr_pow c) (po_V (pe_bin (opr_add c) (po_V (pe_bin (opr_add c) (po_V (pe_bin (opr_mod c) (po_S (pv 3)) (po_V pe_ci))) (po_V (pe_bin (opr_mul c) (po_V pe_ci) (po_S (pv 2)))))) (po_V pe_ci))) (po_V pe_ci))) (po_V pe_ci))) ((nio 4).resolve_right (by decide)))
    (pss_cons' (ps_asg' (i := 4) nd rfl (by first | exact .inl rfl | exact .inr rfl) (pe_frz (pe_bin (opr_mod c) (po_V (pe_bin (opr_pow c) (po_V (pe_bin (opr_add c) (po_V (pe_bin (opr_mul c) (po_S (pv 4)) (po_V (pe_bin (opr_add c) (po_S (pv 2)) (po_V pe_ci))))) (po_V (pe_bin (opr_mul c) (po_V (pe_bin (opr_mul c) (po_V pe_ci) (po_S (pv 2)))) (po_S (pv 2)))))) (po_V pe_ci))) (po_V pe_ci))) ((nio 4).resolve_right (by decide)))
    (pss_one' (ps_ret' (pe_bin (opr_mod c) (po_V (pe_bin (opr_div c) (po_S (pv 4)) (po_V pe_ci))) (po_S (pv 1)))))))))))))
theorem ok__law_names (T : Txt K mg) : DefP P w K mg base ⟨K, cmK K⟩ 2 "_law_names" s__law_names ["_law_pen_here", "_law_many"] g__law_names := by
  obtain ⟨fd, F⟩ := T.d__law_names
  have e__law_draw := ok__law_draw (P := P) (w := w) (base := base) T
  refine def_mk (N := ["_law_pen_here", "_law_many", "_law_letters", "_law_base", "_law_found", "_law_k", "_law_way", "_law_first", "_law_one", "_law_two"]) (ios := [0, 1]) (k := 1) T.g__law_names F sc__law_names (fun cdv A0 outer s H E hr => ⟨fun A W hw hio tk => ?_⟩) (fun _ _ _ _ _ _ us hl => match us, hl with | [_, _], _ => rfl)
  have c := cal_of (CM := cmK K) (N := ["_law_pen_here", "_law_many", "_law_letters", "_law_base", "_law_found", "_law_k", "_law_way", "_law_first", "_law_one", "_law_two"]) (mg := mg) (P := P) (w := w) (K := K) (base := base) (E := E) (cdv := cdv) (H := H) (s := s) (A := A0) (outer := outer) (qual := "_law_names") (scope := defScope s__law_names) (k := 1) hr
  have hC : ∀ x : Str, A.w.CM x = some (He.ga K x) := fun x => by rw [hw]; rfl
  have hK : A.w.K = K := by rw [hw]
  rw [← hw] at c
  have d__law_draw := e__law_draw; rw [← hw] at d__law_draw; clear e__law_draw
  have nd : (["_law_pen_here", "_law_many", "_law_letters", "_law_base", "_law_found", "_law_k", "_law_way", "_law_first", "_law_one", "_law_two"] : List Str).Nodup := sc__law_names.nd
  have nio : ∀ i, i ∉ A.io ∨ i ∈ [0, 1] := fun i => by by_cases h : i ∈ A.io; exact .inr (hio i h); exact .inl h
  exact (pss_cons' (ps_asg' (i := 2) nd rfl (by first | exact .inl rfl | exact .inr rfl) pe_cs ((nio 2).resolve_right (by decide)))
    (pss_cons' (ps_asg2 rfl nd (i := 6) (j := 7) rfl rfl (by decide) rfl rfl ((nio 6).resolve_right (by decide)) ((nio 7).resolve_right (by decide)) (pa_asCons (pe_cD d__law_draw (hr.le (by decide)) rfl tk (pa_osCons (po_S (pv 0)) (pa_osCons (po_V pe_ci) pa_osNil))) (pa_asCons (pe_cD d__law_draw (hr.le (by decide)) rfl tk (pa_osCons (po_S (pv 0)) (pa_osCons (po_V pe_ci) pa_osNil))) pa_asNil)))
    (pss_cons' (ps_asg' (i := 3) nd rfl (by first | exact .inl rfl | exact .inr rfl) (pe_idx c (po_V (pe_lst' (pa_asCons pe_cs (pa_asCons pe_cs (pa_asCons pe_cs pa_asNil))))) (po_S (pv 6))) ((nio 3).resolve_right (by decide)))
    (pss_cons' (ps_asg' (i := 4) nd rfl (by first | exact .inl rfl | exact .inr rfl) (pe_lst' pa_asNil) ((nio 4).resolve_right (by decide)))
    (pss_cons' (ps_for' (passes_of rfl) rfl (pi_rng1 rfl T.b_range (pa_asCons (pe_var' (pv 1)) pa_asNil)) (pg_N (i := 5) nd rfl (by first | exact .inl rfl | exact .inr rfl) ((nio 5).resolve_right (by decide))) (pss_cons' (ps_asg2 rfl nd (i := 8) (j := 9) rfl rfl (by decide) rfl rfl ((nio 8).resolve_right (by decide)) ((nio 9).resolve_right (by decide)) (pa_asCons (pe_idx c (po_S (pv 2)) (po_V (pe_bin (opr_mod c) (po_V (pe_bin (opr_add c) (po_S (pv 7)) (po_S (pv 5)))) (po_V pe_ci)))) (pa_asCons (pe_idx c (po_S (pv 2)) (po_V (pe_bin (opr_div c) (po_S (pv 5)) (po_V pe_ci)))) pa_asNil)))
    (pss_one' (ps_drop' (pe_mut PySem.F.plainAttrs_list PySem.F.slot_list_append PySem.F.type_list_append mutp_append (pv 4) (pa_asCons (pe_ite (PW.pt (pw_or' (pt_cmpV opr_gt (po_S (pv 6)) (po_V pe_ci)) (pw_or1 (pt_cmpV opr_gt (po_S (pv 5)) (po_V pe_ci))))) (pe_bin (opr_add c) (po_V (pe_bin (opr_add c) (po_S (pv 3)) (po_S (pv 8)))) (po_S (pv 9))) (pe_var' (pv 8))) pa_asNil))))))
    (pss_one' (ps_ret' (pe_mv (pv 4)))))))))
theorem ok__law_shuffled (T : Txt K mg) : DefP P w K mg base ⟨K, cmK K⟩ 2 "_law_shuffled" s__law_shuffled ["_law_pen_here", "_law_some"] g__law_shuffled := by
  obtain ⟨fd, F⟩ := T.d__law_shuffled
  have e__law_draw := ok__law_draw (P := P) (w := w) (base := base) T
  refine def_mk (N := ["_law_pen_here", "_law_some", "_law_left", "_law_k"]) (ios := [0, 1]) (k := 1) T.g__law_shuffled F sc__law_shuffled (fun cdv A0 outer s H E hr => ⟨fun A W hw hio tk => ?_⟩) (fun _ _ _ _ _ _ us hl => match us, hl with | [_, _], _ => rfl)
  have c := cal_of (CM := cmK K) (N := ["_law_pen_here", "_law_some", "_law_left", "_law_k"]) (mg := mg) (P := P) (w := w) (K := K) (base := base) (E := E) (cdv := cdv) (H := H) (s := s) (A := A0) (outer := outer) (qual := "_law_shuffled") (scope := defScope s__law_shuffled) (k := 1) hr
  have hC : ∀ x : Str, A.w.CM x = some (He.ga K x) := fun x => by rw [hw]; rfl
  have hK : A.w.K = K := by rw [hw]
  rw [← hw] at c
  have d__law_draw := e__law_draw; rw [← hw] at d__law_draw; clear e__law_draw
  have nd : (["_law_pen_here", "_law_some", "_law_left", "_law_k"] : List Str).Nodup := sc__law_shuffled.nd
  have nio : ∀ i, i ∉ A.io ∨ i ∈ [0, 1] := fun i => by by_cases h : i ∈ A.io; exact .inr (hio i h); exact .inl h
  exact (pss_cons' (ps_asg' (i := 2) nd rfl (by first | exact .inl rfl | exact .inr rfl) (pe_bt (bi_list c) rfl T.b_list bt_list (pa_osCons (po_S (pv 1)) pa_osNil)) ((nio 2).resolve_right (by decide)))
    (pss_one' (ps_ret' (pe_lcM rfl nd (pi_rng1 rfl T.b_range (pa_asCons (pe_bi (bi_len c) rfl T.b_len bf_len (pa_osCons (po_S (pv 2)) pa_osNil)) pa_asNil)) (blkOk_by (own := [("_law_k", 3)]) (by rfl)) (fun _ _ _ _ _ => (pg_N (i := 3) nd rfl (by first | exact .inl rfl | exact .inr rfl) ((nio 3).resolve_right (by decide)))) (fun _ _ _ _ _ => pts_no) (fun _ _ _ _ _ => (pe_mut PySem.F.plainAttrs_list PySem.F.slot_list_pop PySem.F.type_list_pop mutp_popAt (pv 2) (pa_asCons (pe_cD d__law_draw (hr.le (by decide)) rfl takes0 (pa_osCons (po_S (pv 0)) (pa_osCons (po_V (pe_frz (pe_bi (bi_len (Cal.blk c)) rfl T.b_len bf_len (pa_osCons (po_S (pv 2)) pa_osNil)))) pa_osNil))) pa_asNil))) (tok_N 3) (by decide) (fun i hi => (by decide : ∀ i ∈ ([0, 1] : List Nat), i ∉ _) i (hio i hi))))))
theorem ok__law_tangle (T : Txt K mg) : DefP P w K mg base ⟨K, cmK K⟩ 3 "_law_tangle" s__law_tangle ["_law_pen_here", "_law_many"] g__law_tangle := by
  obtain ⟨fd, F⟩ := T.d__law_tangle
  have e__law_names := ok__law_names (P := P) (w := w) (base := base) T
  have e__law_draw := ok__law_draw (P := P) (w := w) (base := base) T
  have e__law_shuffled := ok__law_shuffled (P := P) (w := w) (base := base) T
  refine def_mk (N := ["_law_pen_here", "_law_many", "_law_names_here", "_law_dense", "_law_found", "_law_k", "_law_some", "_law_one"]) (ios := [0, 1]) (k := 2) T.g__law_tangle F sc__law_tangle (fun cdv A0 outer s H E hr => ⟨fun A W hw hio tk => ?_⟩) (fun _ _ _ _ _ _ us hl => match us, hl with | [_, _], _ => rfl)
  have c := cal_of (CM := cmK K) (N := ["_law_pen_here", "_law_many", "_law_names_here", "_law_dense", "_law_found", "_law_k", "_law_some", "_law_one"]) (mg := mg) (P := P) (w := w) (K := K) (base := base) (E := E) (cdv := cdv) (H := H) (s := s) (A := A0) (outer := outer) (qual := "_law_tangle") (scope := defScope s__law_tangle) (k := 2) hr
  have hC : ∀ x : Str, A.w.CM x = some (He.ga K x) := fun x => by rw [hw]; rfl
  have hK : A.w.K = K := by rw [hw]
  rw [← hw] at c
  have d__law_names := e__law_names; rw [← hw] at d__law_names; clear e__law_names
  have d__law_draw := e__law_draw; rw [← hw] at d__law_draw; clear e__law_draw
  have d__law_shuffled := e__law_shuffled; rw [← hw] at d__law_shuffled; clear e__law_shuffled
  have nd : (["_law_pen_here", "_law_many", "_law_names_here", "_law_dense", "_law_found", "_law_k", "_law_some", "_law_one"] : List Str).Nodup := sc__law_tangle.nd
  have nio : ∀ i, i ∉ A.io ∨ i ∈ [0, 1] := fun i => by by_cases h : i ∈ A.io; exact .inr (hio i h); exact .inl h
  exact (pss_cons' (ps_asg' (i := 2) nd rfl (by first | exact .inl rfl | exact .inr rfl) (pe_frz (pe_cD d__law_names (hr.le (by decide)) rfl tk (pa_osCons (po_S (pv 0)) (pa_osCons (po_V (pe_var' (pv 1))) pa_osNil)))) ((nio 2).resolve_right (by decide)))
    (pss_cons' (ps_asg' (i := 3) nd rfl (by first | exact .inl rfl | exact .inr rfl) (pe_frz (pe_cD d__law_draw (hr.le (by decide)) rfl tk (pa_osCons (po_S (pv 0)) (pa_osCons (po_V pe_ci) pa_osNil)))) ((nio 3).resolve_right (by decide)))
    (pss_cons' (ps_asg' (i := 4) nd rfl (by first | exact .inl rfl | exact .inr rfl) pe_dNewK ((nio 4).resolve_right (by decide)))
    (pss_cons' (ps_for' (passes_of rfl) rfl (pi_rng1 rfl T.b_range (pa_asCons (pe_var' (pv 1)) pa_asNil)) (pg_N (i := 5) nd rfl (by first | exact .inl rfl | exact .inr rfl) ((nio 5).resolve_right (by decide))) (pss_cons' (ps_asgLc rfl nd (i := 6) rfl rfl ((nio 6).resolve_right (by decide)) (sw_true rfl rfl rfl (by decide +kernel)) (pi_V c.K (pe_var' (pv 2))) (blkOk_by (own := [("_law_one", 7)]) (by rfl)) (fun _ _ _ _ _ => (pg_N (i := 7) nd rfl (by first | exact .inl rfl | exact .inr rfl) ((nio 7).resolve_right (by decide)))) (fun _ _ _ _ _ => (pts_1 (PW.pt (pw_and' (pt_cmpV opr_gt (po_S (pv 3)) (po_V pe_ci)) (pw_and1 (pt_cmpV (opr_eqX (Cal.blk c)) (po_V (pe_cD d__law_draw (hr.le (by decide)) rfl takes0 (pa_osCons (po_S (pv 0)) (pa_osCons (po_V (pe_idx (Cal.blk c) (po_V (pe_lst' (pa_asCons pe_ci (pa_asCons pe_ci (pa_asCons pe_ci (pa_asCons pe_ci (pa_asCons pe_ci pa_asNil))))))) (po_S (pv 3)))) pa_osNil)))) (po_V pe_ci))))))) (fun _ _ _ _ _ => (pe_var' (pv 7))) (tok_N 7) (by decide) (fun i hi => (by decide : ∀ i ∈ ([0, 1] : List Nat), i ∉ _) i (hio i hi)))
    (pss_cons' (ps_if' (pt_cmpV (opr_eqX c) (po_S (pv 3)) (po_V pe_ci)) (pss_one' (ps_asg' (i := 6) nd rfl (by first | exact .inl rfl | exact .inr rfl) (pe_frz (pe_lst' (pa_asCons (pe_idx c (po_S (pv 2)) (po_V (pe_bin (opr_mod c) (po_V (pe_bin (opr_add c) (po_S (pv 5)) (po_V pe_ci))) (po_S (pv 1))))) pa_asNil))) ((nio 6).resolve_right (by decide)))) pss_nil')
    (pss_cons' (ps_if' (pt_cmpV (opr_eqX c) (po_V (pe_cD d__law_draw (hr.le (by decide)) rfl tk (pa_osCons (po_S (pv 0)) (pa_osCons (po_V pe_ci) pa_osNil)))) (po_V pe_ci)) (pss_one' (ps_asg' (i := 6) nd rfl (by first | exact .inl rfl | exact .inr rfl) (pe_frz (pe_lst' (pa_asCons (pe_idx c (po_S (pv 2)) (po_S (pv 5))) pa_asNil))) ((nio 6).resolve_right (by decide)))) pss_nil')
    (pss_one' (ps_setIx c (pv 4) (pe_idx c (po_S (pv 2)) (po_S (pv 5))) (pe_bt (bi_tuple c) rfl T.b_tuple bt_tuple (pa_osCons (po_V (pe_cD d__law_shuffled (hr.le (by decide)) rfl tk (pa_osCons (po_S (pv 0)) (pa_osCons (po_V (pe_var' (pv 6))) pa_osNil)))) pa_osNil))))))))
    (pss_one' (ps_ret' (pe_mv (pv 4))))))))
theorem ok_unfinished (T : Txt K mg) : DefP P w K mg base ⟨K, cmK K⟩ 1 "unfinished" s_unfinished ["needs"] g_unfinished := by
  obtain ⟨fd, F⟩ := T.d_unfinished
  refine def_mk (N := ["needs", "left", "ready", "name", "others", "other"]) (ios := [0]) (k := 0) T.g_unfinished F sc_unfinished (fun cdv A0 outer s H E hr => ⟨fun A W hw hio tk => ?_⟩) (fun _ _ _ _ _ _ us hl => match us, hl with | [_], _ => rfl)
  have c := cal_of (CM := cmK K) (N := ["needs", "left", "ready", "name", "others", "other"]) (mg := mg) (P := P) (w := w) (K := K) (base := base) (E := E) (cdv := cdv) (H := H) (s := s) (A := A0) (outer := outer) (qual := "unfinished") (scope := defScope s_unfinished) (k := 0) hr
  have hC : ∀ x : Str, A.w.CM x = some (He.ga K x) := fun x => by rw [hw]; rfl
  have hK : A.w.K = K := by rw [hw]
  rw [← hw] at c
  have nd : (["needs", "left", "ready", "name", "others", "other"] : List Str).Nodup := sc_unfinished.nd
  have nio : ∀ i, i ∉ A.io ∨ i ∈ [0] := fun i => by by_cases h : i ∈ A.io; exact .inr (hio i h); exact .inl h
  exact (pss_cons' (ps_asg' (i := 1) nd rfl (by first | exact .inl rfl | exact .inr rfl) (pe_bt (bi_dict c) rfl T.b_dict bt_dict (pa_osCons (po_S (pv 0)) pa_osNil)) ((nio 1).resolve_right (by decide)))
    (pss_cons' (ps_asg' (i := 2) nd rfl (by first | exact .inl rfl | exact .inr rfl) (pe_frz (pe_lcM rfl nd (pi_I (pe_var' (pv 1))) (blkOk_by (own := [("name", 3), ("others", 4)]) (by rfl)) (fun _ _ _ _ _ => (pg_T rfl (Cal.blk c).K (pgs_Cons (pg_N (i := 3) nd rfl (by first | exact .inl rfl | exact .inr rfl) ((nio 3).resolve_right (by decide))) (pgs_Cons (pg_N (i := 4) nd rfl (by first | exact .inl rfl | exact .inr rfl) ((nio 4).resolve_right (by decide))) pgs_Nil)) (tl_cons (tl_cons tl_nil)))) (fun _ _ _ _ _ => (pts_1 (pt_cmpV (opr_eqX (Cal.blk c)) (po_S (pv 4)) (po_V (pe_tup' pa_asNil))))) (fun _ _ _ _ _ => (pe_var' (pv 3))) (tok_T (tsok_cons (tok_N 3) (tsok_cons (tok_N 4) tsok_nil))) (by decide) (fun i hi => (by decide : ∀ i ∈ ([0] : List Nat), i ∉ _) i (hio i hi)))) ((nio 2).resolve_right (by decide)))
    (pss_cons' (ps_whlN (passes_of rfl) (pt_cmpV (opr_neX c) (po_S (pv 2)) (po_V (pe_lst' pa_asNil))) (pss_cons' (ps_asg' (i := 1) nd rfl (by first | exact .inl rfl | exact .inr rfl) (pe_dcM rfl nd (pi_I (pe_var' (pv 1))) (blkOk_by (own := [("name", 3), ("others", 4)]) (by rfl)) (fun _ _ _ _ _ => (pg_T rfl (Cal.blk c).K (pgs_Cons (pg_N (i := 3) nd rfl (by first | exact .inl rfl | exact .inr rfl) ((nio 3).resolve_right (by decide))) (pgs_Cons (pg_N (i := 4) nd rfl (by first | exact .inl rfl | exact .inr rfl) ((nio 4).resolve_right (by decide))) pgs_Nil)) (tl_cons (tl_cons tl_nil)))) (fun _ _ _ _ _ => (pts_1 (pt_cmpV (opr_notInX (Cal.blk c)) (po_S (pv 3)) (po_S (pv 2))))) (fun _ _ _ _ _ => (pe_var' (pv 3))) (fun _ _ _ _ _ => (pe_var' (pv 4))) (tok_T (tsok_cons (tok_N 3) (tsok_cons (tok_N 4) tsok_nil))) (by decide) (fun i hi => (by decide : ∀ i ∈ ([0] : List Nat), i ∉ _) i (hio i hi))) ((nio 1).resolve_right (by decide)))
    (pss_one' (ps_asg' (i := 2) nd rfl (by first | exact .inl rfl | exact .inr rfl) (pe_frz (pe_lcM rfl nd (pi_I (pe_var' (pv 1))) (blkOk_by (own := [("name", 3), ("others", 4)]) (by rfl)) (fun _ _ _ _ _ => (pg_T rfl (Cal.blk c).K (pgs_Cons (pg_N (i := 3) nd rfl (by first | exact .inl rfl | exact .inr rfl) ((nio 3).resolve_right (by decide))) (pgs_Cons (pg_N (i := 4) nd rfl (by first | exact .inl rfl | exact .inr rfl) ((nio 4).resolve_right (by decide))) pgs_Nil)) (tl_cons (tl_cons tl_nil)))) (fun _ _ _ _ _ => (pts_1 (pt_not' (pt_tst (pe_bi (bi_any (Cal.blk c)) rfl T.b_any bf_any (pa_osCons (po_V (pe_lcM rfl nd (pi_V (Cal.blk c).K (pe_var' (pv 4))) (blkOk_by (own := [("other", 5)]) (by rfl)) (fun _ _ _ _ _ => (pg_N (i := 5) nd rfl (by first | exact .inl rfl | exact .inr rfl) ((nio 5).resolve_right (by decide)))) (fun _ _ _ _ _ => pts_no) (fun _ _ _ _ _ => (pe_cmpV (opr_inX (Cal.blk (Cal.blk c))) (po_S (pv 5)) (po_S (pv 1)))) (tok_N 5) (by decide) (fun i hi => (by decide : ∀ i ∈ ([0] : List Nat), i ∉ _) i (hio i hi)))) pa_osNil)))))) (fun _ _ _ _ _ => (pe_var' (pv 3))) (tok_T (tsok_cons (tok_N 3) (tsok_cons (tok_N 4) tsok_nil))) (by decide) (fun i hi => (by decide : ∀ i ∈ ([0] : List Nat), i ∉ _) i (hio i hi)))) ((nio 2).resolve_right (by decide))))))
    (pss_one' (ps_ret' (pe_mv (pv 1)))))))
theorem ok_ring_in (T : Txt K mg) : DefP P w K mg base ⟨K, cmK K⟩ 2 "ring_in" s_ring_in ["needs"] g_ring_in := by
  obtain ⟨fd, F⟩ := T.d_ring_in
  have e_unfinished := ok_unfinished (P := P) (w := w) (base := base) T
  refine def_mk (N := ["needs", "left", "walk", "following", "other"]) (ios := [0]) (k := 1) T.g_ring_in F sc_ring_in (fun cdv A0 outer s H E hr => ⟨fun A W hw hio tk => ?_⟩) (fun _ _ _ _ _ _ us hl => match us, hl with | [_], _ => rfl)
  have c := cal_of (CM := cmK K) (N := ["needs", "left", "walk", "following", "other"]) (mg := mg) (P := P) (w := w) (K := K) (base := base) (E := E) (cdv := cdv) (H := H) (s := s) (A := A0) (outer := outer) (qual := "ring_in") (scope := defScope s_ring_in) (k := 1) hr
  have hC : ∀ x : Str, A.w.CM x = some (He.ga K x) := fun x => by rw [hw]; rfl
  have hK : A.w.K = K := by rw [hw]
  rw [← hw] at c
  have d_unfinished := e_unfinished; rw [← hw] at d_unfinished; clear e_unfinished
  have nd : (["needs", "left", "walk", "following", "other"] : List Str).Nodup := sc_ring_in.nd
  have nio : ∀ i, i ∉ A.io ∨ i ∈ [0] := fun i => by by_cases h : i ∈ A.io; exact .inr (hio i h); exact .inl h
  exact (pss_cons' (ps_asg' (i := 1) nd rfl (by first | exact .inl rfl | exact .inr rfl) (pe_frz (pe_cD d_unfinished (hr.le (by decide)) rfl tk (pa_osCons (po_V (pe_var' (pv 0))) pa_osNil))) ((nio 1).resolve_right (by decide)))
    (pss_cons' (ps_asg' (i := 2) nd rfl (by first | exact .inl rfl | exact .inr rfl) (pe_slc c (po_V (pe_bt (bi_listX c) rfl T.b_list bt_list (pa_osCons (po_S (pv 1)) pa_osNil))) po_pNo (po_pInt pe_ci)) ((nio 2).resolve_right (by decide)))
    (pss_cons' (ps_whlN (passes_of rfl) (pt_cmpV (opr_neX c) (po_S (pv 2)) (po_V (pe_lst' pa_asNil))) (pss_cons' (ps_asg' (i := 3) nd rfl (by first | exact .inl rfl | exact .inr rfl) (pe_idx c (po_V (pe_lcM rfl nd (pi_V c.K (pe_idx c (po_S (pv 1)) (po_V (pe_idx c (po_S (pv 2)) (po_V (pe_neg (po_V pe_ci))))))) (blkOk_by (own := [("other", 4)]) (by rfl)) (fun _ _ _ _ _ => (pg_N (i := 4) nd rfl (by first | exact .inl rfl | exact .inr rfl) ((nio 4).resolve_right (by decide)))) (fun _ _ _ _ _ => (pts_1 (pt_cmpV (opr_inX (Cal.blk c)) (po_S (pv 4)) (po_S (pv 1))))) (fun _ _ _ _ _ => (pe_var' (pv 4))) (tok_N 4) (by decide) (fun i hi => (by decide : ∀ i ∈ ([0] : List Nat), i ∉ _) i (hio i hi)))) (po_V pe_ci)) ((nio 3).resolve_right (by decide)))
    (pss_cons' (ps_if' (pt_cmpV (opr_inX c) (po_S (pv 3)) (po_S (pv 2))) (pss_one' (ps_ret' (pe_bt (bi_tuple c) rfl T.b_tuple bt_tuple (pa_osCons (po_V (pe_slc c (po_S (pv 2)) (po_pInt (pe_mt c (by decide) PySem.F.plainAttrs_list PySem.F.slot_list_index PySem.F.type_list_index (mtp_index c) (po_S (pv 2)) (pa_osCons (po_S (pv 3)) pa_osNil))) po_pNo)) pa_osNil)))) pss_nil')
    (pss_one' (ps_drop' (pe_mut PySem.F.plainAttrs_list PySem.F.slot_list_append PySem.F.type_list_append mutp_append (pv 2) (pa_asCons (pe_var' (pv 3)) pa_asNil)))))))
    (pss_one' (ps_ret' (pe_cst pe_non fun _ => rep_non.mpr rfl))))))
theorem ok__law_has_ring (T : Txt K mg) : DefP P w K mg base ⟨K, cmK K⟩ 1 "_law_has_ring" s__law_has_ring ["_law_needs"] g__law_has_ring := by
  obtain ⟨fd, F⟩ := T.d__law_has_ring
  refine def_mk (N := ["_law_needs", "_law_left", "_law_turn", "_law_ready", "_law_name", "_law_one"]) (ios := [0]) (k := 0) T.g__law_has_ring F sc__law_has_ring (fun cdv A0 outer s H E hr => ⟨fun A W hw hio tk => ?_⟩) (fun _ _ _ _ _ _ us hl => match us, hl with | [_], _ => rfl)
  have c := cal_of (CM := cmK K) (N := ["_law_needs", "_law_left", "_law_turn", "_law_ready", "_law_name", "_law_one"]) (mg := mg) (P := P) (w := w) (K := K) (base := base) (E := E) (cdv := cdv) (H := H) (s := s) (A := A0) (outer := outer) (qual := "_law_has_ring") (scope := defScope s__law_has_ring) (k := 0) hr
  have hC : ∀ x : Str, A.w.CM x = some (He.ga K x) := fun x => by rw [hw]; rfl
  have hK : A.w.K = K := by rw [hw]
  rw [← hw] at c
  have nd : (["_law_needs", "_law_left", "_law_turn", "_law_ready", "_law_name", "_law_one"] : List Str).Nodup := sc__law_has_ring.nd
  have nio : ∀ i, i ∉ A.io ∨ i ∈ [0] := fun i => by by_cases h : i ∈ A.io; exact .inr (hio i h); exact .inl h
  exact (pss_cons' (ps_asg' (i := 1) nd rfl (by first | exact .inl rfl | exact .inr rfl) (pe_frz (pe_bt (bi_dict c) rfl T.b_dict bt_dict (pa_osCons (po_S (pv 0)) pa_osNil))) ((nio 1).resolve_right (by decide)))
    (pss_cons' (ps_for' (passes_of rfl) rfl (pi_rng1 rfl T.b_range (pa_asCons (pe_bi (bi_lenX c) rfl T.b_len bf_len (pa_osCons (po_S (pv 0)) pa_osNil)) pa_asNil)) (pg_N (i := 2) nd rfl (by first | exact .inl rfl | exact .inr rfl) ((nio 2).resolve_right (by decide))) (pss_cons' (ps_asg' (i := 3) nd rfl (by first | exact .inl rfl | exact .inr rfl) (pe_frz (pe_lcM rfl nd (pi_V c.K (pe_var' (pv 1))) (blkOk_by (own := [("_law_name", 4)]) (by rfl)) (fun _ _ _ _ _ => (pg_N (i := 4) nd rfl (by first | exact .inl rfl | exact .inr rfl) ((nio 4).resolve_right (by decide)))) (fun _ _ _ _ _ => (pts_1 (pt_cmpV (opr_eqX (Cal.blk c)) (po_V (pe_lcM rfl nd (pi_V (Cal.blk c).K (pe_idx (Cal.blk c) (po_S (pv 1)) (po_S (pv 4)))) (blkOk_by (own := [("_law_one", 5)]) (by rfl)) (fun _ _ _ _ _ => (pg_N (i := 5) nd rfl (by first | exact .inl rfl | exact .inr rfl) ((nio 5).resolve_right (by decide)))) (fun _ _ _ _ _ => (pts_1 (pt_cmpV (opr_inX (Cal.blk (Cal.blk c))) (po_S (pv 5)) (po_S (pv 1))))) (fun _ _ _ _ _ => (pe_var' (pv 5))) (tok_N 5) (by decide) (fun i hi => (by decide : ∀ i ∈ ([0] : List Nat), i ∉ _) i (hio i hi)))) (po_V (pe_lst' pa_asNil))))) (fun _ _ _ _ _ => (pe_var' (pv 4))) (tok_N 4) (by decide) (fun i hi => (by decide : ∀ i ∈ ([0] : List Nat), i ∉ _) i (hio i hi)))) ((nio 3).resolve_right (by decide)))
    (pss_one' (ps_asg' (i := 1) nd rfl (by first | exact .inl rfl | exact .inr rfl) (pe_frz (pe_bt (bi_dict c) rfl T.b_dict bt_dict (pa_osCons (po_V (pe_lcM rfl nd (pi_V c.K (pe_var' (pv 1))) (blkOk_by (own := [("_law_name", 4)]) (by rfl)) (fun _ _ _ _ _ => (pg_N (i := 4) nd rfl (by first | exact .inl rfl | exact .inr rfl) ((nio 4).resolve_right (by decide)))) (fun _ _ _ _ _ => (pts_1 (pt_cmpV (opr_notInX (Cal.blk c)) (po_S (pv 4)) (po_S (pv 3))))) (fun _ _ _ _ _ => (pe_tup' (pa_asCons (pe_var' (pv 4)) (pa_asCons (pe_idx (Cal.blk c) (po_S (pv 1)) (po_S (pv 4))) pa_asNil)))) (tok_N 4) (by decide) (fun i hi => (by decide : ∀ i ∈ ([0] : List Nat), i ∉ _) i (hio i hi)))) pa_osNil))) ((nio 1).resolve_right (by decide))))))
    (pss_one' (ps_ret' (pe_cmpV (opr_neY c) (po_S (pv 1)) (po_V pe_dNewK))))))
theorem ok__law_is_ring (T : Txt K mg) : DefP P w K mg base ⟨K, cmK K⟩ 1 "_law_is_ring" s__law_is_ring ["_law_needs", "_law_thing"] g__law_is_ring := by
  obtain ⟨fd, F⟩ := T.d__law_is_ring
  refine def_mk (N := ["_law_needs", "_law_thing", "_law_k"]) (ios := [0, 1]) (k := 0) T.g__law_is_ring F sc__law_is_ring (fun cdv A0 outer s H E hr => ⟨fun A W hw hio tk => ?_⟩) (fun _ _ _ _ _ _ us hl => match us, hl with | [_, _], _ => rfl)
  have c := cal_of (CM := cmK K) (N := ["_law_needs", "_law_thing", "_law_k"]) (mg := mg) (P := P) (w := w) (K := K) (base := base) (E := E) (cdv := cdv) (H := H) (s := s) (A := A0) (outer := outer) (qual := "_law_is_ring") (scope := defScope s__law_is_ring) (k := 0) hr
  have hC : ∀ x : Str, A.w.CM x = some (He.ga K x) := fun x => by rw [hw]; rfl
  have hK : A.w.K = K := by rw [hw]
  rw [← hw] at c
  have nd : (["_law_needs", "_law_thing", "_law_k"] : List Str).Nodup := sc__law_is_ring.nd
  have nio : ∀ i, i ∉ A.io ∨ i ∈ [0, 1] := fun i => by by_cases h : i ∈ A.io; exact .inr (hio i h); exact .inl h
  exact (pss_cons' (ps_if' (PW.pt (pw_or' (pt_not' (pt_tst (pe_bi (bi_isi c) rfl T.b_isinstance bf_isinstance (pa_osCons (po_S (pv 1)) (pa_osCons (po_V (pe_tyN rfl T.b_tuple bt_tuple)) pa_osNil))))) (pw_or1 (pt_cmpV (opr_eqX c) (po_S (pv 1)) (po_V (pe_tup' pa_asNil)))))) (pss_one' (ps_ret' (pe_cst pe_bl fun _ => rep_bl.mpr rfl))) pss_nil')
    (pss_cons' (ps_for' (passes_of rfl) rfl (pi_rng1 rfl T.b_range (pa_asCons (pe_bi (bi_len c) rfl T.b_len bf_len (pa_osCons (po_S (pv 1)) pa_osNil)) pa_asNil)) (pg_N (i := 2) nd rfl (by first | exact .inl rfl | exact .inr rfl) ((nio 2).resolve_right (by decide))) (pss_one' (ps_if' (PW.pt (pw_or' (pt_not' (pt_tst (pe_bi (bi_isi c) rfl T.b_isinstance bf_isinstance (pa_osCons (po_V (pe_idx c (po_S (pv 1)) (po_S (pv 2)))) (pa_osCons (po_V (pe_tyN rfl T.b_str bt_str)) pa_osNil))))) (pw_or' (pt_cmpV (opr_notInX c) (po_V (pe_idx c (po_S (pv 1)) (po_S (pv 2)))) (po_S (pv 0))) (pw_or1 (pt_cmpV (opr_inX c) (po_V (pe_idx c (po_S (pv 1)) (po_S (pv 2)))) (po_V (pe_slc c (po_S (pv 1)) po_pNo (po_pInt (pe_var' (pv 2)))))))))) (pss_one' (ps_ret' (pe_cst pe_bl fun _ => rep_bl.mpr rfl))) pss_nil')))
    (pss_cons' (ps_for' (passes_of rfl) rfl (pi_rng1 rfl T.b_range (pa_asCons (pe_bi (bi_len c) rfl T.b_len bf_len (pa_osCons (po_S (pv 1)) pa_osNil)) pa_asNil)) (pg_N (i := 2) nd rfl (by first | exact .inl rfl | exact .inr rfl) ((nio 2).resolve_right (by decide))) (pss_one' (ps_if' (pt_cmpV (opr_notInX c) (po_V (pe_idx c (po_S (pv 1)) (po_V (pe_bin (opr_mod c) (po_V (pe_bin (opr_add c) (po_S (pv 2)) (po_V pe_ci))) (po_V (pe_bi (bi_len c) rfl T.b_len bf_len (pa_osCons (po_S (pv 1)) pa_osNil))))))) (po_V (pe_idx c (po_S (pv 0)) (po_V (pe_idx c (po_S (pv 1)) (po_S (pv 2))))))) (pss_one' (ps_ret' (pe_cst pe_bl fun _ => rep_bl.mpr rfl))) pss_nil')))
    (pss_one' (ps_ret' (pe_cst pe_bl fun _ => rep_bl.mpr rfl))))))
theorem ok_is_ring (T : Txt K mg) : DefP P w K mg base ⟨K, cmK K⟩ 1 "is_ring" s_is_ring ["needs", "thing"] g_is_ring := by
  obtain ⟨fd, F⟩ := T.d_is_ring
  refine def_mk (N := ["needs", "thing", "name", "other"]) (ios := [0, 1]) (k := 0) T.g_is_ring F sc_is_ring (fun cdv A0 outer s H E hr => ⟨fun A W hw hio tk => ?_⟩) (fun _ _ _ _ _ _ us hl => match us, hl with | [_, _], _ => rfl)
  have c := cal_of (CM := cmK K) (N := ["needs", "thing", "name", "other"]) (mg := mg) (P := P) (w := w) (K := K) (base := base) (E := E) (cdv := cdv) (H := H) (s := s) (A := A0) (outer := outer) (qual := "is_ring") (scope := defScope s_is_ring) (k := 0) hr
  have hC : ∀ x : Str, A.w.CM x = some (He.ga K x) := fun x => by rw [hw]; rfl
  have hK : A.w.K = K := by rw [hw]
  rw [← hw] at c
  have nd : (["needs", "thing", "name", "other"] : List Str).Nodup := sc_is_ring.nd
  have nio : ∀ i, i ∉ A.io ∨ i ∈ [0, 1] := fun i => by by_cases h : i ∈ A.io; exact .inr (hio i h); exact .inl h
  exact (pss_cons' (ps_if' (PW.pt (pw_or' (pt_not' (pt_tst (pe_bi (bi_isi c) rfl T.b_isinstance bf_isinstance (pa_osCons (po_S (pv 1)) (pa_osCons (po_V (pe_tyN rfl T.b_tuple bt_tuple)) pa_osNil))))) (pw_or1 (pt_cmpV (opr_eqX c) (po_V (pe_bi (bi_len c) rfl T.b_len bf_len (pa_osCons (po_S (pv 1)) pa_osNil))) (po_V pe_ci))))) (pss_one' (ps_ret' (pe_cst pe_bl fun _ => rep_bl.mpr rfl))) pss_nil')
    (pss_cons' (ps_if' (PW.pt (pw_or' (pt_not' (pt_tst (pe_bi (bi_all c) rfl T.b_all bf_all (pa_osCons (po_V (pe_lcM rfl nd (pi_V c.K (pe_var' (pv 1))) (blkOk_by (own := [("name", 2)]) (by rfl)) (fun _ _ _ _ _ => (pg_N (i := 2) nd rfl (by first | exact .inl rfl | exact .inr rfl) ((nio 2).resolve_right (by decide)))) (fun _ _ _ _ _ => pts_no) (fun _ _ _ _ _ => (pe_andV (pe_bi (bi_isi (Cal.blk c)) rfl T.b_isinstance bf_isinstance (pa_osCons (po_S (pv 2)) (pa_osCons (po_V (pe_tyN rfl T.b_str bt_str)) pa_osNil))) (pe_one (pe_cmpV (opr_inX (Cal.blk c)) (po_S (pv 2)) (po_S (pv 0)))))) (tok_N 2) (by decide) (fun i hi => (by decide : ∀ i ∈ ([0, 1] : List Nat), i ∉ _) i (hio i hi)))) pa_osNil)))) (pw_or1 (pt_cmpV opr_lt (po_V (pe_lenSet c rfl T.b_len rfl T.b_set (pe_var' (pv 1)))) (po_V (pe_bi (bi_len c) rfl T.b_len bf_len (pa_osCons (po_S (pv 1)) pa_osNil))))))) (pss_one' (ps_ret' (pe_cst pe_bl fun _ => rep_bl.mpr rfl))) pss_nil')
    (pss_one' (ps_ret' (pe_bi (bi_all c) rfl T.b_all bf_all (pa_osCons (po_V (pe_lcM rfl nd (pi_zip2 c.K rfl T.b_zip (pa_asCons (pe_var' (pv 1)) (pa_asCons (pe_tup' (pa_asStar c (pe_slc c (po_S (pv 1)) (po_pInt pe_ci) po_pNo) (pa_asCons (pe_idx c (po_S (pv 1)) (po_V pe_ci)) pa_asNil))) pa_asNil))) (blkOk_by (own := [("name", 2), ("other", 3)]) (by rfl)) (fun _ _ _ _ _ => (pg_T rfl (Cal.blk c).K (pgs_Cons (pg_N (i := 2) nd rfl (by first | exact .inl rfl | exact .inr rfl) ((nio 2).resolve_right (by decide))) (pgs_Cons (pg_N (i := 3) nd rfl (by first | exact .inl rfl | exact .inr rfl) ((nio 3).resolve_right (by decide))) pgs_Nil)) (tl_cons (tl_cons tl_nil)))) (fun _ _ _ _ _ => pts_no) (fun _ _ _ _ _ => (pe_cmpV (opr_inX (Cal.blk c)) (po_S (pv 3)) (po_V (pe_idx (Cal.blk c) (po_S (pv 0)) (po_S (pv 2)))))) (tok_T (tsok_cons (tok_N 2) (tsok_cons (tok_N 3) tsok_nil))) (by decide) (fun i hi => (by decide : ∀ i ∈ ([0, 1] : List Nat), i ∉ _) i (hio i hi)))) pa_osNil))))))
theorem ok_is_name (T : Txt K mg) : DefP P w K mg base ⟨K, cmK K⟩ 1 "is_name" s_is_name ["value"] g_is_name := by
  obtain ⟨fd, F⟩ := T.d_is_name
  refine def_mk (N := ["value", "letter"]) (ios := [0]) (k := 0) T.g_is_name F sc_is_name (fun cdv A0 outer s H E hr => ⟨fun A W hw hio tk => ?_⟩) (fun _ _ _ _ _ _ us hl => match us, hl with | [_], _ => rfl)
  have c := cal_of (CM := cmK K) (N := ["value", "letter"]) (mg := mg) (P := P) (w := w) (K := K) (base := base) (E := E) (cdv := cdv) (H := H) (s := s) (A := A0) (outer := outer) (qual := "is_name") (scope := defScope s_is_name) (k := 0) hr
  have hC : ∀ x : Str, A.w.CM x = some (He.ga K x) := fun x => by rw [hw]; rfl
  have hK : A.w.K = K := by rw [hw]
  rw [← hw] at c
  have nd : (["value", "letter"] : List Str).Nodup := sc_is_name.nd
  have nio : ∀ i, i ∉ A.io ∨ i ∈ [0] := fun i => by by_cases h : i ∈ A.io; exact .inr (hio i h); exact .inl h
  exact (pss_cons' (ps_if' (PW.pt (pw_or' (pt_not' (pt_tst (pe_bi (bi_isi c) rfl T.b_isinstance bf_isinstance (pa_osCons (po_S (pv 0)) (pa_osCons (po_V (pe_tyN rfl T.b_str bt_str)) pa_osNil))))) (pw_or1 (pt_not' (pt_chn opr_le opr_le (po_V pe_ci) (po_V (pe_bi (bi_len c) rfl T.b_len bf_len (pa_osCons (po_S (pv 0)) pa_osNil))) (po_V (pe_gi rfl T.c_LONGEST_NAME))))))) (pss_one' (ps_ret' (pe_cst pe_bl fun _ => rep_bl.mpr rfl))) pss_nil')
    (pss_one' (ps_ret' (pe_bi (bi_all c) rfl T.b_all bf_all (pa_osCons (po_V (pe_lcM rfl nd (pi_V c.K (pe_var' (pv 0))) (blkOk_by (own := [("letter", 1)]) (by rfl)) (fun _ _ _ _ _ => (pg_N (i := 1) nd rfl (by first | exact .inl rfl | exact .inr rfl) ((nio 1).resolve_right (by decide)))) (fun _ _ _ _ _ => pts_no) (fun _ _ _ _ _ => (pe_cmpV (opr_inX (Cal.blk c)) (po_S (pv 1)) (po_V (pe_gs rfl T.c_LETTERS)))) (tok_N 1) (by decide) (fun i hi => (by decide : ∀ i ∈ ([0] : List Nat), i ∉ _) i (hio i hi)))) pa_osNil)))))
theorem ok_first_wrong (T : Txt K mg) : DefP P w K mg base ⟨K, cmK K⟩ 2 "first_wrong" s_first_wrong ["rows"] g_first_wrong := by
  obtain ⟨fd, F⟩ := T.d_first_wrong
  have e_is_name := ok_is_name (P := P) (w := w) (base := base) T
  refine def_mk (N := ["rows", "index", "name"]) (ios := [0]) (k := 1) T.g_first_wrong F sc_first_wrong (fun cdv A0 outer s H E hr => ⟨fun A W hw hio tk => ?_⟩) (fun _ _ _ _ _ _ us hl => match us, hl with | [_], _ => rfl)
  have c := cal_of (CM := cmK K) (N := ["rows", "index", "name"]) (mg := mg) (P := P) (w := w) (K := K) (base := base) (E := E) (cdv := cdv) (H := H) (s := s) (A := A0) (outer := outer) (qual := "first_wrong") (scope := defScope s_first_wrong) (k := 1) hr
  have hC : ∀ x : Str, A.w.CM x = some (He.ga K x) := fun x => by rw [hw]; rfl
  have hK : A.w.K = K := by rw [hw]
  rw [← hw] at c
  have d_is_name := e_is_name; rw [← hw] at d_is_name; clear e_is_name
  have nd : (["rows", "index", "name"] : List Str).Nodup := sc_first_wrong.nd
  have nio : ∀ i, i ∉ A.io ∨ i ∈ [0] := fun i => by by_cases h : i ∈ A.io; exact .inr (hio i h); exact .inl h
  exact (pss_cons' (ps_for' (passes_of rfl) rfl (pi_E c.K rfl T.b_enumerate (pe_var' (pv 0))) (pg_T rfl c.K (pgs_Cons (pg_N (i := 1) nd rfl (by first | exact .inl rfl | exact .inr rfl) ((nio 1).resolve_right (by decide))) (pgs_Cons (pg_N (i := 2) nd rfl (by first | exact .inl rfl | exact .inr rfl) ((nio 2).resolve_right (by decide))) pgs_Nil)) (tl_cons (tl_cons tl_nil))) (pss_one' (ps_if' (PW.pt (pw_or' (pt_cmpV (opr_eqX c) (po_S (pv 1)) (po_V (pe_gi rfl T.c_LIMIT))) (pw_or' (pt_not' (pt_tst (pe_cD d_is_name (hr.le (by decide)) rfl tk (pa_osCons (po_V (pe_var' (pv 2))) pa_osNil)))) (pw_or1 (pt_cmpV (opr_inX c) (po_S (pv 2)) (po_V (pe_slc c (po_S (pv 0)) po_pNo (po_pInt (pe_var' (pv 1)))))))))) (pss_one' (ps_ret' (pe_mv (pv 1)))) pss_nil')))
    (pss_one' (ps_ret' (pe_cst pe_non fun _ => rep_non.mpr rfl))))
theorem ok_need_rows (T : Txt K mg) : DefP P w K mg base ⟨K, cmK K⟩ 3 "need_rows" s_need_rows ["rows"] g_need_rows := by
  obtain ⟨fd, F⟩ := T.d_need_rows
  have e_first_wrong := ok_first_wrong (P := P) (w := w) (base := base) T
  refine def_mk (N := ["rows", "wrong"]) (ios := [0]) (k := 2) T.g_need_rows F sc_need_rows (fun cdv A0 outer s H E hr => ⟨fun A W hw hio tk => ?_⟩) (fun _ _ _ _ _ _ us hl => match us, hl with | [_], _ => rfl)
  have c := cal_of (CM := cmK K) (N := ["rows", "wrong"]) (mg := mg) (P := P) (w := w) (K := K) (base := base) (E := E) (cdv := cdv) (H := H) (s := s) (A := A0) (outer := outer) (qual := "need_rows") (scope := defScope s_need_rows) (k := 2) hr
  have hC : ∀ x : Str, A.w.CM x = some (He.ga K x) := fun x => by rw [hw]; rfl
  have hK : A.w.K = K := by rw [hw]
  rw [← hw] at c
  have d_first_wrong := e_first_wrong; rw [← hw] at d_first_wrong; clear e_first_wrong
  obtain ⟨fd_InvalidRow, F_InvalidRow⟩ := T.d_C_InvalidRow___init__
  have xi_InvalidRow := ini1 (P := P) (w := w) (mg := mg) (base := base) F_InvalidRow sc_C_InvalidRow___init__ T.ex_InvalidRow.o T.xn_InvalidRow_index rfl
  have xb_InvalidRow := FunD.bindsN (ps := ["self", "index"]) F_InvalidRow (fun _ _ _ _ _ _ us hl => match us, hl with | [_, _], _ => rfl)
  have nd : (["rows", "wrong"] : List Str).Nodup := sc_need_rows.nd
  have nio : ∀ i, i ∉ A.io ∨ i ∈ [0] := fun i => by by_cases h : i ∈ A.io; exact .inr (hio i h); exact .inl h
  exact (pss_cons' (ps_if' (pt_not' (pt_tst (pe_bi (bi_isis c) rfl T.b_isinstance bf_isinstance (pa_osCons (po_S (pv 0)) (pa_osCons (po_V (pe_tup' (pa_asCons (pe_tyN rfl T.b_tuple bt_tuple) (pa_asCons (pe_tyN rfl T.b_list bt_list) pa_asNil)))) pa_osNil))))) (pss_one' (ps_raiM c tk (hC "InvalidRow") (pmk_M T.ex_InvalidRow.o T.xi_InvalidRow.iC T.xi_InvalidRow.tI xi_InvalidRow (hr.le (by decide)) xb_InvalidRow rfl T.gc_InvalidRow (pa_osCons (po_V (pe_cst pe_non fun _ => rep_non.mpr rfl)) pa_osNil)))) pss_nil')
    (pss_cons' (ps_asg' (i := 1) nd rfl (by first | exact .inl rfl | exact .inr rfl) (pe_frz (pe_cD d_first_wrong (hr.le (by decide)) rfl tk (pa_osCons (po_V (pe_var' (pv 0))) pa_osNil))) ((nio 1).resolve_right (by decide)))
    (pss_one' (ps_if' (pt_cmpV opr_isNot (po_S (pv 1)) (po_V (pe_cst pe_non fun _ => rep_non.mpr rfl))) (pss_one' (ps_raiM c tk (hC "InvalidRow") (pmk_M T.ex_InvalidRow.o T.xi_InvalidRow.iC T.xi_InvalidRow.tI xi_InvalidRow (hr.le (by decide)) xb_InvalidRow rfl T.gc_InvalidRow (pa_osCons (po_V (pe_var' (pv 1))) pa_osNil)))) pss_nil'))))
theorem ok_are_needs (T : Txt K mg) : DefP P w K mg base ⟨K, cmK K⟩ 2 "are_needs" s_are_needs ["rows", "value"] g_are_needs := by
  obtain ⟨fd, F⟩ := T.d_are_needs
  have e_is_name := ok_is_name (P := P) (w := w) (base := base) T
  refine def_mk (N := ["rows", "value", "name"]) (ios := [0, 1]) (k := 1) T.g_are_needs F sc_are_needs (fun cdv A0 outer s H E hr => ⟨fun A W hw hio tk => ?_⟩) (fun _ _ _ _ _ _ us hl => match us, hl with | [_, _], _ => rfl)
  have c := cal_of (CM := cmK K) (N := ["rows", "value", "name"]) (mg := mg) (P := P) (w := w) (K := K) (base := base) (E := E) (cdv := cdv) (H := H) (s := s) (A := A0) (outer := outer) (qual := "are_needs") (scope := defScope s_are_needs) (k := 1) hr
  have hC : ∀ x : Str, A.w.CM x = some (He.ga K x) := fun x => by rw [hw]; rfl
  have hK : A.w.K = K := by rw [hw]
  rw [← hw] at c
  have d_is_name := e_is_name; rw [← hw] at d_is_name; clear e_is_name
  have nd : (["rows", "value", "name"] : List Str).Nodup := sc_are_needs.nd
  have nio : ∀ i, i ∉ A.io ∨ i ∈ [0, 1] := fun i => by by_cases h : i ∈ A.io; exact .inr (hio i h); exact .inl h
  exact (pss_cons' (ps_if' (PW.pt (pw_or' (pt_not' (pt_tst (pe_bi (bi_isi c) rfl T.b_isinstance bf_isinstance (pa_osCons (po_S (pv 1)) (pa_osCons (po_V (pe_tyN rfl T.b_tuple bt_tuple)) pa_osNil))))) (pw_or1 (pt_not' (pt_tst (pe_bi (bi_all c) rfl T.b_all bf_all (pa_osCons (po_V (pe_lcM rfl nd (pi_V c.K (pe_var' (pv 1))) (blkOk_by (own := [("name", 2)]) (by rfl)) (fun _ _ _ _ _ => (pg_N (i := 2) nd rfl (by first | exact .inl rfl | exact .inr rfl) ((nio 2).resolve_right (by decide)))) (fun _ _ _ _ _ => pts_no) (fun _ _ _ _ _ => (pe_andV (pe_cD d_is_name (hr.le (by decide)) rfl takes0 (pa_osCons (po_V (pe_var' (pv 2))) pa_osNil)) (pe_one (pe_cmpV (opr_inX (Cal.blk c)) (po_S (pv 2)) (po_S (pv 0)))))) (tok_N 2) (by decide) (fun i hi => (by decide : ∀ i ∈ ([0, 1] : List Nat), i ∉ _) i (hio i hi)))) pa_osNil))))))) (pss_one' (ps_ret' (pe_cst pe_bl fun _ => rep_bl.mpr rfl))) pss_nil')
    (pss_one' (ps_ret' (pe_cmpV (opr_eqX c) (po_V (pe_lenSet c rfl T.b_len rfl T.b_set (pe_var' (pv 1)))) (po_V (pe_bi (bi_len c) rfl T.b_len bf_len (pa_osCons (po_S (pv 1)) pa_osNil)))))))
theorem ok_need_needs (T : Txt K mg) : DefP P w K mg base ⟨K, cmK K⟩ 3 "need_needs" s_need_needs ["rows", "needs"] g_need_needs := by
  obtain ⟨fd, F⟩ := T.d_need_needs
  have e_are_needs := ok_are_needs (P := P) (w := w) (base := base) T
  refine def_mk (N := ["rows", "needs", "name", "others"]) (ios := [0, 1]) (k := 2) T.g_need_needs F sc_need_needs (fun cdv A0 outer s H E hr => ⟨fun A W hw hio tk => ?_⟩) (fun _ _ _ _ _ _ us hl => match us, hl with | [_, _], _ => rfl)
  have c := cal_of (CM := cmK K) (N := ["rows", "needs", "name", "others"]) (mg := mg) (P := P) (w := w) (K := K) (base := base) (E := E) (cdv := cdv) (H := H) (s := s) (A := A0) (outer := outer) (qual := "need_needs") (scope := defScope s_need_needs) (k := 2) hr
  have hC : ∀ x : Str, A.w.CM x = some (He.ga K x) := fun x => by rw [hw]; rfl
  have hK : A.w.K = K := by rw [hw]
  rw [← hw] at c
  have d_are_needs := e_are_needs; rw [← hw] at d_are_needs; clear e_are_needs
  obtain ⟨fd_InvalidNeeds, F_InvalidNeeds⟩ := T.d_C_InvalidNeeds___init__
  have xi_InvalidNeeds := ini1 (P := P) (w := w) (mg := mg) (base := base) F_InvalidNeeds sc_C_InvalidNeeds___init__ T.ex_InvalidNeeds.o T.xn_InvalidNeeds_name rfl
  have xb_InvalidNeeds := FunD.bindsN (ps := ["self", "name"]) F_InvalidNeeds (fun _ _ _ _ _ _ us hl => match us, hl with | [_, _], _ => rfl)
  have nd : (["rows", "needs", "name", "others"] : List Str).Nodup := sc_need_needs.nd
  have nio : ∀ i, i ∉ A.io ∨ i ∈ [0, 1] := fun i => by by_cases h : i ∈ A.io; exact .inr (hio i h); exact .inl h
  exact (pss_cons' (ps_if' (pt_not' (pt_tst (pe_bi (bi_isi c) rfl T.b_isinstance bf_isinstance (pa_osCons (po_S (pv 1)) (pa_osCons (po_V (pe_tyN rfl T.b_dict bt_dict)) pa_osNil))))) (pss_one' (ps_raiM c tk (hC "InvalidNeeds") (pmk_M T.ex_InvalidNeeds.o T.xi_InvalidNeeds.iC T.xi_InvalidNeeds.tI xi_InvalidNeeds (hr.le (by decide)) xb_InvalidNeeds rfl T.gc_InvalidNeeds (pa_osCons (po_V (pe_cst pe_non fun _ => rep_non.mpr rfl)) pa_osNil)))) pss_nil')
    (pss_one' (ps_for' (passes_of rfl) rfl (pi_I (pe_var' (pv 1))) (pg_T rfl c.K (pgs_Cons (pg_N (i := 2) nd rfl (by first | exact .inl rfl | exact .inr rfl) ((nio 2).resolve_right (by decide))) (pgs_Cons (pg_N (i := 3) nd rfl (by first | exact .inl rfl | exact .inr rfl) ((nio 3).resolve_right (by decide))) pgs_Nil)) (tl_cons (tl_cons tl_nil))) (pss_one' (ps_if' (PW.pt (pw_or' (pt_cmpV (opr_notInX c) (po_S (pv 2)) (po_S (pv 0))) (pw_or1 (pt_not' (pt_tst (pe_cD d_are_needs (hr.le (by decide)) rfl tk (pa_osCons (po_V (pe_var' (pv 0))) (pa_osCons (po_V (pe_var' (pv 3))) pa_osNil)))))))) (pss_one' (ps_raiM c tk (hC "InvalidNeeds") (pmk_M T.ex_InvalidNeeds.o T.xi_InvalidNeeds.iC T.xi_InvalidNeeds.tI xi_InvalidNeeds (hr.le (by decide)) xb_InvalidNeeds rfl T.gc_InvalidNeeds (pa_osCons (po_V (pe_var' (pv 2))) pa_osNil)))) pss_nil')))))
theorem ok_C_Sheet_needs (T : Txt K mg) : DefQ P w K mg base ⟨K, cmK K⟩ 1 "needs" "Sheet.needs" s_C_Sheet_needs ["self"] g_C_Sheet_needs (M.pf K (He.ga K "Sheet") "needs") := by
  obtain ⟨fd, F⟩ := T.d_C_Sheet_needs
  refine defQ_mk (N := ["self"]) (ios := [0]) (k := 0) F sc_C_Sheet_needs (fun cdv A0 outer s H E hr => ⟨fun A W hw hio tk => ?_⟩) (fun _ _ _ _ _ _ us hl => match us, hl with | [_], _ => rfl)
  have c := cal_of (CM := cmK K) (N := ["self"]) (mg := mg) (P := P) (w := w) (K := K) (base := base) (E := E) (cdv := cdv) (H := H) (s := s) (A := A0) (outer := outer) (qual := "Sheet.needs") (scope := defScope s_C_Sheet_needs) (k := 0) hr
  have hC : ∀ x : Str, A.w.CM x = some (He.ga K x) := fun x => by rw [hw]; rfl
  have hK : A.w.K = K := by rw [hw]
  rw [← hw] at c
  have f_Sheet_direct : FldOk A.w ["Sheet"] "direct" := (fld_cons (hC "Sheet") (by rw [hK]; exact T.cl_Sheet) (by rw [hK]; exact T.na_Sheet_direct) fld_nil)
  have nd : (["self"] : List Str).Nodup := sc_C_Sheet_needs.nd
  have nio : ∀ i, i ∉ A.io ∨ i ∈ [0] := fun i => by by_cases h : i ∈ A.io; exact .inr (hio i h); exact .inl h
  exact (pss_one' (ps_ret' (pe_bt (bi_dict c) rfl T.b_dict bt_dict (pa_osCons (po_V (pe_fldM c f_Sheet_direct (po_S (pv 0)))) pa_osNil))))
theorem ok_row_text (T : Txt K mg) : DefP P w K mg base ⟨K, cmK K⟩ 1 "row_text" s_row_text ["name", "needed"] g_row_text := by
  obtain ⟨fd, F⟩ := T.d_row_text
  refine def_mk (N := ["name", "needed"]) (ios := [0, 1]) (k := 0) T.g_row_text F sc_row_text (fun cdv A0 outer s H E hr => ⟨fun A W hw hio tk => ?_⟩) (fun _ _ _ _ _ _ us hl => match us, hl with | [_, _], _ => rfl)
  have c := cal_of (CM := cmK K) (N := ["name", "needed"]) (mg := mg) (P := P) (w := w) (K := K) (base := base) (E := E) (cdv := cdv) (H := H) (s := s) (A := A0) (outer := outer) (qual := "row_text") (scope := defScope s_row_text) (k := 0) hr
  have hC : ∀ x : Str, A.w.CM x = some (He.ga K x) := fun x => by rw [hw]; rfl
  have hK : A.w.K = K := by rw [hw]
  rw [← hw] at c
  have nd : (["name", "needed"] : List Str).Nodup := sc_row_text.nd
  have nio : ∀ i, i ∉ A.io ∨ i ∈ [0, 1] := fun i => by by_cases h : i ∈ A.io; exact .inr (hio i h); exact .inl h
  exact (pss_one' (ps_ret' (pe_ite (pt_cmpV (opr_neX c) (po_S (pv 1)) (po_V (pe_tup' pa_asNil))) (pe_mt c (by decide) PySem.F.plainAttrs_str PySem.F.slot_str_join PySem.F.type_str_join mtp_join (po_V pe_cs) (pa_osCons (po_V (pe_lst' (pa_asCons (pe_fstr (pj_Cons (pe_fmtM (po_S (pv 0))) (pj_Cons pe_cs pj_Nil))) (pa_asStar c (pe_var' (pv 1)) pa_asNil)))) pa_osNil)) (pe_var' (pv 0)))))
theorem ok_C_Sheet_rows (T : Txt K mg) : DefQ P w K mg base ⟨K, cmK K⟩ 1 "rows" "Sheet.rows" s_C_Sheet_rows ["self"] g_C_Sheet_rows (M.pf K (He.ga K "Sheet") "rows") := by
  obtain ⟨fd, F⟩ := T.d_C_Sheet_rows
  refine defQ_mk (N := ["self"]) (ios := [0]) (k := 0) F sc_C_Sheet_rows (fun cdv A0 outer s H E hr => ⟨fun A W hw hio tk => ?_⟩) (fun _ _ _ _ _ _ us hl => match us, hl with | [_], _ => rfl)
  have c := cal_of (CM := cmK K) (N := ["self"]) (mg := mg) (P := P) (w := w) (K := K) (base := base) (E := E) (cdv := cdv) (H := H) (s := s) (A := A0) (outer := outer) (qual := "Sheet.rows") (scope := defScope s_C_Sheet_rows) (k := 0) hr
  have hC : ∀ x : Str, A.w.CM x = some (He.ga K x) := fun x => by rw [hw]; rfl
  have hK : A.w.K = K := by rw [hw]
  rw [← hw] at c
  have f_Sheet_names : FldOk A.w ["Sheet"] "names" := (fld_cons (hC "Sheet") (by rw [hK]; exact T.cl_Sheet) (by rw [hK]; exact T.na_Sheet_names) fld_nil)
  have nd : (["self"] : List Str).Nodup := sc_C_Sheet_rows.nd
  have nio : ∀ i, i ∉ A.io ∨ i ∈ [0] := fun i => by by_cases h : i ∈ A.io; exact .inr (hio i h); exact .inl h
  exact (pss_one' (ps_ret' (pe_fldM c f_Sheet_names (po_S (pv 0)))))
theorem ok_sheet_text (T : Txt K mg) : DefP P w K mg base ⟨K, cmK K⟩ 3 "sheet_text" s_sheet_text ["sheet"] g_sheet_text := by
  obtain ⟨fd, F⟩ := T.d_sheet_text
  have e_C_Sheet_needs := ok_C_Sheet_needs (P := P) (w := w) (base := base) T
  have e_row_text := ok_row_text (P := P) (w := w) (base := base) T
  have e_C_Sheet_rows := ok_C_Sheet_rows (P := P) (w := w) (base := base) T
  refine def_mk (N := ["sheet", "needs", "name"]) (ios := [0]) (k := 2) T.g_sheet_text F sc_sheet_text (fun cdv A0 outer s H E hr => ⟨fun A W hw hio tk => ?_⟩) (fun _ _ _ _ _ _ us hl => match us, hl with | [_], _ => rfl)
  have c := cal_of (CM := cmK K) (N := ["sheet", "needs", "name"]) (mg := mg) (P := P) (w := w) (K := K) (base := base) (E := E) (cdv := cdv) (H := H) (s := s) (A := A0) (outer := outer) (qual := "sheet_text") (scope := defScope s_sheet_text) (k := 2) hr
  have hC : ∀ x : Str, A.w.CM x = some (He.ga K x) := fun x => by rw [hw]; rfl
  have hK : A.w.K = K := by rw [hw]
  rw [← hw] at c
  rw [← hw] at e_C_Sheet_needs
  have d_row_text := e_row_text; rw [← hw] at d_row_text; clear e_row_text
  rw [← hw] at e_C_Sheet_rows
  have p_C_Sheet_needs := prp_of (X := (cxOf (L2.CX P w) P w K mg base ["sheet", "needs", "name"] "sheet_text" (defScope s_sheet_text) (He.ga K "sheet_text") cdv A0 outer s H E)) (wd := A.w) (lvl := 1) (c := "Sheet") (n := 1) e_C_Sheet_needs (by decide) (hC "Sheet") T.cl_Sheet T.t_C_Sheet_needs
  have p_C_Sheet_rows := prp_of (X := (cxOf (L2.CX P w) P w K mg base ["sheet", "needs", "name"] "sheet_text" (defScope s_sheet_text) (He.ga K "sheet_text") cdv A0 outer s H E)) (wd := A.w) (lvl := 1) (c := "Sheet") (n := 1) e_C_Sheet_rows (by decide) (hC "Sheet") T.cl_Sheet T.t_C_Sheet_rows
  have nd : (["sheet", "needs", "name"] : List Str).Nodup := sc_sheet_text.nd
  have nio : ∀ i, i ∉ A.io ∨ i ∈ [0] := fun i => by by_cases h : i ∈ A.io; exact .inr (hio i h); exact .inl h
  exact (pss_cons' (ps_asg' (i := 1) nd rfl (by first | exact .inl rfl | exact .inr rfl) (pe_prp (tb_cons ⟨p_C_Sheet_needs.ok⟩ tb_nil) (hr.le (by decide)) (po_S (pv 0))) ((nio 1).resolve_right (by decide)))
    (pss_one' (ps_ret' (pe_mt c (by decide) PySem.F.plainAttrs_str PySem.F.slot_str_join PySem.F.type_str_join mtp_join (po_V pe_cs) (pa_osCons (po_V (pe_lcM rfl nd (pi_V c.K (pe_prp (tb_cons ⟨p_C_Sheet_rows.ok⟩ tb_nil) (hr.le (by decide)) (po_S (pv 0)))) (blkOk_by (own := [("name", 2)]) (by rfl)) (fun _ _ _ _ _ => (pg_N (i := 2) nd rfl (by first | exact .inl rfl | exact .inr rfl) ((nio 2).resolve_right (by decide)))) (fun _ _ _ _ _ => pts_no) (fun _ _ _ _ _ => (pe_cD d_row_text (hr.le (by decide)) rfl takes0 (pa_osCons (po_V (pe_var' (pv 2))) (pa_osCons (po_V (pe_idx (Cal.blk c) (po_S (pv 1)) (po_S (pv 2)))) pa_osNil)))) (tok_N 2) (by decide) (fun i hi => (by decide : ∀ i ∈ ([0] : List Nat), i ∉ _) i (hio i hi)))) pa_osNil)))))
theorem ok_C_Sheet_fill (T : Txt K mg) : DefQ P w K mg base ⟨K, cmK K⟩ 4 "fill" "Sheet.fill" s_C_Sheet_fill ["self", "rows", "needs"] g_C_Sheet_fill (He.ma K (He.ga K "Sheet") "fill") := by
  obtain ⟨fd, F⟩ := T.d_C_Sheet_fill
  have e_need_rows := ok_need_rows (P := P) (w := w) (base := base) T
  have e_need_needs := ok_need_needs (P := P) (w := w) (base := base) T
  have e_ring_in := ok_ring_in (P := P) (w := w) (base := base) T
  have e_sheet_text := ok_sheet_text (P := P) (w := w) (base := base) T
  refine defQ_mk (N := ["self", "rows", "needs", "direct", "ring", "name", "index"]) (ios := [0, 1, 2]) (k := 3) F sc_C_Sheet_fill (fun cdv A0 outer s H E hr => ⟨fun A W hw hio tk => ?_⟩) (fun _ _ _ _ _ _ us hl => match us, hl with | [_, _, _], _ => rfl)
  have c := cal_of (CM := cmK K) (N := ["self", "rows", "needs", "direct", "ring", "name", "index"]) (mg := mg) (P := P) (w := w) (K := K) (base := base) (E := E) (cdv := cdv) (H := H) (s := s) (A := A0) (outer := outer) (qual := "Sheet.fill") (scope := defScope s_C_Sheet_fill) (k := 3) hr
  have hC : ∀ x : Str, A.w.CM x = some (He.ga K x) := fun x => by rw [hw]; rfl
  have hK : A.w.K = K := by rw [hw]
  rw [← hw] at c
  have d_need_rows := e_need_rows; rw [← hw] at d_need_rows; clear e_need_rows
  have d_need_needs := e_need_needs; rw [← hw] at d_need_needs; clear e_need_needs
  have d_ring_in := e_ring_in; rw [← hw] at d_ring_in; clear e_ring_in
  have d_sheet_text := e_sheet_text; rw [← hw] at d_sheet_text; clear e_sheet_text
  obtain ⟨fd_HasRing, F_HasRing⟩ := T.d_C_HasRing___init__
  have xi_HasRing := ini1 (P := P) (w := w) (mg := mg) (base := base) F_HasRing sc_C_HasRing___init__ T.ex_HasRing.o T.xn_HasRing_ring rfl
  have xb_HasRing := FunD.bindsN (ps := ["self", "ring"]) F_HasRing (fun _ _ _ _ _ _ us hl => match us, hl with | [_, _], _ => rfl)
  have f_Sheet_names : FldOk A.w ["Sheet"] "names" := (fld_cons (hC "Sheet") (by rw [hK]; exact T.cl_Sheet) (by rw [hK]; exact T.na_Sheet_names) fld_nil)
  have f_Sheet_direct : FldOk A.w ["Sheet"] "direct" := (fld_cons (hC "Sheet") (by rw [hK]; exact T.cl_Sheet) (by rw [hK]; exact T.na_Sheet_direct) fld_nil)
  have f_Sheet_order : FldOk A.w ["Sheet"] "order" := (fld_cons (hC "Sheet") (by rw [hK]; exact T.cl_Sheet) (by rw [hK]; exact T.na_Sheet_order) fld_nil)
  have f_Sheet_shown : FldOk A.w ["Sheet"] "shown" := (fld_cons (hC "Sheet") (by rw [hK]; exact T.cl_Sheet) (by rw [hK]; exact T.na_Sheet_shown) fld_nil)
  have nd : (["self", "rows", "needs", "direct", "ring", "name", "index"] : List Str).Nodup := sc_C_Sheet_fill.nd
  have nio : ∀ i, i ∉ A.io ∨ i ∈ [0, 1, 2] := fun i => by by_cases h : i ∈ A.io; exact .inr (hio i h); exact .inl h
  exact (pss_cons' (ps_drop' (pe_cD d_need_rows (hr.le (by decide)) rfl tk (pa_osCons (po_V (pe_var' (pv 1))) pa_osNil)))
    (pss_cons' (ps_drop' (pe_cD d_need_needs (hr.le (by decide)) rfl tk (pa_osCons (po_V (pe_var' (pv 1))) (pa_osCons (po_V (pe_var' (pv 2))) pa_osNil))))
    (pss_cons' (ps_asgDc rfl nd (i := 3) rfl rfl ((nio 3).resolve_right (by decide)) (sw_trueD rfl rfl rfl (by decide +kernel)) (pi_V c.K (pe_var' (pv 1))) (blkOk_by (own := [("name", 5)]) (by rfl)) (fun _ _ _ _ _ => (pg_N (i := 5) nd rfl (by first | exact .inl rfl | exact .inr rfl) ((nio 5).resolve_right (by decide)))) (fun _ _ _ _ _ => pts_no) (fun _ _ _ _ _ => (pe_var' (pv 5))) (fun _ _ _ _ _ => (pe_bt (bi_tuple (Cal.blk c)) rfl T.b_tuple bt_tuple (pa_osCons (po_V (pe_bi (bi_sortedX (Cal.blk c)) rfl T.b_sorted bf_sorted (pa_osCons (po_V (pe_mt (Cal.blk c) (by decide) PySem.F.plainAttrs_dict PySem.F.slot_dict_get PySem.F.type_dict_get (mtp_dget (Cal.blk c)) (po_S (pv 2)) (pa_osCons (po_S (pv 5)) (pa_osCons (po_V (pe_tup' pa_asNil)) pa_osNil)))) pa_osNil))) pa_osNil))) (tok_N 5) (by decide) (fun i hi => (by decide : ∀ i ∈ ([0, 1, 2] : List Nat), i ∉ _) i (hio i hi)))
    (pss_cons' (ps_asg' (i := 4) nd rfl (by first | exact .inl rfl | exact .inr rfl) (pe_frz (pe_cD d_ring_in (hr.le (by decide)) rfl tk (pa_osCons (po_V (pe_var' (pv 3))) pa_osNil))) ((nio 4).resolve_right (by decide)))
    (pss_cons' (ps_if' (pt_cmpV opr_isNot (po_S (pv 4)) (po_V (pe_cst pe_non fun _ => rep_non.mpr rfl))) (pss_one' (ps_raiM c tk (hC "HasRing") (pmk_M T.ex_HasRing.o T.xi_HasRing.iC T.xi_HasRing.tI xi_HasRing (hr.le (by decide)) xb_HasRing rfl T.gc_HasRing (pa_osCons (po_V (pe_var' (pv 4))) pa_osNil)))) pss_nil')
    (pss_cons' (ps_setFld c f_Sheet_names (pv 0) (pe_bt (bi_tuple c) rfl T.b_tuple bt_tuple (pa_osCons (po_S (pv 1)) pa_osNil)))
    (pss_cons' (ps_setFld c f_Sheet_direct (pv 0) (pe_var' (pv 3)))
    (pss_cons' (ps_setFld c f_Sheet_order (pv 0) (pe_dcM rfl nd (pi_E c.K rfl T.b_enumerate (pe_var' (pv 1))) (blkOk_by (own := [("index", 6), ("name", 5)]) (by rfl)) (fun _ _ _ _ _ => (pg_T rfl (Cal.blk c).K (pgs_Cons (pg_N (i := 6) nd rfl (by first | exact .inl rfl | exact .inr rfl) ((nio 6).resolve_right (by decide))) (pgs_Cons (pg_N (i := 5) nd rfl (by first | exact .inl rfl | exact .inr rfl) ((nio 5).resolve_right (by decide))) pgs_Nil)) (tl_cons (tl_cons tl_nil)))) (fun _ _ _ _ _ => pts_no) (fun _ _ _ _ _ => (pe_var' (pv 5))) (fun _ _ _ _ _ => (pe_var' (pv 6))) (tok_T (tsok_cons (tok_N 6) (tsok_cons (tok_N 5) tsok_nil))) (by decide) (fun i hi => (by decide : ∀ i ∈ ([0, 1, 2] : List Nat), i ∉ _) i (hio i hi))))
    (pss_one' (ps_setFld c f_Sheet_shown (pv 0) (pe_cD d_sheet_text (hr.le (by decide)) rfl tk (pa_osCons (po_S (pv 0)) pa_osNil))))))))))))
theorem ok_C_Sheet___init__ (T : Txt K mg) (n : Nat) : FnP P w K mg base (L2.CX P w) 5 (He.ma K (He.ga K "Sheet") "__init__") (spF ⟨K, cmK K⟩ n g_C_Sheet___init__) := by
  obtain ⟨fd, F⟩ := T.d_C_Sheet___init__
  have e_C_Sheet_fill := ok_C_Sheet_fill (P := P) (w := w) (base := base) T
  refine fnP_starkw (pv := "rows") (pd := "needs") (ps := ["self"]) (N := ["self", "rows", "needs"]) (ios := [0, 1, 2]) (k := 4) F sc_C_Sheet___init__ (fun cdv A0 outer s H E hr => ⟨fun A W hw hio tk => ?_⟩) (fun _ _ _ _ _ _ us rest hl => match us, rest, hl with | [_], [], _ => rfl | [_], _ :: _, _ => rfl)
  have c := cal_of (CM := cmK K) (N := ["self", "rows", "needs"]) (mg := mg) (P := P) (w := w) (K := K) (base := base) (E := E) (cdv := cdv) (H := H) (s := s) (A := A0) (outer := outer) (qual := "Sheet.__init__") (scope := defScope s_C_Sheet___init__) (k := 4) hr
  have hC : ∀ x : Str, A.w.CM x = some (He.ga K x) := fun x => by rw [hw]; rfl
  have hK : A.w.K = K := by rw [hw]
  rw [← hw] at c
  rw [← hw] at e_C_Sheet_fill
  have m_C_Sheet_fill := mth_of (X := (cxOf (L2.CX P w) P w K mg base ["self", "rows", "needs"] "Sheet.__init__" (defScope s_C_Sheet___init__) (He.ma K (He.ga K "Sheet") "__init__") cdv A0 outer s H E)) (wd := A.w) (lvl := 4) (c := "Sheet") (n := 3) e_C_Sheet_fill (by decide) (hC "Sheet") T.cl_Sheet T.t_C_Sheet_fill
  have nd : (["self", "rows", "needs"] : List Str).Nodup := sc_C_Sheet___init__.nd
  have nio : ∀ i, i ∉ A.io ∨ i ∈ [0, 1, 2] := fun i => by by_cases h : i ∈ A.io; exact .inr (hio i h); exact .inl h
  exact (pss_one' (ps_drop' (pe_callM (tb_cons ⟨m_C_Sheet_fill.ok⟩ tb_nil) (hr.le (by decide)) tk (po_S (pv 0)) (pa_osCons (po_V (pe_var' (pv 1))) (pa_osCons (po_V (pe_var' (pv 2))) pa_osNil)))))
theorem ok_C_Sheet_of (T : Txt K mg) : DefQ P w K mg base ⟨K, cmK K⟩ 7 "of" "Sheet.of" s_C_Sheet_of ["cls", "rows", "needs"] g_C_Sheet_of (He5.wf K (He.ga K "Sheet") "classmethod" "of") := by
  obtain ⟨fd, F⟩ := T.d_C_Sheet_of
  have e_C_Sheet___init__ := fun n => ok_C_Sheet___init__ (P := P) (w := w) (base := base) T n
  have e_C_Sheet_fill := ok_C_Sheet_fill (P := P) (w := w) (base := base) T
  refine defQ_mk (N := ["cls", "rows", "needs", "found"]) (ios := [0, 1, 2]) (k := 6) F sc_C_Sheet_of (fun cdv A0 outer s H E hr => ⟨fun A W hw hio tk => ?_⟩) (fun _ _ _ _ _ _ us hl => match us, hl with | [_, _, _], _ => rfl)
  have c := cal_of (CM := cmK K) (N := ["cls", "rows", "needs", "found"]) (mg := mg) (P := P) (w := w) (K := K) (base := base) (E := E) (cdv := cdv) (H := H) (s := s) (A := A0) (outer := outer) (qual := "Sheet.of") (scope := defScope s_C_Sheet_of) (k := 6) hr
  have hC : ∀ x : Str, A.w.CM x = some (He.ga K x) := fun x => by rw [hw]; rfl
  have hK : A.w.K = K := by rw [hw]
  rw [← hw] at c
  rw [← hw] at e_C_Sheet___init__
  rw [← hw] at e_C_Sheet_fill
  have k_C_Sheet___init___1 := mk_ofP (X := (cxOf (L2.CX P w) P w K mg base ["cls", "rows", "needs", "found"] "Sheet.of" (defScope s_C_Sheet_of) (He5.wf K (He.ga K "Sheet") "classmethod" "of") cdv A0 outer s H E)) (wd := A.w) (lvl := 5) (c := "Sheet") (n := 1) (e_C_Sheet___init__ 1) (by decide) (hC "Sheet") T.t_C_Sheet___init__
  have m_C_Sheet_fill := mth_of (X := (cxOf (L2.CX P w) P w K mg base ["cls", "rows", "needs", "found"] "Sheet.of" (defScope s_C_Sheet_of) (He5.wf K (He.ga K "Sheet") "classmethod" "of") cdv A0 outer s H E)) (wd := A.w) (lvl := 4) (c := "Sheet") (n := 3) e_C_Sheet_fill (by decide) (hC "Sheet") T.cl_Sheet T.t_C_Sheet_fill
  have nd : (["cls", "rows", "needs", "found"] : List Str).Nodup := sc_C_Sheet_of.nd
  have nio : ∀ i, i ∉ A.io ∨ i ∈ [0, 1, 2] := fun i => by by_cases h : i ∈ A.io; exact .inr (hio i h); exact .inl h
  exact (pss_cons' (ps_asg' (i := 3) nd rfl (by first | exact .inl rfl | exact .inr rfl) (pe_mkD0 (tb_cons ⟨k_C_Sheet___init___1.ok⟩ tb_nil) (hr.le (by decide)) rfl (by first | exact .inl rfl | exact .inr (.inl rfl) | exact .inr rfl | decide) tk) ((nio 3).resolve_right (by decide)))
    (pss_cons' (ps_drop' (pe_callM (tb_cons ⟨m_C_Sheet_fill.ok⟩ tb_nil) (hr.le (by decide)) tk (po_S (pv 3)) (pa_osCons (po_V (pe_var' (pv 1))) (pa_osCons (po_V (pe_var' (pv 2))) pa_osNil))))
    (pss_one' (ps_ret' (pe_mv (pv 3))))))
theorem ok__law_refused (T : Txt K mg) : DefP P w K mg base ⟨K, cmK K⟩ 8 "_law_refused" s__law_refused ["_law_rows", "_law_needs"] g__law_refused := by
  obtain ⟨fd, F⟩ := T.d__law_refused
  have e_C_Sheet_of := ok_C_Sheet_of (P := P) (w := w) (base := base) T
  refine def_mk (N := ["_law_rows", "_law_needs", "_law_caught", "e"]) (ios := [0, 1]) (k := 7) T.g__law_refused F sc__law_refused (fun cdv A0 outer s H E hr => ⟨fun A W hw hio tk => ?_⟩) (fun _ _ _ _ _ _ us hl => match us, hl with | [_, _], _ => rfl)
  have c := cal_of (CM := cmK K) (N := ["_law_rows", "_law_needs", "_law_caught", "e"]) (mg := mg) (P := P) (w := w) (K := K) (base := base) (E := E) (cdv := cdv) (H := H) (s := s) (A := A0) (outer := outer) (qual := "_law_refused") (scope := defScope s__law_refused) (k := 7) hr
  have hC : ∀ x : Str, A.w.CM x = some (He.ga K x) := fun x => by rw [hw]; rfl
  have hK : A.w.K = K := by rw [hw]
  rw [← hw] at c
  rw [← hw] at e_C_Sheet_of
  have c_C_Sheet_of := cmt_of (X := (cxOf (L2.CX P w) P w K mg base ["_law_rows", "_law_needs", "_law_caught", "e"] "_law_refused" (defScope s__law_refused) (He.ga K "_law_refused") cdv A0 outer s H E)) (wd := A.w) (lvl := 7) (c := "Sheet") (n := 3) e_C_Sheet_of (by decide) (hC "Sheet") T.cr_Sheet T.t_C_Sheet_of
  have n_Sheet : ∃ C, mg "Sheet" = some (.ref C) ∧ A.w.CM "Sheet" = some C := ⟨_, T.gc_Sheet, hC "Sheet"⟩
  have etbk : ETbOk A.w TB3__law_refused := ⟨(eo_cons (hC "InvalidRow") (by rw [hK]; exact T.ex_InvalidRow.i) (hC "HasRing") (by rw [hK]; exact T.xk_InvalidRow_HasRing) (eo_cons (hC "InvalidNeeds") (by rw [hK]; exact T.ex_InvalidNeeds.i) (hC "HasRing") (by rw [hK]; exact T.xk_InvalidNeeds_HasRing) (eo_cons (hC "HasRing") (by rw [hK]; exact T.ex_HasRing.i) (hC "HasRing") (by rw [hK]; exact T.xk_HasRing_HasRing) eo_nil))), (et_cons (hC "InvalidRow") (by rw [hK]; exact T.ex_InvalidRow.i) (by rw [hK]; exact T.xt_InvalidRow_ValueError) (et_cons (hC "InvalidNeeds") (by rw [hK]; exact T.ex_InvalidNeeds.i) (by rw [hK]; exact T.xt_InvalidNeeds_ValueError) (et_cons (hC "HasRing") (by rw [hK]; exact T.ex_HasRing.i) (by rw [hK]; exact T.xt_HasRing_ValueError) et_nil)))⟩
  have xf_ring : XfOk A.w ["HasRing"] "ring" := (xf_cons (hC "HasRing") (by rw [hK]; exact T.ex_HasRing.f) (by rw [hK]; exact T.xn_HasRing_ring) xf_nil)
  have nd : (["_law_rows", "_law_needs", "_law_caught", "e"] : List Str).Nodup := sc__law_refused.nd
  have nio : ∀ i, i ∉ A.io ∨ i ∈ [0, 1] := fun i => by by_cases h : i ∈ A.io; exact .inr (hio i h); exact .inl h
  exact (pss_cons' (ps_asg' (i := 2) nd rfl (by first | exact .inl rfl | exact .inr rfl) (pe_cst pe_non fun _ => rep_non.mpr rfl) ((nio 2).resolve_right (by decide)))
    (pss_cons' (ps_tryM rfl rfl nd hK tk (fun W pn xe tk => (pss_one' (ps_drop' (pe_cmt ⟨c_C_Sheet_of.ok⟩ (hr.le (by decide)) rfl n_Sheet tk (pa_osCons (po_V (pe_var' (pv 0))) (pa_osCons (po_V (pe_var' (pv 1))) pa_osNil)))))) (HdsM.as_ ⟨rfl, by decide, .inl T.gc_PassError⟩ (mok_cons (hC "InvalidRow") (by rw [hK]; exact T.xm_InvalidRow_PassError) (mok_cons (hC "InvalidNeeds") (by rw [hK]; exact T.xm_InvalidNeeds_PassError) (mok_cons (hC "HasRing") (by rw [hK]; exact T.xm_HasRing_PassError) mok_nil))) rfl rfl ((nio 3).resolve_right (by decide)) (fun a pn => (pss_one' (ps_asg' (i := 2) nd rfl (by first | exact .inl rfl | exact .inr rfl) (pe_var' (pv 3)) ((nio 2).resolve_right (by decide))))) HdsM.nil))
    (pss_cons' (ps_if' (pt_cmpV opr_is (po_S (pv 2)) (po_V (pe_cst pe_non fun _ => rep_non.mpr rfl))) (pss_one' (ps_ret' (pe_cst pe_non fun _ => rep_non.mpr rfl))) pss_nil')
    (pss_one' (ps_ret' (pe_ite (PW.pt (pw_and' (pt_tst (pe_bi (bi_isE hK etbk) rfl T.b_isinstance bf_isinstance (pa_osCons (po_S (pv 2)) (pa_osCons (po_V (pe_clsM rfl T.gc_HasRing (hC "HasRing"))) pa_osNil)))) (pw_and1 (pt_tst (pe_bi (bi_isE hK etbk) rfl T.b_isinstance bf_isinstance (pa_osCons (po_S (pv 2)) (pa_osCons (po_V (pe_tyN rfl T.b_ValueError bt_ValueError)) pa_osNil))))))) (pe_xfE hK xf_ring (po_S (pv 2))) pe_cs))))))
theorem ok_law (T : Txt K mg) : DefP P w K mg base ⟨K, cmK K⟩ 9 "law" s_law ["_law_script"] g_law := by
  obtain ⟨fd, F⟩ := T.d_law
  have e__law_pen := ok__law_pen (P := P) (w := w) (base := base) T
  have e__law_tangle := ok__law_tangle (P := P) (w := w) (base := base) T
  have e__law_draw := ok__law_draw (P := P) (w := w) (base := base) T
  have e_ring_in := ok_ring_in (P := P) (w := w) (base := base) T
  have e__law_has_ring := ok__law_has_ring (P := P) (w := w) (base := base) T
  have e__law_is_ring := ok__law_is_ring (P := P) (w := w) (base := base) T
  have e_is_ring := ok_is_ring (P := P) (w := w) (base := base) T
  have e__law_refused := ok__law_refused (P := P) (w := w) (base := base) T
  have e__law_shuffled := ok__law_shuffled (P := P) (w := w) (base := base) T
  refine def_mk (N := ["_law_script", "_law_pen_here", "_law_turn", "_law_needs", "_law_kept", "_law_told", "_law_again", "_law_name"]) (ios := [0]) (k := 8) T.g_law F sc_law (fun cdv A0 outer s H E hr => ⟨fun A W hw hio tk => ?_⟩) (fun _ _ _ _ _ _ us hl => match us, hl with | [_], _ => rfl)
  have c := cal_of (CM := cmK K) (N := ["_law_script", "_law_pen_here", "_law_turn", "_law_needs", "_law_kept", "_law_told", "_law_again", "_law_name"]) (mg := mg) (P := P) (w := w) (K := K) (base := base) (E := E) (cdv := cdv) (H := H) (s := s) (A := A0) (outer := outer) (qual := "law") (scope := defScope s_law) (k := 8) hr
  have hC : ∀ x : Str, A.w.CM x = some (He.ga K x) := fun x => by rw [hw]; rfl
  have hK : A.w.K = K := by rw [hw]
  rw [← hw] at c
  have d__law_pen := e__law_pen; rw [← hw] at d__law_pen; clear e__law_pen
  have d__law_tangle := e__law_tangle; rw [← hw] at d__law_tangle; clear e__law_tangle
  have d__law_draw := e__law_draw; rw [← hw] at d__law_draw; clear e__law_draw
  have d_ring_in := e_ring_in; rw [← hw] at d_ring_in; clear e_ring_in
  have d__law_has_ring := e__law_has_ring; rw [← hw] at d__law_has_ring; clear e__law_has_ring
  have d__law_is_ring := e__law_is_ring; rw [← hw] at d__law_is_ring; clear e__law_is_ring
  have d_is_ring := e_is_ring; rw [← hw] at d_is_ring; clear e_is_ring
  have d__law_refused := e__law_refused; rw [← hw] at d__law_refused; clear e__law_refused
  have d__law_shuffled := e__law_shuffled; rw [← hw] at d__law_shuffled; clear e__law_shuffled
  have nd : (["_law_script", "_law_pen_here", "_law_turn", "_law_needs", "_law_kept", "_law_told", "_law_again", "_law_name"] : List Str).Nodup := sc_law.nd
  have nio : ∀ i, i ∉ A.io ∨ i ∈ [0] := fun i => by by_cases h : i ∈ A.io; exact .inr (hio i h); exact .inl h
  exact (pss_cons' (ps_asg' (i := 1) nd rfl (by first | exact .inl rfl | exact .inr rfl) (pe_cD d__law_pen (hr.le (by decide)) rfl tk (pa_osCons (po_V (pe_var' (pv 0))) pa_osNil)) ((nio 1).resolve_right (by decide)))
    (pss_cons' (ps_for' (passes_of rfl) rfl (pi_rng1 rfl T.b_range (pa_asCons pe_ci pa_asNil)) (pg_N (i := 2) nd rfl (by first | exact .inl rfl | exact .inr rfl) ((nio 2).resolve_right (by decide))) (pss_cons' (ps_asg' (i := 3) nd rfl (by first | exact .inl rfl | exact .inr rfl) (pe_frz (pe_cD d__law_tangle (hr.le (by decide)) rfl tk (pa_osCons (po_S (pv 1)) (pa_osCons (po_V (pe_idx c (po_V (pe_lst' (pa_asCons pe_ci (pa_asCons pe_ci (pa_asCons pe_ci (pa_asCons pe_ci (pa_asCons pe_ci (pa_asCons (pe_cD d__law_draw (hr.le (by decide)) rfl tk (pa_osCons (po_S (pv 1)) (pa_osCons (po_V pe_ci) pa_osNil))) pa_asNil)))))))) (po_V (pe_cD d__law_draw (hr.le (by decide)) rfl tk (pa_osCons (po_S (pv 1)) (pa_osCons (po_V pe_ci) pa_osNil)))))) pa_osNil)))) ((nio 3).resolve_right (by decide)))
    (pss_cons' (ps_asg' (i := 4) nd rfl (by first | exact .inl rfl | exact .inr rfl) (pe_frz (pe_bi (bi_reprX c) rfl T.b_repr bf_repr (pa_osCons (po_S (pv 3)) pa_osNil))) ((nio 4).resolve_right (by decide)))
    (pss_cons' (ps_asg2 rfl nd (i := 5) (j := 6) rfl rfl (by decide) rfl rfl ((nio 5).resolve_right (by decide)) ((nio 6).resolve_right (by decide)) (pa_asCons (pe_cD d_ring_in (hr.le (by decide)) rfl tk (pa_osCons (po_V (pe_var' (pv 3))) pa_osNil)) (pa_asCons (pe_cD d_ring_in (hr.le (by decide)) rfl tk (pa_osCons (po_V (pe_var' (pv 3))) pa_osNil)) pa_asNil)))
    (pss_cons' (ps_if' (PW.pt (pw_or' (pt_cmpV (opr_neX c) (po_V (pe_cmpV opr_isNot (po_S (pv 5)) (po_V (pe_cst pe_non fun _ => rep_non.mpr rfl)))) (po_V (pe_cD d__law_has_ring (hr.le (by decide)) rfl tk (pa_osCons (po_V (pe_var' (pv 3))) pa_osNil)))) (pw_or1 (pt_cmpV (opr_neX c) (po_V (pe_bi (bi_reprX c) rfl T.b_repr bf_repr (pa_osCons (po_S (pv 5)) pa_osNil))) (po_V (pe_bi (bi_reprX c) rfl T.b_repr bf_repr (pa_osCons (po_S (pv 6)) pa_osNil))))))) (pss_one' (ps_ret' (pe_cst pe_bl fun _ => rep_bl.mpr rfl))) pss_nil')
    (pss_cons' (ps_if' (PW.pt (pw_and' (pt_cmpV opr_isNot (po_S (pv 5)) (po_V (pe_cst pe_non fun _ => rep_non.mpr rfl))) (pw_and1 (PW.pt (pw_or' (pt_not' (pt_tst (pe_cD d__law_is_ring (hr.le (by decide)) rfl tk (pa_osCons (po_V (pe_var' (pv 3))) (pa_osCons (po_V (pe_var' (pv 5))) pa_osNil))))) (pw_or1 (pt_cmpV opr_isNot (po_V (pe_cD d_is_ring (hr.le (by decide)) rfl tk (pa_osCons (po_V (pe_var' (pv 3))) (pa_osCons (po_V (pe_var' (pv 5))) pa_osNil)))) (po_V (pe_cst pe_bl fun _ => rep_bl.mpr rfl))))))))) (pss_one' (ps_ret' (pe_cst pe_bl fun _ => rep_bl.mpr rfl))) pss_nil')
    (pss_cons' (ps_asg' (i := 5) nd rfl (by first | exact .inl rfl | exact .inr rfl) (pe_frz (pe_cD d__law_refused (hr.le (by decide)) rfl tk (pa_osCons (po_V (pe_frz (pe_cD d__law_shuffled (hr.le (by decide)) rfl tk (pa_osCons (po_S (pv 1)) (pa_osCons (po_V (pe_frz (pe_lcM rfl nd (pi_V c.K (pe_var' (pv 3))) (blkOk_by (own := [("_law_name", 7)]) (by rfl)) (fun _ _ _ _ _ => (pg_N (i := 7) nd rfl (by first | exact .inl rfl | exact .inr rfl) ((nio 7).resolve_right (by decide)))) (fun _ _ _ _ _ => pts_no) (fun _ _ _ _ _ => (pe_var' (pv 7))) (tok_N 7) (by decide) (fun i hi => (by decide : ∀ i ∈ ([0] : List Nat), i ∉ _) i (hio i hi))))) pa_osNil))))) (pa_osCons (po_V (pe_var' (pv 3))) pa_osNil)))) ((nio 5).resolve_right (by decide)))
    (pss_cons' (ps_if' (PW.pt (pw_or' (pt_cmpV (opr_neX c) (po_V (pe_cmpV opr_isNot (po_S (pv 5)) (po_V (pe_cst pe_non fun _ => rep_non.mpr rfl)))) (po_V (pe_cD d__law_has_ring (hr.le (by decide)) rfl tk (pa_osCons (po_V (pe_var' (pv 3))) pa_osNil)))) (pw_or1 (PW.pt (pw_and' (pt_cmpV opr_isNot (po_S (pv 5)) (po_V (pe_cst pe_non fun _ => rep_non.mpr rfl))) (pw_and1 (pt_not' (pt_tst (pe_cD d__law_is_ring (hr.le (by decide)) rfl tk (pa_osCons (po_V (pe_var' (pv 3))) (pa_osCons (po_V (pe_var' (pv 5))) pa_osNil))))))))))) (pss_one' (ps_ret' (pe_cst pe_bl fun _ => rep_bl.mpr rfl))) pss_nil')
    (pss_one' (ps_if' (pt_cmpV (opr_neX c) (po_V (pe_bi (bi_reprX c) rfl T.b_repr bf_repr (pa_osCons (po_S (pv 3)) pa_osNil))) (po_S (pv 4))) (pss_one' (ps_ret' (pe_cst pe_bl fun _ => rep_bl.mpr rfl))) pss_nil'))))))))))
    (pss_one' (ps_ret' (pe_cst pe_bl fun _ => rep_bl.mpr rfl)))))
end
theorem law_fn {K : PySem.W.Frag} {mg : Str → Option Value} (T : Txt K mg) {P : Program} {w : World} {base : Heap} {f : Addr} {fd : FuncData} (hm : mg "law" = some (.ref f)) (F : FunP K "law" s_law f fd) : FnG P w K mg base (L2.CX P w) 12 f fd ["_law_script"] (spF ⟨K, cmK K⟩ 1 g_law) := (ok_law T).at hm F (by decide)
/-! ### the head -/
def d__law_pen : He5.DefA := dGlo "_law_pen" s__law_pen
def d__law_draw : He5.DefA := dGlo "_law_draw" s__law_draw
def d__law_names : He5.DefA := dGlo "_law_names" s__law_names
def d__law_shuffled : He5.DefA := dGlo "_law_shuffled" s__law_shuffled
def d__law_tangle : He5.DefA := dGlo "_law_tangle" s__law_tangle
def d_unfinished : He5.DefA := dGlo "unfinished" s_unfinished
def d_ring_in : He5.DefA := dGlo "ring_in" s_ring_in
def d__law_has_ring : He5.DefA := dGlo "_law_has_ring" s__law_has_ring
def d__law_is_ring : He5.DefA := dGlo "_law_is_ring" s__law_is_ring
def d_is_ring : He5.DefA := dGlo "is_ring" s_is_ring
def d_is_name : He5.DefA := dGlo "is_name" s_is_name
def d_first_wrong : He5.DefA := dGlo "first_wrong" s_first_wrong
def d_need_rows : He5.DefA := dGlo "need_rows" s_need_rows
def d_are_needs : He5.DefA := dGlo "are_needs" s_are_needs
def d_need_needs : He5.DefA := dGlo "need_needs" s_need_needs
def d_C_Sheet_needs : He5.DefA := dPrp "Sheet" "needs" "Sheet.needs" s_C_Sheet_needs
def d_row_text : He5.DefA := dGlo "row_text" s_row_text
def d_C_Sheet_rows : He5.DefA := dPrp "Sheet" "rows" "Sheet.rows" s_C_Sheet_rows
def d_sheet_text : He5.DefA := dGlo "sheet_text" s_sheet_text
def d_C_Sheet_fill : He5.DefA := dMth "Sheet" "fill" "Sheet.fill" s_C_Sheet_fill
def d_C_Sheet___init__ : He5.DefA := dMth "Sheet" "__init__" "Sheet.__init__" s_C_Sheet___init__
def d_C_Sheet_of : He5.DefA := dCmt "Sheet" "of" "Sheet.of" s_C_Sheet_of
def d__law_refused : He5.DefA := dGlo "_law_refused" s__law_refused
def d_law : He5.DefA := dGlo "law" s_law
def d_C_InvalidRow___init__ : He5.DefA := dMth "InvalidRow" "__init__" "InvalidRow.__init__" s_C_InvalidRow___init__
def d_C_InvalidNeeds___init__ : He5.DefA := dMth "InvalidNeeds" "__init__" "InvalidNeeds.__init__" s_C_InvalidNeeds___init__
def d_C_HasRing___init__ : He5.DefA := dMth "HasRing" "__init__" "HasRing.__init__" s_C_HasRing___init__
def fn : List He5.DefA := ([d__law_pen, d__law_draw, d__law_names, d__law_shuffled, d__law_tangle, d_unfinished, d_ring_in, d__law_has_ring, d__law_is_ring, d_is_ring, d_is_name, d_first_wrong, d_need_rows, d_are_needs, d_need_needs, d_C_Sheet_needs, d_row_text, d_C_Sheet_rows, d_sheet_text, d_C_Sheet_fill] : List He5.DefA) ++ ([d_C_Sheet___init__, d_C_Sheet_of, d__law_refused, d_law, d_C_InvalidRow___init__, d_C_InvalidNeeds___init__, d_C_HasRing___init__] : List He5.DefA)
def fa : List Fb := ([.fa (.glo "_law_pen"), .fa (.glo "_law_draw"), .fa (.glo "_law_names"), .fa (.glo "_law_shuffled"), .fa (.glo "_law_tangle"), .fa (.glo "unfinished"), .fa (.glo "ring_in"), .fa (.glo "_law_has_ring"), .fa (.glo "_law_is_ring"), .fa (.glo "is_ring"), .fa (.glo "is_name"), .fa (.glo "first_wrong"), .fa (.glo "need_rows"), .fa (.glo "are_needs"), .fa (.glo "need_needs"), .prop "Sheet" "needs", .fa (.glo "row_text"), .prop "Sheet" "rows", .fa (.glo "sheet_text"), .fa (.meth "Sheet" "fill")] : List Fb) ++ ([.fa (.mkr "Sheet"), .cmet "Sheet" "of", .fa (.glo "_law_refused"), .fa (.glo "law"), .fa (.glo "Sheet"), .fa (.cls "Sheet"), .cread "Sheet", .fa (.noat "Sheet" "direct"), .fa (.noat "Sheet" "names"), .fa (.noat "Sheet" "order"), .fa (.noat "Sheet" "shown"), .fa (.glo "InvalidRow"), .fa (.glo "InvalidNeeds"), .fa (.glo "HasRing"), .fa (.glo "PassError"), .exk "InvalidRow", .ini "InvalidRow", .exk "InvalidNeeds", .ini "InvalidNeeds", .exk "HasRing"] : List Fb) ++ ([.ini "HasRing", .xno "InvalidRow" "index", .xno "InvalidNeeds" "name", .xno "HasRing" "ring", .exm "HasRing" "PassError" true, .exm "InvalidNeeds" "PassError" true, .exm "InvalidRow" "PassError" true, .kit "InvalidRow" "HasRing" false, .kit "InvalidNeeds" "HasRing" false, .kit "HasRing" "HasRing" true, .kitT "InvalidRow" "ValueError" true, .kitT "InvalidNeeds" "ValueError" true, .kitT "HasRing" "ValueError" true, .fa (.free "ValueError"), .fa (.free "abs"), .fa (.free "all"), .fa (.free "any"), .fa (.free "dict"), .fa (.free "enumerate"), .fa (.free "int")] : List Fb) ++ ([.fa (.free "isinstance"), .fa (.free "len"), .fa (.free "list"), .fa (.free "range"), .fa (.free "repr"), .fa (.free "set"), .fa (.free "sorted"), .fa (.free "str"), .fa (.free "tuple"), .fa (.free "zip"), .fa (.str "LETTERS" "abcdefghijklmnopqrstuvwxyz"), .fa (.int "LIMIT" 60), .fa (.int "LONGEST_NAME" 8)] : List Fb)
abbrev R : PySem.W.OpenRow := PySem.W.OpenLaw.row PySem.Challenge.rw_passwidth_k10_rings_found
abbrev hk : PySem.W.Hook := hookM 7 fa fn
def ob (s : PySem.W.SharedT) : He.AlD := obsMG 7 fa fn (HandSHeadRun.getT s)
theorem ob_eq (s : PySem.W.SharedT) : ob s = hk.obs s.abs := obsMG_eq (HandSHeadRun.getT_eq s)
def loose : List Str := (["_wall", "unfinished", "ring_in", "is_ring", "PassError", "InvalidRow", "InvalidNeeds", "HasRing", "InvalidText", "NoPosition", "LETTERS", "LONGEST_NAME", "is_name", "is_integer", "is_between", "is_index", "MOST_ROWS", "lines_in", "row_in", "sheet_in"] : List Str) ++ (["row_text", "sheet_text", "LIMIT", "first_wrong", "are_needs", "need_rows", "need_needs", "Sheet", "_law_pen", "_law_draw", "_law_names", "_law_shuffled", "_law_tangle", "_law_has_ring", "_law_is_ring", "_law_refused"] : List Str)
theorem run (w : World) : HandSHeadRun.RunEq R (PySem.W.view R.prog [43]) hk ob 5000 loose w := by
  intro os
  kernel_rfl
theorem txt {K : PySem.W.Frag} {h : Heap} {mg : Str → Option Value} (X : K.In h) (G : h.Ns mainGlobals mg) (c : SaysM fa fn K) : Txt K mg where
  d__law_pen := c.def_ 0 (d := d__law_pen) rfl
  d__law_draw := c.def_ 1 (d := d__law_draw) rfl
  d__law_names := c.def_ 2 (d := d__law_names) rfl
  d__law_shuffled := c.def_ 3 (d := d__law_shuffled) rfl
  d__law_tangle := c.def_ 4 (d := d__law_tangle) rfl
  d_unfinished := c.def_ 5 (d := d_unfinished) rfl
  d_ring_in := c.def_ 6 (d := d_ring_in) rfl
  d__law_has_ring := c.def_ 7 (d := d__law_has_ring) rfl
  d__law_is_ring := c.def_ 8 (d := d__law_is_ring) rfl
  d_is_ring := c.def_ 9 (d := d_is_ring) rfl
  d_is_name := c.def_ 10 (d := d_is_name) rfl
  d_first_wrong := c.def_ 11 (d := d_first_wrong) rfl
  d_need_rows := c.def_ 12 (d := d_need_rows) rfl
  d_are_needs := c.def_ 13 (d := d_are_needs) rfl
  d_need_needs := c.def_ 14 (d := d_need_needs) rfl
  d_C_Sheet_needs := c.def_ 15 (d := d_C_Sheet_needs) rfl
  d_row_text := c.def_ 16 (d := d_row_text) rfl
  d_C_Sheet_rows := c.def_ 17 (d := d_C_Sheet_rows) rfl
  d_sheet_text := c.def_ 18 (d := d_sheet_text) rfl
  d_C_Sheet_fill := c.def_ 19 (d := d_C_Sheet_fill) rfl
  d_C_Sheet___init__ := c.def_ 20 (d := d_C_Sheet___init__) rfl
  d_C_Sheet_of := c.def_ 21 (d := d_C_Sheet_of) rfl
  d__law_refused := c.def_ 22 (d := d__law_refused) rfl
  d_law := c.def_ 23 (d := d_law) rfl
  d_C_InvalidRow___init__ := c.def_ 24 (d := d_C_InvalidRow___init__) rfl
  d_C_InvalidNeeds___init__ := c.def_ 25 (d := d_C_InvalidNeeds___init__) rfl
  d_C_HasRing___init__ := c.def_ 26 (d := d_C_HasRing___init__) rfl
  g__law_pen := He.glo_ok X G (c.fact 0 (f := .fa (.glo "_law_pen")) rfl)
  g__law_draw := He.glo_ok X G (c.fact 1 (f := .fa (.glo "_law_draw")) rfl)
  g__law_names := He.glo_ok X G (c.fact 2 (f := .fa (.glo "_law_names")) rfl)
  g__law_shuffled := He.glo_ok X G (c.fact 3 (f := .fa (.glo "_law_shuffled")) rfl)
  g__law_tangle := He.glo_ok X G (c.fact 4 (f := .fa (.glo "_law_tangle")) rfl)
  g_unfinished := He.glo_ok X G (c.fact 5 (f := .fa (.glo "unfinished")) rfl)
  g_ring_in := He.glo_ok X G (c.fact 6 (f := .fa (.glo "ring_in")) rfl)
  g__law_has_ring := He.glo_ok X G (c.fact 7 (f := .fa (.glo "_law_has_ring")) rfl)
  g__law_is_ring := He.glo_ok X G (c.fact 8 (f := .fa (.glo "_law_is_ring")) rfl)
  g_is_ring := He.glo_ok X G (c.fact 9 (f := .fa (.glo "is_ring")) rfl)
  g_is_name := He.glo_ok X G (c.fact 10 (f := .fa (.glo "is_name")) rfl)
  g_first_wrong := He.glo_ok X G (c.fact 11 (f := .fa (.glo "first_wrong")) rfl)
  g_need_rows := He.glo_ok X G (c.fact 12 (f := .fa (.glo "need_rows")) rfl)
  g_are_needs := He.glo_ok X G (c.fact 13 (f := .fa (.glo "are_needs")) rfl)
  g_need_needs := He.glo_ok X G (c.fact 14 (f := .fa (.glo "need_needs")) rfl)
  t_C_Sheet_needs := M.propB_ok (c.fact 15 (f := .prop "Sheet" "needs") rfl)
  g_row_text := He.glo_ok X G (c.fact 16 (f := .fa (.glo "row_text")) rfl)
  t_C_Sheet_rows := M.propB_ok (c.fact 17 (f := .prop "Sheet" "rows") rfl)
  g_sheet_text := He.glo_ok X G (c.fact 18 (f := .fa (.glo "sheet_text")) rfl)
  t_C_Sheet_fill := He.meth_ok (c.fact 19 (f := .fa (.meth "Sheet" "fill")) rfl)
  t_C_Sheet___init__ := He.mkr_ok (c.fact 20 (f := .fa (.mkr "Sheet")) rfl)
  t_C_Sheet_of := M.cmetB_ok (c.fact 21 (f := .cmet "Sheet" "of") rfl)
  g__law_refused := He.glo_ok X G (c.fact 22 (f := .fa (.glo "_law_refused")) rfl)
  g_law := He.glo_ok X G (c.fact 23 (f := .fa (.glo "law")) rfl)
  gc_Sheet := He.glo_ok X G (c.fact 24 (f := .fa (.glo "Sheet")) rfl)
  cl_Sheet := He.cls_ok (c.fact 25 (f := .fa (.cls "Sheet")) rfl)
  cr_Sheet := M.creadB_ok (c.fact 26 (f := .cread "Sheet") rfl)
  na_Sheet_direct := He.noat_ok (c.fact 27 (f := .fa (.noat "Sheet" "direct")) rfl)
  na_Sheet_names := He.noat_ok (c.fact 28 (f := .fa (.noat "Sheet" "names")) rfl)
  na_Sheet_order := He.noat_ok (c.fact 29 (f := .fa (.noat "Sheet" "order")) rfl)
  na_Sheet_shown := He.noat_ok (c.fact 30 (f := .fa (.noat "Sheet" "shown")) rfl)
  gc_InvalidRow := He.glo_ok X G (c.fact 31 (f := .fa (.glo "InvalidRow")) rfl)
  gc_InvalidNeeds := He.glo_ok X G (c.fact 32 (f := .fa (.glo "InvalidNeeds")) rfl)
  gc_HasRing := He.glo_ok X G (c.fact 33 (f := .fa (.glo "HasRing")) rfl)
  gc_PassError := He.glo_ok X G (c.fact 34 (f := .fa (.glo "PassError")) rfl)
  ex_InvalidRow := M.exkB_ok (c.fact 35 (f := .exk "InvalidRow") rfl)
  xi_InvalidRow := M.iniB_ok (c.fact 36 (f := .ini "InvalidRow") rfl)
  ex_InvalidNeeds := M.exkB_ok (c.fact 37 (f := .exk "InvalidNeeds") rfl)
  xi_InvalidNeeds := M.iniB_ok (c.fact 38 (f := .ini "InvalidNeeds") rfl)
  ex_HasRing := M.exkB_ok (c.fact 39 (f := .exk "HasRing") rfl)
  xi_HasRing := M.iniB_ok (c.fact 40 (f := .ini "HasRing") rfl)
  xn_InvalidRow_index := He.eqO_ok (c.fact 41 (f := .xno "InvalidRow" "index") rfl)
  xn_InvalidNeeds_name := He.eqO_ok (c.fact 42 (f := .xno "InvalidNeeds" "name") rfl)
  xn_HasRing_ring := He.eqO_ok (c.fact 43 (f := .xno "HasRing" "ring") rfl)
  xm_HasRing_PassError := of_decide_eq_true (c.fact 44 (f := .exm "HasRing" "PassError" true) rfl)
  xm_InvalidNeeds_PassError := of_decide_eq_true (c.fact 45 (f := .exm "InvalidNeeds" "PassError" true) rfl)
  xm_InvalidRow_PassError := of_decide_eq_true (c.fact 46 (f := .exm "InvalidRow" "PassError" true) rfl)
  xk_InvalidRow_HasRing := of_decide_eq_true (c.fact 47 (f := .kit "InvalidRow" "HasRing" false) rfl)
  xk_InvalidNeeds_HasRing := of_decide_eq_true (c.fact 48 (f := .kit "InvalidNeeds" "HasRing" false) rfl)
  xk_HasRing_HasRing := of_decide_eq_true (c.fact 49 (f := .kit "HasRing" "HasRing" true) rfl)
  xt_InvalidRow_ValueError := of_decide_eq_true (c.fact 50 (f := .kitT "InvalidRow" "ValueError" true) rfl)
  xt_InvalidNeeds_ValueError := of_decide_eq_true (c.fact 51 (f := .kitT "InvalidNeeds" "ValueError" true) rfl)
  xt_HasRing_ValueError := of_decide_eq_true (c.fact 52 (f := .kitT "HasRing" "ValueError" true) rfl)
  b_ValueError := He.free_ok X G (c.fact 53 (f := .fa (.free "ValueError")) rfl)
  b_abs := He.free_ok X G (c.fact 54 (f := .fa (.free "abs")) rfl)
  b_all := He.free_ok X G (c.fact 55 (f := .fa (.free "all")) rfl)
  b_any := He.free_ok X G (c.fact 56 (f := .fa (.free "any")) rfl)
  b_dict := He.free_ok X G (c.fact 57 (f := .fa (.free "dict")) rfl)
  b_enumerate := He.free_ok X G (c.fact 58 (f := .fa (.free "enumerate")) rfl)
  b_int := He.free_ok X G (c.fact 59 (f := .fa (.free "int")) rfl)
  b_isinstance := He.free_ok X G (c.fact 60 (f := .fa (.free "isinstance")) rfl)
  b_len := He.free_ok X G (c.fact 61 (f := .fa (.free "len")) rfl)
  b_list := He.free_ok X G (c.fact 62 (f := .fa (.free "list")) rfl)
  b_range := He.free_ok X G (c.fact 63 (f := .fa (.free "range")) rfl)
  b_repr := He.free_ok X G (c.fact 64 (f := .fa (.free "repr")) rfl)
  b_set := He.free_ok X G (c.fact 65 (f := .fa (.free "set")) rfl)
  b_sorted := He.free_ok X G (c.fact 66 (f := .fa (.free "sorted")) rfl)
  b_str := He.free_ok X G (c.fact 67 (f := .fa (.free "str")) rfl)
  b_tuple := He.free_ok X G (c.fact 68 (f := .fa (.free "tuple")) rfl)
  b_zip := He.free_ok X G (c.fact 69 (f := .fa (.free "zip")) rfl)
  c_LETTERS := He.str_ok X G (c.fact 70 (f := .fa (.str "LETTERS" "abcdefghijklmnopqrstuvwxyz")) rfl)
  c_LIMIT := He.int_ok X G (c.fact 71 (f := .fa (.int "LIMIT" 60)) rfl)
  c_LONGEST_NAME := He.int_ok X G (c.fact 72 (f := .fa (.int "LONGEST_NAME" 8)) rfl)
end K10
open PySem PySem.W PySem.Calls PyProof.Rows
theorem PySem.Challenge.cw_passwidth_k10_rings_found_holds : PySem.Challenge.rw_passwidth_k10_rings_found.Holds := by
  w_on; o_law
  refine HandSHeadRun.head_any (r := OpenLaw.row PySem.Challenge.rw_passwidth_k10_rings_found) (q := view (OpenLaw.row PySem.Challenge.rw_passwidth_k10_rings_found).prog [43]) (H := K10.hk) (ob := K10.ob) (M := 5000) (loose := K10.loose) (d := HandSHeadRun.topDef (OpenLaw.row PySem.Challenge.rw_passwidth_k10_rings_found).prog 43) (kwd := []) K10.ob_eq
    (by kernel_rfl) (fun s => by kernel_rfl) K10.run (by kernel_rfl) (by kernel_rfl) (by kernel_rfl) (by rfl) (by first | assumption | decide +kernel) (by decide +kernel) ⟨rfl, rfl, rfl, rfl, rfl, by decide +kernel⟩ ?hw ?hc
  case hw => w_witness2
  case hc =>
    refine M.walk_end (l := PySem.Challenge.rw_passwidth_k10_rings_found) (n := 63) (k := 12) (x := "_law_script") rfl (by decide) (by kernel_rfl) M.roomG_top ?F
    intro w mg fa h Y G hmg0
    obtain ⟨K, KX, c⟩ := Y
    have hmg : mg ("law" : PySem.Str) = some (.ref fa) := by
      have e : (HandSHeadRun.topDef (OpenLaw.row PySem.Challenge.rw_passwidth_k10_rings_found).prog 43).name = ("law" : PySem.Str) := by kernel_rfl
      rw [← e]
      exact hmg0
    have T := K10.txt KX G c
    obtain ⟨fd, F⟩ := T.d_law
    have hm := T.g_law
    have ef := hmg.symm.trans hm
    cases ef
    refine ⟨K, M.cmK K, fd, K10.g_law, KX, fun s v => L2.FunD.bindsA (ps := ["_law_script"]) F (fun _ _ _ _ _ _ us hl => match us, hl with | [_], _ => rfl) s [v] rfl, K10.holds, fun base _ _ => ?_⟩
    exact K10.law_fn T hm F
