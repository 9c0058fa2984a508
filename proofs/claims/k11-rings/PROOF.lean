import PyProof.Rows.All
import Wide.All
import OpenK.AllK
import Wide.FinOn
import HandS.ForMost
import HandS.Exc
import HandS.ExcOwn
import HandS.WordsExc
import HandS.IsInst
import HandS.Deep
import HandS.Style
import HandS.Text
import HandS.TupAny
import HandS.RaiseMore
import HandS.WordsDict
import HandS.TupLen
import HandS.More
import HandS.SetFor
import HandS.Strs
import HandS.Zip
import HandS.Star
import HandS.Ends
import HandS.Comp
import HandS.Defaults
import HandS.HeadHook1
import HandS.HeadHook2
import HandS.Head0
import HandS.Head1
import HandS.Head2
import PyProof.FitsInt
import PyProof.StrLawsRepr
import PySem.Challenge.RW_passwidth_k11_what_is_a_ring
set_option Elab.async false
set_option linter.all false
set_option autoImplicit false
set_option maxRecDepth 100000
set_option maxHeartbeats 4000000
/-! MP1: values without addresses, what stands for them in the abstract heap, the relation between slots. -/
namespace M
open PySem L2

inductive Val where
  | non | bl (b : Bool) | int (i : Int) | str (s : Str)
  | tup (xs : List Val) | lst (xs : List Val) | dct (t : Bool) (kvs : List (Val × Val))
  | obj (c : Str) (fs : List (Str × Val))
  | ty (n : String) | cls (c : Str)
  /-- the law's script -/
  | scr (ns : List Int)

/-- the world: the written part, the own classes -/
structure Wd where
  K : PySem.W.Frag
  CM : Str → Option Addr

def kv : Key → Val
  | .inl i => .int i
  | .inr s => .str s

def kb : Key → Prop
  | .inl _ => True
  | .inr s => s.length ≤ sizeLine

mutual
/-- a frozen value: x stands for v in the heap G, which never changes -/
def Rep (A : Wd) (G : Hp) : Val → V → Prop
  | .non, x => x = .non
  | .bl b, x => x = .bl b
  | .int i, x => x = .int i
  | .str s, x => x = .str s ∧ s.length ≤ sizeLine
  | .tup ds, x => ∃ a xs, x = .ref a ∧ SqT A.K G a xs ∧ Reps A G ds xs
  | .lst ds, x => ∃ a xs, x = .ref a ∧ G a = some (.lst xs) ∧ Reps A G ds xs
  | .dct t ds, x => ∃ a, x = .ref a ∧ ((t = false ∧ ∃ kvs o, G a = some (.frz o (.dK kvs)) ∧ RepK A G ds kvs) ∨ (t = true ∧ ∃ kvs o, G a = some (.frz o (.dT kvs)) ∧ RepT A G ds kvs))
  | .obj c fs, x => ∃ a C dx xs, x = .ref a ∧ G a = some (.ins C dx xs) ∧ A.CM c = some C ∧ RepF A G fs xs
  | .ty n, x => x = .ty n
  | .cls c, x => ∃ C, A.CM c = some C ∧ x = .ref C
  | .scr ns, x => ∃ a, x = .ref a ∧ SqL A.K G a (ns.map V.int)
def Reps (A : Wd) (G : Hp) : List Val → List V → Prop
  | [], xs => xs = []
  | d :: ds, xs => ∃ y ys, xs = y :: ys ∧ Rep A G d y ∧ Reps A G ds ys
def RepK (A : Wd) (G : Hp) : List (Val × Val) → List (Key × V) → Prop
  | [], xs => xs = []
  | (k, d) :: ds, xs => ∃ q y ys, xs = (q, y) :: ys ∧ (k = kv q ∧ kb q) ∧ Rep A G d y ∧ RepK A G ds ys
def RepT (A : Wd) (G : Hp) : List (Val × Val) → List (List Key × V) → Prop
  | [], xs => xs = []
  | (k, d) :: ds, xs => ∃ q y ys, xs = (q, y) :: ys ∧ (k = .tup (q.map kv) ∧ ∀ x ∈ q, kb x) ∧ Rep A G d y ∧ RepT A G ds ys
def RepF (A : Wd) (G : Hp) : List (Str × Val) → List (Str × V) → Prop
  | [], xs => xs = []
  | (k, d) :: ds, xs => ∃ y ys, xs = (k, y) :: ys ∧ Rep A G d y ∧ RepF A G ds ys
end

/-- G' knows at least what G knows -/
def Le (G G' : Hp) : Prop := ∀ a o, G a = some o → G' a = some o
theorem Le.refl (G : Hp) : Le G G := fun _ _ h => h
theorem Le.trans {G G1 G2 : Hp} (a : Le G G1) (b : Le G1 G2) : Le G G2 := fun x o h => b x o (a x o h)
theorem Le.back {G G' : Hp} (h : Le G G') {a : Addr} (e : G' a = none) : G a = none := by
  cases q : G a with
  | none => rfl
  | some o => rw [h a o q] at e; cases e
theorem Le.new {G : Hp} {p : Addr} {o : HO} (h : G p = none) : Le G (upd G p o) := fun a u e => by
  rw [upd_ne (ne_of_none e h)]; exact e
theorem Le.upd2 {G H : Hp} {p : Addr} {o : HO} (h : Le G H) : Le (upd G p o) (upd H p o) := fun a u e => by
  by_cases q : a = p
  · subst q; rw [upd_same] at e ⊢; exact e
  · rw [upd_ne q] at e ⊢; exact h a u e
theorem Le.updR {G H : Hp} {p : Addr} {o : HO} (h : Le G H) (n : G p = none) : Le G (upd H p o) := fun a u e => by
  rw [upd_ne (ne_of_none e n)]; exact h a u e
theorem rd_mono {G G' : Hp} (h : Le G G') {a : Addr} {u : HO} (r : Rd G a u) : Rd G' a u := by
  rcases r with r | ⟨o, r⟩
  · exact .inl (h _ _ r)
  · exact .inr ⟨o, h _ _ r⟩
theorem sql_mono {K : PySem.W.Frag} {G G' : Hp} (h : Le G G') {a : Addr} {xs : List V} (r : SqL K G a xs) : SqL K G' a xs := r.elim (fun r => .inl (rd_mono h r)) .inr
theorem sqt_mono {K : PySem.W.Frag} {G G' : Hp} (h : Le G G') {a : Addr} {xs : List V} (r : SqT K G a xs) : SqT K G' a xs := r.elim (fun r => .inl (rd_mono h r)) .inr

section
variable {A : Wd} {G G' H H' : Hp}
mutual
theorem Rep.mono (h : Le G G') : ∀ {v : Val} {x : V}, Rep A G v x → Rep A G' v x
  | .non, _, r => by rw [Rep] at r ⊢; exact r
  | .bl _, _, r => by rw [Rep] at r ⊢; exact r
  | .int _, _, r => by rw [Rep] at r ⊢; exact r
  | .str _, _, r => by rw [Rep] at r ⊢; exact r
  | .tup ds, _, r => by
    rw [Rep] at r ⊢; obtain ⟨a, xs, e, q, r⟩ := r
    exact ⟨a, xs, e, sqt_mono h q, Reps.mono h r⟩
  | .lst ds, _, r => by
    rw [Rep] at r ⊢; obtain ⟨a, xs, e, q, r⟩ := r
    exact ⟨a, xs, e, h _ _ q, Reps.mono h r⟩
  | .dct t ds, _, r => by
    rw [Rep] at r ⊢; obtain ⟨a, e, ⟨ht, kvs, o, q, r⟩ | ⟨ht, kvs, o, q, r⟩⟩ := r
    · exact ⟨a, e, .inl ⟨ht, kvs, o, h _ _ q, RepK.mono h r⟩⟩
    · exact ⟨a, e, .inr ⟨ht, kvs, o, h _ _ q, RepT.mono h r⟩⟩
  | .obj c fs, _, r => by
    rw [Rep] at r ⊢; obtain ⟨a, C, dx, xs, e, q, m, r⟩ := r
    exact ⟨a, C, dx, xs, e, h _ _ q, m, RepF.mono h r⟩
  | .ty _, _, r => by rw [Rep] at r ⊢; exact r
  | .cls _, _, r => by rw [Rep] at r ⊢; exact r
  | .scr _, _, r => by
    rw [Rep] at r ⊢; obtain ⟨a, e, q⟩ := r
    exact ⟨a, e, sql_mono h q⟩
theorem Reps.mono (h : Le G G') : ∀ {ds : List Val} {xs : List V}, Reps A G ds xs → Reps A G' ds xs
  | [], _, r => by rw [Reps] at r ⊢; exact r
  | d :: ds, _, r => by
    rw [Reps] at r ⊢; obtain ⟨y, ys, e, r1, r2⟩ := r
    exact ⟨y, ys, e, Rep.mono h r1, Reps.mono h r2⟩
theorem RepK.mono (h : Le G G') : ∀ {ds : List (Val × Val)} {xs : List (Key × V)}, RepK A G ds xs → RepK A G' ds xs
  | [], _, r => by rw [RepK] at r ⊢; exact r
  | (k, d) :: ds, _, r => by
    rw [RepK] at r ⊢; obtain ⟨q, y, ys, e, e2, r1, r2⟩ := r
    exact ⟨q, y, ys, e, e2, Rep.mono h r1, RepK.mono h r2⟩
theorem RepT.mono (h : Le G G') : ∀ {ds : List (Val × Val)} {xs : List (List Key × V)}, RepT A G ds xs → RepT A G' ds xs
  | [], _, r => by rw [RepT] at r ⊢; exact r
  | (k, d) :: ds, _, r => by
    rw [RepT] at r ⊢; obtain ⟨q, y, ys, e, e2, r1, r2⟩ := r
    exact ⟨q, y, ys, e, e2, Rep.mono h r1, RepT.mono h r2⟩
theorem RepF.mono (h : Le G G') : ∀ {ds : List (Str × Val)} {xs : List (Str × V)}, RepF A G ds xs → RepF A G' ds xs
  | [], _, r => by rw [RepF] at r ⊢; exact r
  | (k, d) :: ds, _, r => by
    rw [RepF] at r ⊢; obtain ⟨y, ys, e, r1, r2⟩ := r
    exact ⟨y, ys, e, Rep.mono h r1, RepF.mono h r2⟩
end

theorem reps_nil {xs : List V} : Reps A G [] xs ↔ xs = [] := by rw [Reps]
theorem reps_cons {d : Val} {ds : List Val} {xs : List V} : Reps A G (d :: ds) xs ↔ ∃ y ys, xs = y :: ys ∧ Rep A G d y ∧ Reps A G ds ys := by rw [Reps]
theorem reps_one {d : Val} {x : V} (r : Rep A G d x) : Reps A G [d] [x] := reps_cons.mpr ⟨_, _, rfl, r, reps_nil.mpr rfl⟩
theorem reps_length : ∀ {ds : List Val} {xs : List V}, Reps A G ds xs → ds.length = xs.length
  | [], _, r => by rw [reps_nil] at r; subst r; rfl
  | d :: ds, _, r => by
    rw [reps_cons] at r; obtain ⟨y, ys, e, r1, r2⟩ := r
    subst e; simp [reps_length r2]
theorem reps_get : ∀ {ds : List Val} {xs : List V} {i : Nat} {d : Val}, Reps A G ds xs → ds[i]? = some d → ∃ x, xs[i]? = some x ∧ Rep A G d x
  | [], _, _, _, r, e => by simp at e
  | d :: ds, _, 0, _, r, e => by
    rw [reps_cons] at r; obtain ⟨y, ys, e1, r1, r2⟩ := r
    subst e1; simp at e; subst e; exact ⟨y, rfl, r1⟩
  | d :: ds, _, i + 1, _, r, e => by
    rw [reps_cons] at r; obtain ⟨y, ys, e1, r1, r2⟩ := r
    subst e1; simp at e; obtain ⟨x, h1, h2⟩ := reps_get r2 e
    exact ⟨x, by simpa using h1, h2⟩
theorem reps_get' : ∀ {ds : List Val} {xs : List V} {i : Nat} {x : V}, Reps A G ds xs → xs[i]? = some x → ∃ d, ds[i]? = some d ∧ Rep A G d x
  | [], _, _, _, r, e => by rw [reps_nil] at r; subst r; simp at e
  | d :: ds, _, 0, _, r, e => by
    rw [reps_cons] at r; obtain ⟨y, ys, e1, r1, r2⟩ := r
    subst e1; simp at e; subst e; exact ⟨d, rfl, r1⟩
  | d :: ds, _, i + 1, _, r, e => by
    rw [reps_cons] at r; obtain ⟨y, ys, e1, r1, r2⟩ := r
    subst e1; simp at e; obtain ⟨x, h1, h2⟩ := reps_get' r2 e
    exact ⟨x, by simpa using h1, h2⟩
theorem reps_append : ∀ {ds es : List Val} {xs ys : List V}, Reps A G ds xs → Reps A G es ys → Reps A G (ds ++ es) (xs ++ ys)
  | [], _, _, _, r, q => by rw [reps_nil] at r; subst r; simpa using q
  | d :: ds, es, _, ys, r, q => by
    rw [reps_cons] at r; obtain ⟨y, zs, e1, r1, r2⟩ := r
    subst e1; exact reps_cons.mpr ⟨_, _, rfl, r1, reps_append r2 q⟩
theorem reps_take : ∀ {ds : List Val} {xs : List V} (n : Nat), Reps A G ds xs → Reps A G (ds.take n) (xs.take n)
  | _, _, 0, _ => by simpa using reps_nil.mpr rfl
  | [], _, n + 1, r => by rw [reps_nil] at r; subst r; simpa using reps_nil.mpr rfl
  | d :: ds, _, n + 1, r => by
    rw [reps_cons] at r; obtain ⟨y, ys, e1, r1, r2⟩ := r
    subst e1; exact reps_cons.mpr ⟨_, _, rfl, r1, reps_take n r2⟩
theorem reps_drop : ∀ {ds : List Val} {xs : List V} (n : Nat), Reps A G ds xs → Reps A G (ds.drop n) (xs.drop n)
  | _, _, 0, r => by simpa using r
  | [], _, n + 1, r => by rw [reps_nil] at r; subst r; simpa using reps_nil.mpr rfl
  | d :: ds, _, n + 1, r => by
    rw [reps_cons] at r; obtain ⟨y, ys, e1, r1, r2⟩ := r
    subst e1; exact reps_drop n r2
theorem reps_set {d : Val} {x : V} (q : Rep A G d x) : ∀ {ds : List Val} {xs : List V} (i : Nat), Reps A G ds xs → Reps A G (ds.set i d) (xs.set i x)
  | [], _, _, r => by rw [reps_nil] at r; subst r; simpa using reps_nil.mpr rfl
  | e :: ds, _, 0, r => by
    rw [reps_cons] at r; obtain ⟨y, ys, e1, r1, r2⟩ := r
    subst e1; exact reps_cons.mpr ⟨_, _, rfl, q, r2⟩
  | e :: ds, _, i + 1, r => by
    rw [reps_cons] at r; obtain ⟨y, ys, e1, r1, r2⟩ := r
    subst e1; exact reps_cons.mpr ⟨_, _, rfl, r1, reps_set q i r2⟩
theorem reps_erase : ∀ {ds : List Val} {xs : List V} (i : Nat), Reps A G ds xs → Reps A G (ds.eraseIdx i) (xs.eraseIdx i)
  | [], _, _, r => by rw [reps_nil] at r; subst r; simpa using reps_nil.mpr rfl
  | e :: ds, _, 0, r => by
    rw [reps_cons] at r; obtain ⟨y, ys, e1, r1, r2⟩ := r
    subst e1; simpa using r2
  | e :: ds, _, i + 1, r => by
    rw [reps_cons] at r; obtain ⟨y, ys, e1, r1, r2⟩ := r
    subst e1; exact reps_cons.mpr ⟨_, _, rfl, r1, reps_erase i r2⟩
theorem reps_reverse : ∀ {ds : List Val} {xs : List V}, Reps A G ds xs → Reps A G ds.reverse xs.reverse
  | [], _, r => by rw [reps_nil] at r; subst r; simpa using reps_nil.mpr rfl
  | e :: ds, _, r => by
    rw [reps_cons] at r; obtain ⟨y, ys, e1, r1, r2⟩ := r
    subst e1; rw [List.reverse_cons, List.reverse_cons]; exact reps_append (reps_reverse r2) (reps_one r1)
theorem reps_strs : ∀ {ss : List Str} {xs : List V}, Reps A G (ss.map Val.str) xs → xs = ss.map V.str
  | [], _, r => by rw [List.map_nil, reps_nil] at r; subst r; rfl
  | s :: ss, _, r => by
    rw [List.map_cons, reps_cons] at r; obtain ⟨y, ys, e, r1, r2⟩ := r
    rw [Rep] at r1; subst e; rw [r1.1, reps_strs r2]; rfl
theorem reps_ints : ∀ {ns : List Int} {xs : List V}, Reps A G (ns.map Val.int) xs → xs = ns.map V.int
  | [], _, r => by rw [List.map_nil, reps_nil] at r; subst r; rfl
  | s :: ss, _, r => by
    rw [List.map_cons, reps_cons] at r; obtain ⟨y, ys, e, r1, r2⟩ := r
    rw [Rep] at r1; subst e; rw [r1, reps_ints r2]; rfl
theorem reps_of_ints : ∀ {ns : List Int}, Reps A G (ns.map Val.int) (ns.map V.int)
  | [] => reps_nil.mpr rfl
  | n :: ns => reps_cons.mpr ⟨_, _, rfl, by rw [Rep], reps_of_ints⟩
theorem reps_bls : ∀ {ns : List Bool} {xs : List V}, Reps A G (ns.map Val.bl) xs → xs = ns.map V.bl
  | [], _, r => by rw [List.map_nil, reps_nil] at r; subst r; rfl
  | s :: ss, _, r => by
    rw [List.map_cons, reps_cons] at r; obtain ⟨y, ys, e, r1, r2⟩ := r
    rw [Rep] at r1; subst e; rw [r1, reps_bls r2]; rfl
theorem rep_non {x : V} : Rep A G .non x ↔ x = .non := by rw [Rep]
theorem rep_bl {b : Bool} {x : V} : Rep A G (.bl b) x ↔ x = .bl b := by rw [Rep]
theorem rep_int {i : Int} {x : V} : Rep A G (.int i) x ↔ x = .int i := by rw [Rep]
theorem rep_str {s : Str} {x : V} : Rep A G (.str s) x ↔ x = .str s ∧ s.length ≤ sizeLine := by rw [Rep]
theorem rep_ty {s : String} {x : V} : Rep A G (.ty s) x ↔ x = .ty s := by rw [Rep]
theorem rep_tup {ds : List Val} {x : V} : Rep A G (.tup ds) x ↔ ∃ a xs, x = .ref a ∧ SqT A.K G a xs ∧ Reps A G ds xs := by rw [Rep]
theorem rep_lst {ds : List Val} {x : V} : Rep A G (.lst ds) x ↔ ∃ a xs, x = .ref a ∧ G a = some (.lst xs) ∧ Reps A G ds xs := by rw [Rep]
end

/-- a container that may be changed in place: it stands at a in H, what is in it is frozen -/
def Root (A : Wd) (G H : Hp) (v : Val) (a : Addr) : Prop := match v with
  | .lst ds => ∃ xs, H a = some (.lst xs) ∧ Reps A G ds xs
  | .dct t ds => (t = false ∧ ∃ kvs, H a = some (.dK kvs) ∧ RepK A G ds kvs) ∨ (t = true ∧ ∃ kvs, H a = some (.dT kvs) ∧ RepT A G ds kvs)
  | .obj c fs => ∃ C dx xs, H a = some (.ins C dx xs) ∧ A.CM c = some C ∧ RepF A G fs xs
  | _ => False
theorem Root.has {A : Wd} {G H : Hp} {v : Val} {a : Addr} (r : Root A G H v a) : ∃ o, H a = some o ∧ Mut (some o) := by
  cases v with
  | lst ds => obtain ⟨xs, e, _⟩ := r; exact ⟨_, e, True.intro⟩
  | dct t ds => obtain ⟨_, xs, e, _⟩ | ⟨_, xs, e, _⟩ := r <;> exact ⟨_, e, True.intro⟩
  | obj c fs => obtain ⟨C, dx, xs, e, _⟩ := r; exact ⟨_, e, True.intro⟩
  | _ => exact r.elim
theorem Root.mono {A : Wd} {G H G' H' : Hp} {v : Val} {a : Addr} (r : Root A G H v a) (h : Le G G') (e : ∀ o, H a = some o → H' a = some o) : Root A G' H' v a := by
  cases v with
  | lst ds => obtain ⟨xs, q, r⟩ := r; exact ⟨xs, e _ q, r.mono h⟩
  | dct t ds =>
    obtain ⟨ht, xs, q, r⟩ | ⟨ht, xs, q, r⟩ := r
    · exact .inl ⟨ht, xs, e _ q, r.mono h⟩
    · exact .inr ⟨ht, xs, e _ q, r.mono h⟩
  | obj c fs => obtain ⟨C, dx, xs, q, m, r⟩ := r; exact ⟨C, dx, xs, e _ q, m, r.mono h⟩
  | _ => exact r.elim

/-- slots: none unknown; some (own, v) -/
abbrev Slot := Option (Bool × Val)
abbrev Env := List Slot

/-- what is fixed through a def's run: the entry's frozen heap, the entry's heap, the containers that were lent to it, the parameters that stay -/
structure Act where
  w : Wd
  G0 : Hp
  H0 : Hp
  L : Addr → Prop
  io : List Nat
  x0 : Nat → Option V

/-- the roots that slots own -/
def Rt (r : Env) (σ : L2.St) (a : Addr) : Prop := ∃ (i : Nat) (v : Val), r[i]? = some (some (true, v)) ∧ σ[i]? = some (some (.ref a))

structure Ok (A : Act) (G H : Hp) (σ : L2.St) (r : Env) : Prop where
  ex0 : Le A.G0 G
  gr0 : ∀ a, G a ≠ none → A.G0 a ≠ none ∨ A.H0 a = none ∨ A.L a
  fr0 : ∀ a o, A.H0 a = some o → ¬ A.L a → H a = some o
  sub : Le G H
  len : σ.length = r.length
  fz : ∀ (i : Nat) (v : Val), r[i]? = some (some (false, v)) → ∃ x, σ[i]? = some (some x) ∧ Rep A.w G v x
  ow : ∀ (i : Nat) (v : Val), r[i]? = some (some (true, v)) → ∃ a, σ[i]? = some (some (.ref a)) ∧ Root A.w G H v a ∧ G a = none ∧ (A.L a ∨ A.H0 a = none)
  sep : ∀ (i j : Nat) (v w : Val) (a : Addr), r[i]? = some (some (true, v)) → r[j]? = some (some (true, w)) → σ[i]? = some (some (.ref a)) → σ[j]? = some (some (.ref a)) → i = j
  fx : ∀ i ∈ A.io, σ[i]? = some (A.x0 i)

/-- what an expression does to the state -/
structure Step (σ : L2.St) (r : Env) (G H : Hp) (r' : Env) (G' H' : Hp) : Prop where
  ex : Le G G'
  keep : ∀ a o, H a = some o → ¬ Rt r σ a → H' a = some o
  grow : ∀ a, G a = none → G' a ≠ none → H a = none ∨ Rt r σ a
  rts : ∀ a, Rt r' σ a → Rt r σ a
theorem Step.refl {σ : L2.St} {r : Env} {G H : Hp} : Step σ r G H r G H := ⟨Le.refl _, fun _ _ h _ => h, fun _ h h' => absurd h h', fun _ h => h⟩
theorem Step.trans {σ : L2.St} {r r1 r2 : Env} {G H G1 H1 G2 H2 : Hp} (a : Step σ r G H r1 G1 H1) (b : Step σ r1 G1 H1 r2 G2 H2) : Step σ r G H r2 G2 H2 where
  ex := a.ex.trans b.ex
  keep := fun x o h n => b.keep x o (a.keep x o h n) fun z => n (a.rts x z)
  grow := fun x h h' => by
    by_cases q : G1 x = none
    · rcases b.grow x q h' with z | z
      · by_cases n : Rt r σ x
        · exact .inr n
        · refine .inl ?_
          cases e : H x with
          | none => rfl
          | some o => rw [a.keep x o e n] at z; cases z
      · exact .inr (a.rts x z)
    · exact a.grow x h q
  rts := fun x h => a.rts x (b.rts x h)

section
variable {A : Act} {G H G' H' : Hp} {σ : L2.St} {r r' : Env}
theorem Ok.rt {a : Addr} (k : Ok A G H σ r) (h : Rt r σ a) : (∃ o, H a = some o) ∧ G a = none ∧ (A.L a ∨ A.H0 a = none) := by
  obtain ⟨i, v, h1, h2⟩ := h
  obtain ⟨b, e, ro, n, l⟩ := k.ow i v h1
  rw [h2] at e; cases e
  obtain ⟨o, e, _⟩ := ro.has
  exact ⟨⟨o, e⟩, n, l⟩
theorem Ok.notRt {a : Addr} (k : Ok A G H σ r) (h : H a = none) : ¬ Rt r σ a := fun z => by
  obtain ⟨⟨o, e⟩, _⟩ := k.rt z
  rw [e] at h; cases h
theorem Ok.fresh {a : Addr} (k : Ok A G H σ r) (h : H a = none) : A.L a ∨ A.H0 a = none := by
  by_cases l : A.L a
  · exact .inl l
  · refine .inr ?_
    cases e : A.H0 a with
    | none => rfl
    | some o => rw [k.fr0 a o e l] at h; cases h
/-- an expression's state may grow: new objects alone -/
structure Grow (G H G' H' : Hp) : Prop where
  g : Le G G'
  h : Le H H'
  s : Le G' H'
  n : ∀ a, G a = none → G' a ≠ none → H a = none
theorem Grow.refl (s : Le G H) : Grow G H G H := ⟨Le.refl _, Le.refl _, s, fun _ h h' => absurd h h'⟩
theorem Grow.trans {G1 H1 G2 H2 : Hp} (a : Grow G H G1 H1) (b : Grow G1 H1 G2 H2) : Grow G H G2 H2 :=
  ⟨a.g.trans b.g, a.h.trans b.h, b.s, fun x h h' => by
    by_cases q : G1 x = none
    · exact a.h.back (b.n x q h')
    · exact a.n x h q⟩
theorem Grow.step (g : Grow G H G' H') : Step σ r G H r G' H' := ⟨g.g, fun a o h _ => g.h a o h, fun a h h' => .inl (g.n a h h'), fun _ h => h⟩
theorem Ok.grow (k : Ok A G H σ r) (g : Grow G H G' H') : Ok A G' H' σ r where
  ex0 := k.ex0.trans g.g
  gr0 := fun a h => by
    by_cases q : G a = none
    · rcases k.fresh (g.n a q h) with z | z
      · exact .inr (.inr z)
      · exact .inr (.inl z)
    · exact k.gr0 a q
  fr0 := fun a o h n => g.h _ _ (k.fr0 a o h n)
  sub := g.s
  len := k.len
  fz := fun i v h => let ⟨x, e, q⟩ := k.fz i v h; ⟨x, e, q.mono g.g⟩
  ow := fun i v h => by
    obtain ⟨a, e, q, n, l⟩ := k.ow i v h
    refine ⟨a, e, q.mono g.g (g.h a), ?_, l⟩
    cases z : G' a with
    | none => rfl
    | some o =>
      obtain ⟨o', e', _⟩ := q.has
      have := g.n a n (by rw [z]; simp)
      rw [e'] at this; cases this
  sep := k.sep
  fx := k.fx
/-- a new object, frozen at once -/
theorem Grow.laidG {p : Addr} {o : HO} (s : Le G H) (n : H p = none) : Grow G H (upd G p o) (upd H p o) :=
  ⟨Le.new (s.back n), Le.new n, s.upd2, fun a h h' => by
    by_cases q : a = p
    · subst q; exact n
    · rw [upd_ne q] at h'; exact absurd h h'⟩
/-- a new object, owned -/
theorem Grow.laidH {p : Addr} {o : HO} (s : Le G H) (n : H p = none) : Grow G H G (upd H p o) :=
  ⟨Le.refl _, Le.new n, s.updR (s.back n), fun a h h' => absurd h h'⟩
end

/-- the value of an expression: own, it is a container that nobody else holds -/
def TRep (A : Act) (G H : Hp) (σ : L2.St) (r : Env) (o : Bool) (v : Val) (x : V) : Prop := match o with
  | true => ∃ a, x = .ref a ∧ Root A.w G H v a ∧ G a = none ∧ ¬ Rt r σ a ∧ (A.L a ∨ A.H0 a = none)
  | false => Rep A.w G v x
/-- a value that can be read -/
def RRep (A : Wd) (G H : Hp) (v : Val) (x : V) : Prop := Rep A G v x ∨ ∃ a, x = .ref a ∧ Root A G H v a
/-- a new value -/
def NRep (A : Wd) (G H G' H' : Hp) (o : Bool) (v : Val) (x : V) : Prop := match o with
  | true => ∃ a, x = .ref a ∧ Root A G' H' v a ∧ G' a = none ∧ H a = none
  | false => Rep A G' v x

section
variable {A : Act} {G H G' H' : Hp} {σ : L2.St} {r r' : Env} {o : Bool} {v : Val} {x : V}
theorem TRep.step (t : TRep A G H σ r o v x) (st : Step σ r G H r' G' H') : TRep A G' H' σ r' o v x := by
  cases o with
  | true =>
    obtain ⟨a, e, ro, n, nr, l⟩ := t
    obtain ⟨u, hu, _⟩ := ro.has
    refine ⟨a, e, ro.mono st.ex fun o h => st.keep a o h nr, ?_, fun z => nr (st.rts a z), l⟩
    cases q : G' a with
    | none => rfl
    | some w =>
      rcases st.grow a n (by rw [q]; simp) with z | z
      · rw [hu] at z; cases z
      · exact absurd z nr
  | false => exact Rep.mono st.ex t
theorem TRep.rrep (t : TRep A G H σ r o v x) : RRep A.w G H v x := by
  cases o with
  | true => obtain ⟨a, e, ro, _⟩ := t; exact .inr ⟨a, e, ro⟩
  | false => exact .inl t
theorem NRep.trep (k : Ok A G H σ r) (t : NRep A.w G H G' H' o v x) : TRep A G' H' σ r o v x := by
  cases o with
  | true =>
    obtain ⟨a, e, ro, n, n2⟩ := t
    exact ⟨a, e, ro, n, k.notRt n2, k.fresh n2⟩
  | false => exact t
end
end M
/-! MP2: results, operands, primitive operations, calls, tests; the rules over HandS's judgements. -/
namespace M
open PySem L2

/-! ### what is wished of an exception -/
inductive ER where
  | ok (o : Bool) (v : Val) (r : Env) | ex (e : Val) (r : Env) | bad
inductive Hd where
  | tmp (o : Bool) (w : Val) | sl (i : Nat)
inductive OR where
  | ok (h : Hd) (r : Env) | ex (e : Val) (r : Env) | bad
inductive OsR where
  | ok (hs : List Hd) (r : Env) | ex (e : Val) (r : Env) | bad
inductive BR where
  | ok (b : Bool) (r : Env) | ex (e : Val) (r : Env) | bad
inductive SR where
  | nx (r : Env) | rt (o : Bool) (v : Val) (r : Env) | bk (r : Env) | ct (r : Env) | ex (e : Val) (r : Env) | bad
abbrev EF := Env → ER
abbrev OF := Env → OR
abbrev OsF := Env → OsR
abbrev BF := Env → BR
abbrev SF := Env → SR

def Hd.get (r : Env) : Hd → Option Val
  | .tmp _ w => some w
  | .sl i => match r[i]? with
    | some (some (_, v)) => some v
    | _ => none
def getAll (r : Env) : List Hd → Option (List Val)
  | [] => some []
  | h :: hs => match h.get r with
    | some v => match getAll r hs with
      | some vs => some (v :: vs)
      | none => none
    | none => none

/-- an exception on its way: W takes it -/
def ExP (A : Act) (W : WX) (G0 : Hp) (σ : L2.St) (e : Val) (r : Env) : Prop := match e with
  | .obj c fs => ∀ G H C dx xs, Ok A G H σ r → Le G0 G → A.w.CM c = some C → H dx = some (.xd xs) → RepF A.w G fs xs → W (.ref C) (some dx) σ H
  | _ => False

theorem ExP.mono {A : Act} {W : WX} {G0 G1 : Hp} {σ : L2.St} {e : Val} {r : Env} (le : Le G0 G1) (h : ExP A W G0 σ e r) : ExP A W G1 σ e r := by
  cases e with
  | obj c fs => exact fun G H C dx xs k l => h G H C dx xs k (le.trans l)
  | _ => exact h
def HRep (A : Act) (G H : Hp) (σ : L2.St) (r : Env) (h : Hd) (x : V) : Prop := match h with
  | .tmp o v => TRep A G H σ r o v x
  | .sl i => σ[i]? = some (some x)
def HReps (A : Act) (G H : Hp) (σ : L2.St) (r : Env) : List Hd → List V → Prop
  | [], xs => xs = []
  | h :: hs, xs => ∃ y ys, xs = y :: ys ∧ HRep A G H σ r h y ∧ HReps A G H σ r hs ys
def RReps (A : Wd) (G H : Hp) : List Val → List V → Prop
  | [], xs => xs = []
  | v :: vs, xs => ∃ y ys, xs = y :: ys ∧ RRep A G H v y ∧ RReps A G H vs ys

section
variable {A : Act} {G H G' H' : Hp} {σ : L2.St} {r r' : Env}
theorem HRep.step {h : Hd} {x : V} (t : HRep A G H σ r h x) (st : Step σ r G H r' G' H') : HRep A G' H' σ r' h x := by
  cases h with
  | tmp o v => exact TRep.step t st
  | sl i => exact t
theorem HReps.step : ∀ {hs : List Hd} {xs : List V}, HReps A G H σ r hs xs → Step σ r G H r' G' H' → HReps A G' H' σ r' hs xs
  | [], _, h, _ => h
  | _ :: _, _, ⟨y, ys, e, a, b⟩, st => ⟨y, ys, e, a.step st, b.step st⟩
theorem Ok.slot {i : Nat} {o : Bool} {v : Val} (k : Ok A G H σ r) (h : r[i]? = some (some (o, v))) : ∃ x, σ[i]? = some (some x) ∧ RRep A.w G H v x := by
  cases o with
  | true => obtain ⟨a, e, ro, _⟩ := k.ow i v h; exact ⟨_, e, .inr ⟨a, rfl, ro⟩⟩
  | false => obtain ⟨x, e, q⟩ := k.fz i v h; exact ⟨x, e, .inl q⟩
theorem HRep.get {h : Hd} {x : V} {v : Val} (k : Ok A G H σ r) (t : HRep A G H σ r h x) (e : h.get r = some v) : RRep A.w G H v x := by
  cases h with
  | tmp o w => simp only [Hd.get, Option.some.injEq] at e; subst e; exact TRep.rrep t
  | sl i =>
    simp only [Hd.get] at e
    split at e
    · rename_i o w q
      cases e
      obtain ⟨y, e1, e2⟩ := k.slot q
      have t' : σ[i]? = some (some x) := t
      rw [t'] at e1; cases e1; exact e2
    · cases e
theorem HReps.get (k : Ok A G H σ r) : ∀ {hs : List Hd} {xs : List V} {vs : List Val}, HReps A G H σ r hs xs → getAll r hs = some vs → RReps A.w G H vs xs
  | [], _, vs, h, e => by
    simp only [getAll, Option.some.injEq] at e; subst e; exact h
  | h :: hs, _, vs, ⟨y, ys, e1, a, b⟩, e => by
    simp only [getAll] at e
    split at e
    · rename_i v q
      split at e
      · rename_i ws q2
        cases e
        exact ⟨y, ys, e1, a.get k q, HReps.get k b q2⟩
      · cases e
    · cases e
end

/-! ### what HandS's judgements are told -/
/-- behind an expression: its value; what it owns is new (or was a slot's) -/
structure Res (A : Act) (σ : L2.St) (r : Env) (G H : Hp) (r' : Env) (G' H' : Hp) (o : Bool) (v : Val) (x : V) : Prop where
  ok : Ok A G' H' σ r'
  st : Step σ r G H r' G' H'
  tr : TRep A G' H' σ r' o v x
  fr : o = true → ∀ a, x = .ref a → H a = none ∨ Rt r σ a
theorem Step.fresh {σ : L2.St} {r r' : Env} {G H G' H' : Hp} (st : Step σ r G H r' G' H') {a : Addr} (h : H' a = none) : H a = none ∨ Rt r σ a := by
  by_cases n : Rt r σ a
  · exact .inr n
  · refine .inl ?_
    cases e : H a with
    | none => rfl
    | some o => rw [st.keep a o e n] at h; cases h
def tE (A : Act) (W : WX) (f : EF) : TE := fun σ H Q => ∃ r G, Ok A G H σ r ∧ match f r with
  | .ok o v r' => ∀ x G' H', Res A σ r G H r' G' H' o v x → Q x H'
  | .ex e r' => ExP A W G σ e r'
  | .bad => False
def tO (A : Act) (W : WX) (f : OF) : TE := fun σ H Q => ∃ r G, Ok A G H σ r ∧ match f r with
  | .ok h r' => ∀ x G' H', Ok A G' H' σ r' → Step σ r G H r' G' H' → HRep A G' H' σ r' h x → Q x H'
  | .ex e r' => ExP A W G σ e r'
  | .bad => False
def tOs (A : Act) (W : WX) (f : OsF) : TA := fun σ H Q => ∃ r G, Ok A G H σ r ∧ match f r with
  | .ok hs r' => ∀ xs G' H', Ok A G' H' σ r' → Step σ r G H r' G' H' → HReps A G' H' σ r' hs xs → Q xs H'
  | .ex e r' => ExP A W G σ e r'
  | .bad => False
def tBo (A : Act) (W : WX) (f : BF) : TT := fun σ H Q => ∃ r G, Ok A G H σ r ∧ match f r with
  | .ok b r' => ∀ G' H', Ok A G' H' σ r' → Step σ r G H r' G' H' → Q b H'
  | .ex e r' => ExP A W G σ e r'
  | .bad => False
/-- behind a statement: the slots may be others -/
def Fin (A : Act) (W : WX) (G : Hp) (D : Ends) : SR → Prop
  | .nx r' => ∀ σ' G' H', Ok A G' H' σ' r' → Le G G' → D.nx σ' H'
  | .rt o v r' => ∀ x σ' G' H', Ok A G' H' σ' r' → Le G G' → TRep A G' H' σ' r' o v x → D.rt x H'
  | .bk r' => ∀ σ' G' H', Ok A G' H' σ' r' → Le G G' → D.bk σ' H'
  | .ct r' => ∀ σ' G' H', Ok A G' H' σ' r' → Le G G' → D.ct σ' H'
  | .ex e r' => ∀ σ', ExP A W G σ' e r'
  | .bad => False
def tSt (A : Act) (W : WX) (f : SF) : TS := fun D σ H => ∃ r G, Ok A G H σ r ∧ Fin A W G D (f r)
theorem Fin.mono {A : Act} {W : WX} {G G1 : Hp} {D : Ends} {s : SR} (le : Le G G1) (h : Fin A W G D s) : Fin A W G1 D s := by
  cases s with
  | nx r => exact fun σ' G' H' k l => h σ' G' H' k (le.trans l)
  | rt o v r => exact fun x σ' G' H' k l => h x σ' G' H' k (le.trans l)
  | bk r => exact fun σ' G' H' k l => h σ' G' H' k (le.trans l)
  | ct r => exact fun σ' G' H' k l => h σ' G' H' k (le.trans l)
  | ex e r => exact fun σ' => (h σ').mono le
  | bad => exact h

theorem PE.imp {X : Cx} {e : Expr} {t t' : TE} (h : PE X e t) (hi : ∀ σ H Q, t' σ H Q → t σ H Q) : PE X e t' := ⟨fun pins s σ H Q I q => h.run pins s σ H Q I (hi _ _ _ q)⟩
theorem PA.imp {X : Cx} {e : List Expr} {t t' : TA} (h : PA X e t) (hi : ∀ σ H Q, t' σ H Q → t σ H Q) : PA X e t' := ⟨fun pos pins s σ H Q I q => h.run pos pins s σ H Q I (hi _ _ _ q)⟩
theorem PT.imp {X : Cx} {e : Expr} {t t' : TT} (h : PT X e t) (hi : ∀ σ H Q, t' σ H Q → t σ H Q) : PT X e t' := ⟨fun pins s σ H Q I q => h.run pins s σ H Q I (hi _ _ _ q)⟩
theorem PS.imp {X : Cx} {e : Stmt} {t t' : TS} (h : PS X e t) (hi : ∀ D σ H, t' D σ H → t D σ H) : PS X e t' := ⟨fun pins s σ H D I q => h.run pins s σ H D I (hi _ _ _ q)⟩
theorem PSs.imp {X : Cx} {e : List Stmt} {t t' : TS} (h : PSs X e t) (hi : ∀ D σ H, t' D σ H → t D σ H) : PSs X e t' := ⟨fun pins s σ H D I q => h.run pins s σ H D I (hi _ _ _ q)⟩

/-- a container that stands in H may be locked for good -/
def GQ (Q : VK) : VK := fun x H => Q x H ∨ ∃ a u, H a = some u ∧ Mut (some u) ∧ ∀ od, Q x (upd H a (.frz od u))
theorem PE.ghost {X : Cx} {e : Expr} {t : TE} (h : PE X e t) : PE X e (fun σ H Q => t σ H (GQ Q)) := by
  refine ⟨fun pins s σ H Q I q => ?_⟩
  refine thn (h.run pins s σ H _ I q) fun u s1 ⟨x, H1, I1, r1, q1⟩ => ?_
  rcases q1 with q1 | ⟨a, u, e, m, q1⟩
  · exact ⟨x, H1, I1, r1, q1⟩
  · obtain ⟨od, I2⟩ := I1.lock e m
    exact ⟨x, _, I2, r1, q1 od⟩

theorem upd_self {H : Hp} {a : Addr} {o : HO} (h : H a = some o) : upd H a o = H := by
  funext b
  by_cases e : b = a
  · subst e; rw [upd_same, h]
  · rw [upd_ne e]

section
variable {A : Act} {G H : Hp} {σ : L2.St} {r : Env} {v : Val} {a : Addr} {x : V}
/-- a container is frozen: as it stands, or locked -/
theorem freeze_root {w : Wd} (ro : Root w G H v a) (n : G a = none) : (∃ o, H a = some o ∧ Rep w (upd G a o) v (.ref a)) ∨ (∃ u, H a = some u ∧ Mut (some u) ∧ ∀ od, Rep w (upd G a (.frz od u)) v (.ref a)) := by
  cases v with
  | lst ds =>
    obtain ⟨xs, e, q⟩ := ro
    exact .inl ⟨_, e, rep_lst.mpr ⟨a, xs, rfl, upd_same, q.mono (Le.new n)⟩⟩
  | dct t ds =>
    obtain ⟨ht, kvs, e, q⟩ | ⟨ht, kvs, e, q⟩ := ro
    · exact .inr ⟨_, e, True.intro, fun od => by rw [Rep]; exact ⟨a, rfl, .inl ⟨ht, kvs, od, upd_same, q.mono (Le.new n)⟩⟩⟩
    · exact .inr ⟨_, e, True.intro, fun od => by rw [Rep]; exact ⟨a, rfl, .inr ⟨ht, kvs, od, upd_same, q.mono (Le.new n)⟩⟩⟩
  | obj c fs =>
    obtain ⟨C, dx, xs, e, m, q⟩ := ro
    exact .inl ⟨_, e, by rw [Rep]; exact ⟨a, C, dx, xs, rfl, upd_same, m, q.mono (Le.new n)⟩⟩
  | _ => exact ro.elim
/-- the state behind it: a is no slot's -/
theorem Ok.freezeT {o : HO} (k : Ok A G H σ r) (n : G a = none) (nr : ¬ Rt r σ a) (l : A.L a ∨ A.H0 a = none) : Ok A (upd G a o) (upd H a o) σ r where
  ex0 := k.ex0.trans (Le.new n)
  gr0 := fun b h => by
    by_cases e : b = a
    · subst e; rcases l with l | l
      · exact .inr (.inr l)
      · exact .inr (.inl l)
    · rw [upd_ne e] at h; exact k.gr0 b h
  fr0 := fun b u h nl => by
    by_cases e : b = a
    · subst e
      rcases l with l | l
      · exact absurd l nl
      · rw [l] at h; cases h
    · rw [upd_ne e]; exact k.fr0 b u h nl
  sub := k.sub.upd2
  len := k.len
  fz := fun i v h => let ⟨x, e, q⟩ := k.fz i v h; ⟨x, e, q.mono (Le.new n)⟩
  ow := fun i v h => by
    obtain ⟨b, e, q, nb, lb⟩ := k.ow i v h
    have ne : b ≠ a := fun z => nr ⟨i, v, h, by rw [e, z]⟩
    exact ⟨b, e, q.mono (Le.new n) (fun o h => by rw [upd_ne ne]; exact h), by rw [upd_ne ne]; exact nb, lb⟩
  sep := k.sep
  fx := k.fx
end

/-- e, its value frozen -/
def frz (f : EF) : EF := fun r => match f r with
  | .ok _ v r' => .ok false v r'
  | .ex e r' => .ex e r'
  | .bad => .bad
theorem pe_frz {X : Cx} {A : Act} {W : WX} {e : Expr} {f : EF} (h : PE X e (tE A W f)) : PE X e (tE A W (frz f)) := by
  refine PE.imp (PE.ghost h) fun σ H Q ⟨r, G, k, m⟩ => ⟨r, G, k, ?_⟩
  unfold frz at m
  cases hf : f r with
  | bad => rw [hf] at m; exact m.elim
  | ex e r' => rw [hf] at m; exact m
  | ok o v r' =>
    rw [hf] at m
    intro x G1 H1 R
    cases o with
    | false => exact .inl (m x G1 H1 R)
    | true =>
      obtain ⟨a, e, ro, n, nr, l⟩ := R.tr
      subst e
      have fr := R.fr rfl a rfl
      have fin : ∀ o, Rep A.w (upd G1 a o) v (.ref a) → Q (.ref a) (upd H1 a o) := fun o rp => by
        refine m _ (upd G1 a o) (upd H1 a o) ⟨R.ok.freezeT n nr l, ⟨R.st.ex.trans (Le.new n), fun b u h nb => ?_, fun b h h' => ?_, R.st.rts⟩, rp, fun z => nomatch z⟩
        · have ne : b ≠ a := fun z => by
            subst z; rcases fr with z | z
            · rw [z] at h; cases h
            · exact nb z
          rw [upd_ne ne]; exact R.st.keep b u h nb
        · by_cases z : b = a
          · subst z; exact fr
          · rw [upd_ne z] at h'; exact R.st.grow b h h'
      rcases freeze_root ro n with ⟨u, hu, rp⟩ | ⟨u, hu, mu, rp⟩
      · left
        have q := fin u rp
        rw [upd_self hu] at q
        exact q
      · exact .inr ⟨a, u, hu, mu, fun od => fin _ (rp od)⟩

/-! ### constants, names -/
def cst (v : Val) : EF := fun r => .ok false v r
/-- a name as a value: what it owns is frozen -/
def var (i : Nat) : EF := fun r => match r[i]? with
  | some (some (false, v)) => .ok false v r
  | some (some (true, v)) => .ok false v (r.set i (some (false, v)))
  | _ => .bad
/-- a name that isn't needed any more: its value goes -/
def mv (i : Nat) : EF := fun r => match r[i]? with
  | some (some (o, v)) => .ok o v (r.set i none)
  | _ => .bad
theorem set_some {r : Env} {i j : Nat} {s s' : Slot} {t : Bool × Val} (h : (r.set i s)[j]? = some s') (e : s' = some t) : (j = i ∧ s = s') ∨ (j ≠ i ∧ r[j]? = some s') := by
  by_cases q : i = j
  · subst q
    left
    by_cases l : i < r.length
    · rw [List.getElem?_set_self l] at h; cases h; exact ⟨rfl, rfl⟩
    · rw [List.getElem?_eq_none (by simpa using l)] at h; cases h
  · rw [List.getElem?_set_ne q] at h
    exact .inr ⟨fun z => q z.symm, h⟩
section
variable {A : Act} {W : WX} {G H : Hp} {σ : L2.St} {r : Env} {i : Nat} {v : Val} {a : Addr}
/-- slot i is no longer held: frozen with G' (o its object), or gone -/
theorem Ok.drop (k : Ok A G H σ r) (h : r[i]? = some (some (true, v))) (hσ : σ[i]? = some (some (.ref a))) {o : HO} (s : Slot) (hs : ∀ w, s = some (false, w) → Rep A.w (upd G a o) w (.ref a)) (hn : ∀ w, s ≠ some (true, w)) : Ok A (upd G a o) (upd H a o) σ (r.set i s) := by
  obtain ⟨a', e, ro, n, l⟩ := k.ow i v h
  rw [hσ] at e; cases e
  have nr : ¬ Rt (r.set i s) σ a := fun ⟨j, w, h1, h2⟩ => by
    rcases set_some h1 rfl with ⟨e1, e2⟩ | ⟨e1, e2⟩
    · exact hn _ e2
    · exact e1 (k.sep j i w v a e2 h h2 hσ)
  refine ⟨k.ex0.trans (Le.new n), fun b h => ?_, fun b u h nl => ?_, k.sub.upd2, by rw [List.length_set]; exact k.len, fun j w h1 => ?_, fun j w h1 => ?_, fun p q v' w' b h1 h2 h3 h4 => ?_, k.fx⟩
  · by_cases e : b = a
    · subst e; rcases l with l | l
      · exact .inr (.inr l)
      · exact .inr (.inl l)
    · rw [upd_ne e] at h; exact k.gr0 b h
  · by_cases e : b = a
    · subst e
      rcases l with l | l
      · exact absurd l nl
      · rw [l] at h; cases h
    · rw [upd_ne e]; exact k.fr0 b u h nl
  · rcases set_some h1 rfl with ⟨e1, e2⟩ | ⟨e1, e2⟩
    · subst e1; exact ⟨_, hσ, hs _ e2⟩
    · obtain ⟨x, e, q⟩ := k.fz j w e2; exact ⟨x, e, q.mono (Le.new n)⟩
  · rcases set_some h1 rfl with ⟨e1, e2⟩ | ⟨e1, e2⟩
    · exact absurd e2 (hn _)
    · obtain ⟨b, e, q, nb, lb⟩ := k.ow j w e2
      have ne : b ≠ a := fun z => e1 (k.sep j i w v a e2 h (by rw [e, z]) hσ)
      exact ⟨b, e, q.mono (Le.new n) (fun o h => by rw [upd_ne ne]; exact h), by rw [upd_ne ne]; exact nb, lb⟩
  · rcases set_some h1 rfl with ⟨e1, e2⟩ | ⟨e1, e2⟩
    · exact absurd e2 (hn _)
    · rcases set_some h2 rfl with ⟨e3, e4⟩ | ⟨e3, e4⟩
      · exact absurd e4 (hn _)
      · exact k.sep p q v' w' b e2 e4 h3 h4
theorem step_drop (n : G a = none) (h : r[i]? = some (some (true, v))) (hσ : σ[i]? = some (some (.ref a))) {o : HO} (s : Slot) (hn : ∀ w, s ≠ some (true, w)) : Step σ r G H (r.set i s) (upd G a o) (upd H a o) :=
  ⟨Le.new n, fun b u hb nb => by
    have ne : b ≠ a := fun z => nb (by subst z; exact ⟨i, v, h, hσ⟩)
    rw [upd_ne ne]; exact hb, fun b hb hb' => by
    by_cases e : b = a
    · subst e; exact .inr ⟨i, v, h, hσ⟩
    · rw [upd_ne e] at hb'; exact absurd hb hb', fun b ⟨j, w, h1, h2⟩ => by
    rcases set_some h1 rfl with ⟨e1, e2⟩ | ⟨e1, e2⟩
    · exact absurd e2 (hn _)
    · exact ⟨j, w, e2, h2⟩⟩
end
theorem pe_cst {X : Cx} {A : Act} {W : WX} {e : Expr} {x : V} {v : Val} (h : PE X e (tC x)) (hv : ∀ G, Rep A.w G v x) : PE X e (tE A W (cst v)) :=
  PE.imp h fun σ H Q ⟨r, G, k, m⟩ => m x G H ⟨k, Step.refl, hv G, fun z => nomatch z⟩
theorem pe_var' {X : Cx} {A : Act} {W : WX} {e : Expr} {i : Nat} (h : PE X e (tVar i)) : PE X e (tE A W (var i)) := by
  refine PE.imp (PE.ghost h) fun σ H Q ⟨r, G, k, m⟩ => ?_
  rcases q : r[i]? with _ | _ | ⟨_ | _, v⟩
  · simp only [var, q] at m
  · simp only [var, q] at m
  · simp only [var, q] at m
    obtain ⟨x, e1, e2⟩ := k.fz i v q
    exact ⟨x, e1, .inl (m x G H ⟨k, Step.refl, e2, fun z => nomatch z⟩)⟩
  · simp only [var, q] at m
    obtain ⟨a, e1, ro, n, l⟩ := k.ow i v q
    refine ⟨.ref a, e1, ?_⟩
    have fin : ∀ o, Rep A.w (upd G a o) v (.ref a) → Q (.ref a) (upd H a o) := fun o rp =>
      m _ _ _ ⟨k.drop q e1 _ (fun w e => by cases e; exact rp) (fun w e => by cases e), step_drop n q e1 _ (fun w e => by cases e), rp, fun z => nomatch z⟩
    rcases freeze_root ro n with ⟨u, hu, rp⟩ | ⟨u, hu, mu, rp⟩
    · left
      have q := fin u rp
      rw [upd_self hu] at q
      exact q
    · exact .inr ⟨a, u, hu, mu, fun od => fin _ (rp od)⟩
theorem Ok.forget {A : Act} {G H : Hp} {σ : L2.St} {r : Env} (k : Ok A G H σ r) (i : Nat) : Ok A G H σ (r.set i none) := by
  have back : ∀ {j : Nat} {t : Bool × Val}, (r.set i none)[j]? = some (some t) → r[j]? = some (some t) ∧ j ≠ i := fun {j t} h => by
    rcases set_some h rfl with ⟨e1, e2⟩ | ⟨e1, e2⟩
    · cases e2
    · exact ⟨e2, e1⟩
  exact ⟨k.ex0, k.gr0, k.fr0, k.sub, by rw [List.length_set]; exact k.len, fun j v h => k.fz j v (back h).1, fun j v h => k.ow j v (back h).1, fun p q v w a h1 h2 => k.sep p q v w a (back h1).1 (back h2).1, k.fx⟩
theorem pe_mv {X : Cx} {A : Act} {W : WX} {e : Expr} {i : Nat} (h : PE X e (tVar i)) : PE X e (tE A W (mv i)) := by
  refine PE.imp h fun σ H Q ⟨r, G, k, m⟩ => ?_
  have rt : ∀ b, Rt (r.set i none) σ b → Rt r σ b := fun b ⟨j, w, h1, h2⟩ => by
    rcases set_some h1 rfl with ⟨e1, e2⟩ | ⟨e1, e2⟩
    · cases e2
    · exact ⟨j, w, e2, h2⟩
  have st : Step σ r G H (r.set i none) G H := ⟨Le.refl _, fun _ _ h _ => h, fun _ h h' => absurd h h', rt⟩
  rcases q : r[i]? with _ | _ | ⟨_ | _, v⟩
  · simp only [mv, q] at m
  · simp only [mv, q] at m
  · simp only [mv, q] at m
    obtain ⟨x, e1, e2⟩ := k.fz i v q
    exact ⟨x, e1, m x G H ⟨k.forget i, st, e2, fun z => nomatch z⟩⟩
  · simp only [mv, q] at m
    obtain ⟨a, e1, ro, n, l⟩ := k.ow i v q
    refine ⟨.ref a, e1, m _ G H ⟨k.forget i, st, ⟨a, rfl, ro, n, ?_, l⟩, fun _ b e => by cases e; exact .inr ⟨i, v, q, e1⟩⟩⟩
    rintro ⟨j, w, h1, h2⟩
    rcases set_some h1 rfl with ⟨e1', e2⟩ | ⟨e1', e2⟩
    · cases e2
    · exact e1' (k.sep j i w v a e2 q h2 e1)

/-! ### operands -/
def oV (f : EF) : OF := fun r => match f r with
  | .ok o v r' => .ok (.tmp o v) r'
  | .ex e r' => .ex e r'
  | .bad => .bad
def oS (i : Nat) : OF := fun r => match r[i]? with
  | some (some _) => .ok (.sl i) r
  | _ => .bad
def osNil : OsF := fun r => .ok [] r
def osCons (f : OF) (g : OsF) : OsF := fun r => match f r with
  | .ok h r1 => match g r1 with
    | .ok hs r2 => .ok (h :: hs) r2
    | .ex e r2 => .ex e r2
    | .bad => .bad
  | .ex e r1 => .ex e r1
  | .bad => .bad
section
variable {X : Cx} {A : Act} {W : WX} {e : Expr} {es : List Expr} {f : EF} {fo : OF} {g : OsF} {i : Nat}
theorem po_V (h : PE X e (tE A W f)) : PE X e (tO A W (oV f)) := PE.imp h fun σ H Q ⟨r, G, k, m⟩ => ⟨r, G, k, by
  unfold oV at m
  cases hf : f r with
  | bad => rw [hf] at m; exact m.elim
  | ex e r' => rw [hf] at m; exact m
  | ok o v r' => rw [hf] at m; exact fun x G1 H1 R => m x G1 H1 R.ok R.st R.tr⟩
theorem po_S (h : PE X e (tVar i)) : PE X e (tO A W (oS i)) := PE.imp h fun σ H Q ⟨r, G, k, m⟩ => by
  rcases q : r[i]? with _ | _ | ⟨o, v⟩
  · simp only [oS, q] at m
  · simp only [oS, q] at m
  · simp only [oS, q] at m
    obtain ⟨x, e1, e2⟩ := k.slot q
    exact ⟨x, e1, m x G H k Step.refl e1⟩
theorem pa_osNil : PA X [] (tOs A W osNil) := PA.imp pa_nil fun σ H Q ⟨r, G, k, m⟩ => m [] G H k Step.refl rfl
/-- the first operand, then the others -/
theorem os_cons {σ : L2.St} {H : Hp} {Q : List V → Hp → Prop} (h : tOs A W (osCons fo g) σ H Q) : tO A W fo σ H fun x H1 => tOs A W g σ H1 fun xs H2 => Q (x :: xs) H2 := by
  obtain ⟨r, G, k, m⟩ := h
  refine ⟨r, G, k, ?_⟩
  unfold osCons at m
  cases hf : fo r with
  | bad => rw [hf] at m; exact m.elim
  | ex e r' => rw [hf] at m; exact m
  | ok h r1 =>
    simp only [hf] at m
    intro x G1 H1 k1 st1 t1
    refine ⟨r1, G1, k1, ?_⟩
    cases hg : g r1 with
    | bad => simp only [hg] at m
    | ex e r2 => simp only [hg] at m ⊢; exact m.mono st1.ex
    | ok hs r2 =>
      simp only [hg] at m ⊢
      intro xs G2 H2 k2 st2 t2
      exact m (x :: xs) G2 H2 k2 (st1.trans st2) ⟨x, xs, rfl, t1.step st2, t2⟩
theorem pa_osCons (he : PE X e (tO A W fo)) (hr : PA X es (tOs A W g)) (hs : starEach (e :: es) X.env = (false, eval e X.env) :: starEach es X.env := by rfl) : PA X (e :: es) (tOs A W (osCons fo g)) :=
  PA.imp (pa_cons he hr hs) fun _ _ _ h => os_cons h
end

/-! ### primitive operations -/
def prim (P : List Val → Option (Bool × Val)) (f : OsF) : EF := fun r => match f r with
  | .ok hs r1 => match getAll r1 hs with
    | some vs => match P vs with
      | some (o, z) => .ok o z r1
      | none => .bad
    | none => .bad
  | .ex e r1 => .ex e r1
  | .bad => .bad
/-- what HandS asks of values, held by P -/
def ROk (w : Wd) (R : List V → Hp → VK → Prop) (P : List Val → Option (Bool × Val)) : Prop :=
  ∀ G H vs xs o z, Le G H → RReps w G H vs xs → P vs = some (o, z) → ∀ Q : VK, (∀ u G' H', Grow G H G' H' → NRep w G H G' H' o z u → Q u H') → R xs H Q
/-- HandS's reading that P says -/
def rOf (w : Wd) (P : List Val → Option (Bool × Val)) : List V → Hp → VK → Prop := fun xs H Q => ∃ G vs o z, Le G H ∧ RReps w G H vs xs ∧ P vs = some (o, z) ∧ ∀ u G' H', Grow G H G' H' → NRep w G H G' H' o z u → Q u H'
theorem rok_rOf (w : Wd) (P : List Val → Option (Bool × Val)) : ROk w (rOf w P) P := fun G H vs xs o z le rr hp Q q => ⟨G, vs, o, z, le, rr, hp, q⟩
def r2Of (w : Wd) (P : List Val → Option (Bool × Val)) : R2 := fun x y H Q => rOf w P [x, y] H Q
section
variable {X : Cx} {A : Act} {W : WX} {e : Expr} {es : List Expr} {g : OsF} {P : List Val → Option (Bool × Val)} {R : List V → Hp → VK → Prop}
theorem prim_os {σ : L2.St} {H : Hp} {Q : VK} (hR : ROk A.w R P) (h : tE A W (prim P g) σ H Q) : tOs A W g σ H fun xs H1 => R xs H1 Q := by
  obtain ⟨r, G, k, m⟩ := h
  refine ⟨r, G, k, ?_⟩
  unfold prim at m
  cases hf : g r with
  | bad => rw [hf] at m; exact m.elim
  | ex e r' => rw [hf] at m; exact m
  | ok hs r1 =>
    simp only [hf] at m
    intro xs G1 H1 k1 st1 t1
    cases hg : getAll r1 hs with
    | none => simp only [hg] at m
    | some vs =>
      simp only [hg] at m
      cases hp : P vs with
      | none => simp only [hp] at m
      | some oz =>
        obtain ⟨o, z⟩ := oz
        simp only [hp] at m
        refine hR G1 H1 vs xs o z k1.sub (t1.get k1 hg) hp Q fun u G2 H2 gr nr => ?_
        refine m u G2 H2 ⟨k1.grow gr, st1.trans gr.step, nr.trep k1, fun eo a ea => ?_⟩
        subst eo
        obtain ⟨b, e1, _, _, n⟩ := nr
        rw [ea] at e1; cases e1
        exact st1.fresh n
/-- two operands -/
theorem prim_os2 {fa fb : OF} {σ : L2.St} {H : Hp} {Q : VK} (h : tE A W (prim P (osCons fa (osCons fb osNil))) σ H Q) : tOp (r2Of A.w P) (tO A W fa) (tO A W fb) σ H Q := by
  have h2 := os_cons (prim_os (rok_rOf A.w P) h)
  obtain ⟨r, G, k, m⟩ := h2
  refine ⟨r, G, k, ?_⟩
  cases hf : fa r with
  | bad => rw [hf] at m; exact m.elim
  | ex e r' => rw [hf] at m; exact m
  | ok h r1 =>
    simp only [hf] at m ⊢
    intro x G1 H1 k1 st1 t1
    have h3 := os_cons (m x G1 H1 k1 st1 t1)
    obtain ⟨r', G', k', m'⟩ := h3
    refine ⟨r', G', k', ?_⟩
    cases hb : fb r' with
    | bad => rw [hb] at m'; exact m'.elim
    | ex e r' => rw [hb] at m'; exact m'
    | ok h r1 =>
      simp only [hb] at m' ⊢
      intro y G2 H2 k2 st2 t2
      obtain ⟨r4, G4, k4, m4⟩ := m' y G2 H2 k2 st2 t2
      exact m4 [] G4 H2 k4 Step.refl rfl
theorem prim_os1 {fa : OF} {σ : L2.St} {H : Hp} {Q : VK} (h : tE A W (prim P (osCons fa osNil)) σ H Q) : tO A W fa σ H fun x H1 => rOf A.w P [x] H1 Q := by
  have h2 := os_cons (prim_os (rok_rOf A.w P) h)
  obtain ⟨r, G, k, m⟩ := h2
  refine ⟨r, G, k, ?_⟩
  cases hf : fa r with
  | bad => rw [hf] at m; exact m.elim
  | ex e r' => rw [hf] at m; exact m
  | ok h r1 =>
    simp only [hf] at m ⊢
    intro x G1 H1 k1 st1 t1
    obtain ⟨r4, G4, k4, m4⟩ := m x G1 H1 k1 st1 t1
    exact m4 [] G4 H1 k4 Step.refl rfl
end
end M
/-! MP3: tests, truth, displays, calls, what a def promises. -/
namespace M
open PySem L2

/-! ### tests -/
def tst (f : EF) : BF := fun r => match f r with
  | .ok _ v r' => match v with
    | .bl b => .ok b r'
    | _ => .bad
  | .ex e r' => .ex e r'
  | .bad => .bad
def andB (f g : BF) : BF := fun r => match f r with
  | .ok true r' => g r'
  | x => x
def orB (f g : BF) : BF := fun r => match f r with
  | .ok false r' => g r'
  | x => x
def notB (f : BF) : BF := fun r => match f r with
  | .ok b r' => .ok (!b) r'
  | x => x
theorem trep_f {A : Act} {G H : Hp} {σ : L2.St} {r : Env} {v : Val} {x : V} (h : Rep A.w G v x) : TRep A G H σ r false v x := h
theorem trep_t {A : Act} {G H : Hp} {σ : L2.St} {r : Env} {v : Val} {a : Addr} (h : Root A.w G H v a) (n : G a = none) (nr : ¬ Rt r σ a) (l : A.L a ∨ A.H0 a = none) : TRep A G H σ r true v (.ref a) := ⟨a, rfl, h, n, nr, l⟩
theorem root_lst {w : Wd} {G H : Hp} {a : Addr} {ds : List Val} {xs : List V} (h : H a = some (.lst xs)) (q : Reps w G ds xs) : Root w G H (.lst ds) a := ⟨xs, h, q⟩
theorem nrep_f {w : Wd} {G H G' H' : Hp} {v : Val} {x : V} (h : Rep w G' v x) : NRep w G H G' H' false v x := h
theorem no_own {x : V} {H : Hp} {σ : L2.St} {r : Env} : false = true → ∀ a, x = .ref a → H a = none ∨ Rt r σ a := fun z => nomatch z
theorem bl_of {A : Act} {σ : L2.St} {H : Hp} {G : Hp} {r : Env} {o : Bool} {b : Bool} {u : V} (t : TRep A G H σ r o (.bl b) u) : u = .bl b := by
  cases o with
  | true => obtain ⟨a, _, ro, _⟩ := t; exact ro.elim
  | false => exact rep_bl.mp (show Rep A.w G (.bl b) u from t)
section
variable {X : Cx} {A : Act} {W : WX} {e : Expr} {f : EF} {fa fb : OF} {P : List Val → Option (Bool × Val)} {r2 : R2} {b c : BF} {σ : L2.St} {H : Hp} {Q : Bool → Hp → Prop}
theorem tst_of (h : tBo A W (tst f) σ H Q) : tE A W f σ H fun x H1 => ∃ k, x = .bl k ∧ Q k H1 := by
  obtain ⟨r, G, k, m⟩ := h
  refine ⟨r, G, k, ?_⟩
  unfold tst at m
  cases hf : f r with
  | bad => rw [hf] at m; exact m.elim
  | ex e r' => rw [hf] at m; exact m
  | ok o v r' =>
    simp only [hf] at m
    intro x G1 H1 R
    cases v with
    | bl b =>
      exact ⟨b, bl_of R.tr, m G1 H1 R.ok R.st⟩
    | _ => exact False.elim m
theorem pt_tst (h : PE X e (tE A W f)) (he : ∀ whole, isTrue e X.env whole = (do let v ← whole; standAt e.pos; holding [v] (truthy v)) := by intro _; rfl) : PT X e (tBo A W (tst f)) :=
  PT.imp (pt_val h he) fun _ _ _ q => tst_of q
theorem pt_cmp' {x y : Expr} {op : CmpOp} {pos : Pos} (ho : OpR X (compareOp op) (r2Of A.w P)) (ha : PE X x (tO A W fa)) (hb : PE X y (tO A W fb)) (hm : behindInMarks op y = false) :
    PT X (.Compare x [op] [y] pos) (tBo A W (tst (prim P (osCons fa (osCons fb osNil))))) :=
  PT.imp (pt_cmpR ho ha hb hm) fun _ _ _ q => prim_os2 (tst_of q)
theorem and_of {Q} (h : tBo A W (andB b c) σ H Q) : tAnd (tBo A W b) (tBo A W c) σ H Q := by
  obtain ⟨r, G, k, m⟩ := h
  refine ⟨r, G, k, ?_⟩
  unfold andB at m
  rcases hf : b r with ⟨_ | _, r1⟩ | _ | _
  · simp only [hf] at m ⊢
    intro G1 H1 k1 st1
    simp only [Bool.false_eq_true, if_false]
    exact m G1 H1 k1 st1
  · simp only [hf] at m ⊢
    intro G1 H1 k1 st1
    simp only [if_true]
    refine ⟨r1, G1, k1, ?_⟩
    cases hg : c r1 with
    | bad => simp only [hg] at m
    | ex e r' => simp only [hg] at m ⊢; exact m.mono st1.ex
    | ok d r' => simp only [hg] at m ⊢; exact fun G2 H2 k2 st2 => m G2 H2 k2 (st1.trans st2)
  · simp only [hf] at m ⊢; exact m
  · simp only [hf] at m
theorem or_of {Q} (h : tBo A W (orB b c) σ H Q) : tOr (tBo A W b) (tBo A W c) σ H Q := by
  obtain ⟨r, G, k, m⟩ := h
  refine ⟨r, G, k, ?_⟩
  unfold orB at m
  rcases hf : b r with ⟨_ | _, r1⟩ | _ | _
  · simp only [hf] at m ⊢
    intro G1 H1 k1 st1
    simp only [Bool.false_eq_true, if_false]
    refine ⟨r1, G1, k1, ?_⟩
    cases hg : c r1 with
    | bad => simp only [hg] at m
    | ex e r' => simp only [hg] at m ⊢; exact m.mono st1.ex
    | ok d r' => simp only [hg] at m ⊢; exact fun G2 H2 k2 st2 => m G2 H2 k2 (st1.trans st2)
  · simp only [hf] at m ⊢
    intro G1 H1 k1 st1
    simp only [if_true]
    exact m G1 H1 k1 st1
  · simp only [hf] at m ⊢; exact m
  · simp only [hf] at m
theorem not_of' {Q} (h : tBo A W (notB b) σ H Q) : tNot (tBo A W b) σ H Q := by
  obtain ⟨r, G, k, m⟩ := h
  refine ⟨r, G, k, ?_⟩
  unfold notB at m
  cases hf : b r with
  | ok d r1 => simp only [hf] at m ⊢; exact m
  | ex e r1 => simp only [hf] at m ⊢; exact m
  | bad => simp only [hf] at m
theorem pw_and' {x y : Expr} {rest : List Expr} {pos : Pos} (ha : PT X x (tBo A W b)) (hb : PW X (.BoolOp .And (y :: rest) pos) (tBo A W c)) : PW X (.BoolOp .And (x :: y :: rest) pos) (tBo A W (andB b c)) :=
  ⟨fun wh pins s σ H Q I h => (pw_and ha hb).run wh pins s σ H Q I (and_of h)⟩
theorem pw_or' {x y : Expr} {rest : List Expr} {pos : Pos} (ha : PT X x (tBo A W b)) (hb : PW X (.BoolOp .Or (y :: rest) pos) (tBo A W c)) : PW X (.BoolOp .Or (x :: y :: rest) pos) (tBo A W (orB b c)) :=
  ⟨fun wh pins s σ H Q I h => (pw_or ha hb).run wh pins s σ H Q I (or_of h)⟩
theorem pt_not' {x : Expr} {pos : Pos} (ha : PT X x (tBo A W b)) : PT X (.UnaryOp .Not x pos) (tBo A W (notB b)) := PT.imp (pt_not ha) fun _ _ _ q => not_of' q
end

/-! ### and, or, not, if as values -/
def andV (f g : EF) : EF := fun r => match f r with
  | .ok _ v r' => match v with
    | .bl true => g r'
    | .bl false => .ok false (.bl false) r'
    | _ => .bad
  | x => x
def orV (f g : EF) : EF := fun r => match f r with
  | .ok _ v r' => match v with
    | .bl true => .ok false (.bl true) r'
    | .bl false => g r'
    | _ => .bad
  | x => x
def notV (f : EF) : EF := fun r => match f r with
  | .ok _ v r' => match v with
    | .bl b => .ok false (.bl (!b)) r'
    | _ => .bad
  | x => x
def ite (c : BF) (f g : EF) : EF := fun r => match c r with
  | .ok true r' => f r'
  | .ok false r' => g r'
  | .ex e r' => .ex e r'
  | .bad => .bad
section
variable {X : Cx} {A : Act} {W : WX} {e : Expr} {f g : EF} {c : BF} {σ : L2.St} {H : Hp} {Q : VK} {x y : Expr} {rest : List Expr} {pos : Pos}
/-- an expression in a row behind a state that has gone on -/
theorem tE_step {r r1 : Env} {G G1 H1 : Hp} (k1 : Ok A G1 H1 σ r1) (st1 : Step σ r G H r1 G1 H1)
    (m : match g r1 with
      | .ok o v r' => ∀ x G' H', Res A σ r G H r' G' H' o v x → Q x H'
      | .ex e r' => ExP A W G σ e r'
      | .bad => False) : tE A W g σ H1 Q := by
  refine ⟨r1, G1, k1, ?_⟩
  cases hg : g r1 with
  | bad => simp only [hg] at m
  | ex e r' => simp only [hg] at m ⊢; exact m.mono st1.ex
  | ok o v r' =>
    simp only [hg] at m ⊢
    intro x G2 H2 R
    refine m x G2 H2 ⟨R.ok, st1.trans R.st, R.tr, fun eo a ea => ?_⟩
    rcases R.fr eo a ea with z | z
    · exact st1.fresh z
    · exact .inr (st1.rts a z)
theorem pe_andV (ha : PE X x (tE A W f)) (hb : PE X (.BoolOp .And (y :: rest) pos) (tE A W g)) : PE X (.BoolOp .And (x :: y :: rest) pos) (tE A W (andV f g)) := by
  refine PE.imp (pe_and ha hb) fun σ H Q ⟨r, G, k, m⟩ => ⟨r, G, k, ?_⟩
  unfold andV at m
  cases hf : f r with
  | bad => simp only [hf] at m
  | ex e r' => simp only [hf] at m ⊢; exact m
  | ok o v r' =>
    simp only [hf] at m ⊢
    intro u G1 H1 R
    cases v with
    | bl b =>
      refine ⟨b, bl_of R.tr, ?_⟩
      cases b with
      | true => simp only [if_true]; exact tE_step R.ok R.st m
      | false => simp only [Bool.false_eq_true, if_false]; exact m _ _ _ ⟨R.ok, R.st, trep_f (rep_bl.mpr rfl), no_own⟩
    | _ => exact False.elim m
theorem pe_orV (ha : PE X x (tE A W f)) (hb : PE X (.BoolOp .Or (y :: rest) pos) (tE A W g)) : PE X (.BoolOp .Or (x :: y :: rest) pos) (tE A W (orV f g)) := by
  refine PE.imp (pe_or ha hb) fun σ H Q ⟨r, G, k, m⟩ => ⟨r, G, k, ?_⟩
  unfold orV at m
  cases hf : f r with
  | bad => simp only [hf] at m
  | ex e r' => simp only [hf] at m ⊢; exact m
  | ok o v r' =>
    simp only [hf] at m ⊢
    intro u G1 H1 R
    cases v with
    | bl b =>
      refine ⟨b, bl_of R.tr, ?_⟩
      cases b with
      | true => simp only [if_true]; exact m _ _ _ ⟨R.ok, R.st, trep_f (rep_bl.mpr rfl), no_own⟩
      | false => simp only [Bool.false_eq_true, if_false]; exact tE_step R.ok R.st m
    | _ => exact False.elim m
theorem pe_notV (ha : PE X x (tE A W f)) : PE X (.UnaryOp .Not x pos) (tE A W (notV f)) := by
  refine PE.imp (pe_not ha) fun σ H Q ⟨r, G, k, m⟩ => ⟨r, G, k, ?_⟩
  unfold notV at m
  cases hf : f r with
  | bad => simp only [hf] at m
  | ex e r' => simp only [hf] at m ⊢; exact m
  | ok o v r' =>
    simp only [hf] at m ⊢
    intro u G1 H1 R
    cases v with
    | bl b => exact ⟨b, bl_of R.tr, m _ _ _ ⟨R.ok, R.st, trep_f (rep_bl.mpr rfl), no_own⟩⟩
    | _ => exact False.elim m
theorem pe_ite {t : Expr} (hc : PT X t (tBo A W c)) (ha : PE X x (tE A W f)) (hb : PE X y (tE A W g)) : PE X (.IfExp t x y pos) (tE A W (ite c f g)) := by
  refine PE.imp (pe_ifExp hc ha hb) fun σ H Q ⟨r, G, k, m⟩ => ⟨r, G, k, ?_⟩
  unfold ite at m
  rcases hf : c r with ⟨_ | _, r1⟩ | _ | _
  · simp only [hf] at m ⊢
    intro G1 H1 k1 st1
    simp only [Bool.false_eq_true, if_false]
    exact tE_step k1 st1 m
  · simp only [hf] at m ⊢
    intro G1 H1 k1 st1
    simp only [if_true]
    exact tE_step k1 st1 m
  · simp only [hf] at m ⊢; exact m
  · simp only [hf] at m
end

/-! ### values in a row, frozen -/
inductive AR where
  | ok (vs : List Val) (r : Env) | ex (e : Val) (r : Env) | bad
abbrev AF := Env → AR
def asNil : AF := fun r => .ok [] r
def asCons (f : EF) (g : AF) : AF := fun r => match frz f r with
  | .ok _ v r1 => match g r1 with
    | .ok vs r2 => .ok (v :: vs) r2
    | .ex e r2 => .ex e r2
    | .bad => .bad
  | .ex e r1 => .ex e r1
  | .bad => .bad
def tAs (A : Act) (W : WX) (f : AF) : TA := fun σ H Q => ∃ r G, Ok A G H σ r ∧ match f r with
  | .ok vs r' => ∀ xs G' H', Ok A G' H' σ r' → Step σ r G H r' G' H' → Reps A.w G' vs xs → Q xs H'
  | .ex e r' => ExP A W G σ e r'
  | .bad => False
def tup (g : AF) : EF := fun r => match g r with
  | .ok vs r1 => if vs.length ≤ 100000 then .ok false (.tup vs) r1 else .bad
  | .ex e r1 => .ex e r1
  | .bad => .bad
def lst (g : AF) : EF := fun r => match g r with
  | .ok vs r1 => if vs.length ≤ 100000 then .ok true (.lst vs) r1 else .bad
  | .ex e r1 => .ex e r1
  | .bad => .bad
theorem line_of {n : Nat} (h : n ≤ 100000) : n ≤ sizeLine := Nat.le_trans h (by decide)
theorem frz_false {f : EF} {r r' : Env} {o : Bool} {v : Val} (h : frz f r = .ok o v r') : o = false := by
  unfold frz at h
  split at h <;> first | (cases h; rfl) | cases h
section
variable {X : Cx} {A : Act} {W : WX} {e : Expr} {es : List Expr} {f : EF} {g : AF} {pos : Pos}
theorem pa_asNil : PA X [] (tAs A W asNil) := PA.imp pa_nil fun σ H Q ⟨r, G, k, m⟩ => m [] G H k Step.refl (reps_nil.mpr rfl)
theorem pa_asCons (he : PE X e (tE A W f)) (hr : PA X es (tAs A W g)) (hs : starEach (e :: es) X.env = (false, eval e X.env) :: starEach es X.env := by rfl) : PA X (e :: es) (tAs A W (asCons f g)) := by
  refine PA.imp (pa_cons (pe_frz he) hr hs) fun σ H Q ⟨r, G, k, m⟩ => ⟨r, G, k, ?_⟩
  unfold asCons at m
  cases hf : frz f r with
  | bad => simp only [hf] at m
  | ex e r' => simp only [hf] at m ⊢; exact m
  | ok o v r1 =>
    have eo := frz_false hf
    subst eo
    simp only [hf] at m ⊢
    intro x G1 H1 R1
    refine ⟨r1, G1, R1.ok, ?_⟩
    cases hg : g r1 with
    | bad => simp only [hg] at m
    | ex e r2 => simp only [hg] at m ⊢; exact m.mono R1.st.ex
    | ok vs r2 =>
      simp only [hg] at m ⊢
      intro xs G2 H2 k2 st2 rs
      exact m (x :: xs) G2 H2 k2 (R1.st.trans st2) (reps_cons.mpr ⟨x, xs, rfl, Rep.mono st2.ex R1.tr, rs⟩)
theorem pe_tup' {k1} (h : PA X es (tAs A W g)) : PE X (.Tuple es k1 pos) (tE A W (tup g)) := by
  refine PE.imp (pe_tup h) fun σ H Q ⟨r, G, k, m⟩ => ⟨r, G, k, ?_⟩
  unfold tup at m
  cases hf : g r with
  | bad => simp only [hf] at m
  | ex e r' => simp only [hf] at m ⊢; exact m
  | ok vs r1 =>
    simp only [hf] at m ⊢
    intro xs G1 H1 k1 st1 rs
    by_cases hl : vs.length ≤ 100000
    · simp only [if_pos hl] at m
      refine ⟨by rw [← reps_length rs]; exact line_of hl, fun p hp => ?_⟩
      have gr := Grow.laidG (o := .tup xs) k1.sub hp
      exact m _ _ _ ⟨k1.grow gr, st1.trans gr.step, trep_f (rep_tup.mpr ⟨p, xs, rfl, SqT.of upd_same, rs.mono gr.g⟩), no_own⟩
    · simp only [if_neg hl] at m
theorem pe_lst' (h : PA X es (tAs A W g)) : PE X (.List es pos) (tE A W (lst g)) := by
  refine PE.imp (pe_lst h) fun σ H Q ⟨r, G, k, m⟩ => ⟨r, G, k, ?_⟩
  unfold lst at m
  cases hf : g r with
  | bad => simp only [hf] at m
  | ex e r' => simp only [hf] at m ⊢; exact m
  | ok vs r1 =>
    simp only [hf] at m ⊢
    intro xs G1 H1 k1 st1 rs
    by_cases hl : vs.length ≤ 100000
    · simp only [if_pos hl] at m
      refine ⟨by rw [← reps_length rs]; exact line_of hl, fun p hp => ?_⟩
      have gr := Grow.laidH (o := .lst xs) k1.sub hp
      refine m _ _ _ ⟨k1.grow gr, st1.trans gr.step, trep_t (root_lst upd_same rs) (k1.sub.back hp) (k1.notRt hp) (k1.fresh hp), fun _ a e => ?_⟩
      cases e
      exact st1.fresh hp
    · simp only [if_neg hl] at m
end

/-! ### calls -/
inductive GR where
  | ok (o : Bool) (v : Val) (out : Option (Bool × Val)) | ex (e : Val) (out : Option (Bool × Val)) | bad
abbrev GF := List (Bool × Val) → GR
/-- the arguments at a call: frozen values, one slot's container at most -/
def ARel (w : Wd) (G H : Hp) : List (Bool × Val) → List V → Prop
  | [], xs => xs = []
  | (false, v) :: as, xs => ∃ y ys, xs = y :: ys ∧ Rep w G v y ∧ ARel w G H as ys
  | (true, v) :: as, xs => ∃ a ys, xs = .ref a :: ys ∧ Root w G H v a ∧ G a = none ∧ ARel w G H as ys
def Lent (as : List (Bool × Val)) (xs : List V) (a : Addr) : Prop := ∃ (i : Nat) (v : Val), as[i]? = some (true, v) ∧ xs[i]? = some (.ref a)
def lents (as : List (Bool × Val)) : Nat := (as.filter (·.1)).length
def OutRel (w : Wd) (G H : Hp) (a : Addr) : Option (Bool × Val) → Prop
  | some (true, v) => Root w G H v a ∧ G a = none
  | some (false, v) => Rep w G v (.ref a)
  | none => False
/-- behind a call -/
structure Post (w : Wd) (G H : Hp) (as : List (Bool × Val)) (xs : List V) (out : Option (Bool × Val)) (G' H' : Hp) : Prop where
  g : Le G G'
  s : Le G' H'
  gr : ∀ a, G a = none → G' a ≠ none → H a = none ∨ Lent as xs a
  kp : ∀ a o, H a = some o → ¬ Lent as xs a → H' a = some o
  out : ∀ a, Lent as xs a → OutRel w G' H' a out
/-- a def's promise: called with as it is worth g as -/
def spF (w : Wd) (n : Nat) (g : GF) : Sp := fun vs H Q E => ∃ G as, vs.length = n ∧ Le G H ∧ ARel w G H as vs ∧ lents as ≤ 1 ∧ match g as with
  | .ok o z out => ∀ u G' H', Post w G H as vs out G' H' → NRep w G H G' H' o z u → Q u H'
  | .ex e out => match e with
    | .obj c fs => ∀ G' H' C dx xs, Post w G H as vs out G' H' → w.CM c = some C → H' dx = some (.xd xs) → RepF w G' fs xs → E (.ref C) (some dx) H'
    | _ => False
  | .bad => False
/-- the arguments as the slots are: temporaries are frozen -/
def lend (r : Env) : List Hd → Option (List (Bool × Val))
  | [] => some []
  | .tmp false v :: hs => match lend r hs with
    | some as => some ((false, v) :: as)
    | none => none
  | .tmp true _ :: _ => none
  | .sl i :: hs => match r[i]? with
    | some (some t) => match lend r hs with
      | some as => some (t :: as)
      | none => none
    | _ => none
/-- the slot that is lent -/
def lentIx (r : Env) : List Hd → Option Nat
  | [] => none
  | .sl i :: hs => match r[i]? with
    | some (some (true, _)) => some i
    | _ => lentIx r hs
  | _ :: hs => lentIx r hs
/-- the slots behind a call -/
def back (r : Env) (ix : Option Nat) (out : Option (Bool × Val)) : Env := match ix with
  | some i => r.set i out
  | none => r
def callG (n : Nat) (g : GF) (f : OsF) : EF := fun r => match f r with
  | .ok hs r1 => match lend r1 hs with
    | some as => if lents as ≤ 1 ∧ as.length = n then match g as with
      | .ok o z out => .ok o z (back r1 (lentIx r1 hs) out)
      | .ex e out => .ex e (back r1 (lentIx r1 hs) out)
      | .bad => .bad
      else .bad
    | none => .bad
  | .ex e r1 => .ex e r1
  | .bad => .bad

theorem lents_zero : ∀ {as : List (Bool × Val)}, lents as = 0 → ∀ {p : Nat} {v : Val}, as[p]? ≠ some (true, v)
  | [], _, p, v => by simp
  | (b, w) :: as, h, p, v => by
    cases b with
    | true => simp [lents] at h
    | false =>
      have h' : lents as = 0 := by simpa [lents] using h
      cases p with
      | zero => simp
      | succ p => simpa using lents_zero h' (p := p) (v := v)
section
variable {A : Act} {W : WX} {G H G' H' : Hp} {σ : L2.St} {r : Env}
theorem lend_rel (k : Ok A G H σ r) : ∀ {hs : List Hd} {xs : List V} {as : List (Bool × Val)}, lend r hs = some as → HReps A G H σ r hs xs → ARel A.w G H as xs
  | [], _, as, e, h => by simp only [lend, Option.some.injEq] at e; subst e; exact h
  | .tmp false v :: hs, _, as, e, ⟨y, ys, e1, a, b⟩ => by
    simp only [lend] at e
    split at e
    · rename_i as' q
      cases e
      exact ⟨y, ys, e1, a, lend_rel k q b⟩
    · cases e
  | .tmp true v :: hs, _, as, e, _ => by simp only [lend] at e; cases e
  | .sl i :: hs, _, as, e, ⟨y, ys, e1, a, b⟩ => by
    simp only [lend] at e
    split at e
    · rename_i t q
      split at e
      · rename_i as' q2
        cases e
        obtain ⟨o, v⟩ := t
        have a' : σ[i]? = some (some y) := a
        cases o with
        | false =>
          obtain ⟨x, e2, rp⟩ := k.fz i v q
          rw [a'] at e2; cases e2
          exact ⟨y, ys, e1, rp, lend_rel k q2 b⟩
        | true =>
          obtain ⟨c, e2, ro, n, _⟩ := k.ow i v q
          rw [a'] at e2; cases e2
          exact ⟨c, ys, e1, ro, n, lend_rel k q2 b⟩
      · cases e
    · cases e
theorem lend_none : ∀ {hs : List Hd} {as : List (Bool × Val)}, lend r hs = some as → lents as = 0 → lentIx r hs = none
  | [], _, _, _ => rfl
  | .tmp false v :: hs, as, e, h => by
    simp only [lend] at e
    split at e
    · rename_i as' q
      cases e
      exact lend_none (hs := hs) q (by simpa [lents] using h)
    · cases e
  | .tmp true v :: hs, as, e, _ => by simp only [lend] at e; cases e
  | .sl i :: hs, as, e, h => by
    simp only [lend] at e
    split at e
    · rename_i t q
      split at e
      · rename_i as' q2
        cases e
        obtain ⟨o, v⟩ := t
        cases o with
        | false => simp only [lentIx, q]; exact lend_none q2 (by simpa [lents] using h)
        | true => simp [lents] at h
      · cases e
    · cases e
theorem lend_at : ∀ {hs : List Hd} {as : List (Bool × Val)} {xs : List V} {p : Nat} {v : Val} {x : V}, lend r hs = some as → lents as ≤ 1 → HReps A G H σ r hs xs → as[p]? = some (true, v) → xs[p]? = some x →
    ∃ i, lentIx r hs = some i ∧ r[i]? = some (some (true, v)) ∧ σ[i]? = some (some x)
  | [], as, _, p, v, x, e, _, _, h, _ => by simp only [lend, Option.some.injEq] at e; subst e; simp at h
  | .tmp false w :: hs, as, _, p, v, x, e, hl, ⟨y, ys, e1, a, b⟩, h, hx => by
    simp only [lend] at e
    split at e
    · rename_i as' q
      cases e; subst e1
      cases p with
      | zero => simp at h
      | succ p =>
        obtain ⟨i, h1, h2, h3⟩ := lend_at q (by simpa [lents] using hl) b (p := p) (by simpa using h) (by simpa using hx)
        exact ⟨i, h1, h2, h3⟩
    · cases e
  | .tmp true v :: hs, as, _, _, _, _, e, _, _, _, _ => by simp only [lend] at e; cases e
  | .sl i :: hs, as, _, p, v, x, e, hl, ⟨y, ys, e1, a, b⟩, h, hx => by
    simp only [lend] at e
    split at e
    · rename_i t q
      split at e
      · rename_i as' q2
        cases e; subst e1
        obtain ⟨o, w⟩ := t
        cases o with
        | false =>
          cases p with
          | zero => simp at h
          | succ p =>
            obtain ⟨i', h1, h2, h3⟩ := lend_at q2 (by simpa [lents] using hl) b (p := p) (by simpa using h) (by simpa using hx)
            exact ⟨i', by simp only [lentIx, q]; exact h1, h2, h3⟩
        | true =>
          have z : lents as' = 0 := by
            have e : lents ((true, w) :: as') = lents as' + 1 := by simp [lents]
            omega
          cases p with
          | zero =>
            simp at h hx; subst h; subst hx
            exact ⟨i, by simp only [lentIx, q], q, a⟩
          | succ p => exact absurd (by simpa using h) (lents_zero z (p := p) (v := v))
      · cases e
    · cases e
/-- a heap behind a call that was lent nothing -/
theorem Ok.post0 (k : Ok A G H σ r) (g : Le G G') (s : Le G' H') (gr : ∀ a, G a = none → G' a ≠ none → H a = none) (kp : Le H H') : Ok A G' H' σ r := k.grow ⟨g, kp, s, gr⟩
/-- .. that was lent slot i's container -/
theorem Ok.post1 {i : Nat} {v : Val} {a : Addr} {out : Slot} (k : Ok A G H σ r) (hi : r[i]? = some (some (true, v))) (hσ : σ[i]? = some (some (.ref a))) (g : Le G G') (s : Le G' H') (gr : ∀ b, G b = none → G' b ≠ none → H b = none ∨ b = a)
    (kp : ∀ b o, H b = some o → b ≠ a → H' b = some o) (out' : OutRel A.w G' H' a out) : Ok A G' H' σ (r.set i out) := by
  obtain ⟨a', e, ro, n, l⟩ := k.ow i v hi
  rw [hσ] at e; cases e
  have il : i < r.length := (List.getElem?_eq_some_iff.mp hi).1
  refine ⟨k.ex0.trans g, fun b h => ?_, fun b o h nl => ?_, s, by rw [List.length_set]; exact k.len, fun j w h1 => ?_, fun j w h1 => ?_, fun p q v' w' b h1 h2 h3 h4 => ?_, k.fx⟩
  · by_cases q : G b = none
    · rcases gr b q h with z | z
      · rcases k.fresh z with z | z
        · exact .inr (.inr z)
        · exact .inr (.inl z)
      · subst z; rcases l with l | l
        · exact .inr (.inr l)
        · exact .inr (.inl l)
    · exact k.gr0 b q
  · refine kp b o (k.fr0 b o h nl) fun z => ?_
    subst z
    rcases l with l | l
    · exact nl l
    · rw [l] at h; cases h
  · rcases set_some h1 rfl with ⟨e1, e2⟩ | ⟨e1, e2⟩
    · subst e1; subst e2; exact ⟨_, hσ, out'⟩
    · obtain ⟨x, e, q⟩ := k.fz j w e2; exact ⟨x, e, q.mono g⟩
  · rcases set_some h1 rfl with ⟨e1, e2⟩ | ⟨e1, e2⟩
    · subst e1; subst e2; exact ⟨a, hσ, out'.1, out'.2, l⟩
    · obtain ⟨b, e, q, nb, lb⟩ := k.ow j w e2
      have ne : b ≠ a := fun z => e1 (k.sep j i w v a e2 hi (by rw [e, z]) hσ)
      refine ⟨b, e, q.mono g (fun o h => kp b o h ne), ?_, lb⟩
      cases z : G' b with
      | none => rfl
      | some o =>
        obtain ⟨u, hu, _⟩ := q.has
        rcases gr b nb (by rw [z]; simp) with y | y
        · rw [hu] at y; cases y
        · exact absurd y ne
  · have own : ∀ {j : Nat} {w : Val}, (r.set i out)[j]? = some (some (true, w)) → ∃ w', r[j]? = some (some (true, w')) := fun {j w} h => by
      rcases set_some h rfl with ⟨e1, e2⟩ | ⟨e1, e2⟩
      · subst e1; exact ⟨v, hi⟩
      · exact ⟨w, e2⟩
    obtain ⟨w1, o1⟩ := own h1
    obtain ⟨w2, o2⟩ := own h2
    exact k.sep p q w1 w2 b o1 o2 h3 h4
theorem rt_set {i : Nat} {v : Val} {out : Slot} (hi : r[i]? = some (some (true, v))) {b : Addr} (h : Rt (r.set i out) σ b) : Rt r σ b := by
  obtain ⟨j, w, h1, h2⟩ := h
  rcases set_some h1 rfl with ⟨e1, e2⟩ | ⟨e1, e2⟩
  · subst e1; exact ⟨j, v, hi, h2⟩
  · exact ⟨j, w, e2, h2⟩
/-- the state behind a call -/
theorem call_state {hs : List Hd} {as : List (Bool × Val)} {xs : List V} {out : Option (Bool × Val)} (k : Ok A G H σ r) (hl : lend r hs = some as) (h1 : lents as ≤ 1) (hr : HReps A G H σ r hs xs) (p : Post A.w G H as xs out G' H') :
    Ok A G' H' σ (back r (lentIx r hs) out) ∧ Step σ r G H (back r (lentIx r hs) out) G' H' := by
  by_cases z : lents as = 0
  · have nl : ∀ a, ¬ Lent as xs a := fun a ⟨q, v, h, _⟩ => lents_zero z h
    rw [lend_none hl z]
    have kp : Le H H' := fun a o h => p.kp a o h (nl a)
    have gr : ∀ a, G a = none → G' a ≠ none → H a = none := fun a h h' => (p.gr a h h').resolve_right (nl a)
    exact ⟨k.post0 p.g p.s gr kp, p.g, fun a o h _ => kp a o h, fun a h h' => .inl (gr a h h'), fun a h => h⟩
  · -- one is lent
    have ⟨q, v, hq⟩ : ∃ (q : Nat) (v : Val), as[q]? = some (true, v) := by
      have : ∀ {as : List (Bool × Val)}, lents as ≠ 0 → ∃ (q : Nat) (v : Val), as[q]? = some (true, v) := by
        intro as
        induction as with
        | nil => intro h; exact absurd rfl h
        | cons t as ih =>
          intro h
          obtain ⟨b, w⟩ := t
          cases b with
          | true => exact ⟨0, w, rfl⟩
          | false =>
            obtain ⟨q, v, e⟩ := ih (by simpa [lents] using h)
            exact ⟨q + 1, v, by simpa using e⟩
      exact this z
    have lx : ∃ x, xs[q]? = some x := by
      have : ∀ {as : List (Bool × Val)} {xs : List V} {q : Nat} {t : Bool × Val}, ARel A.w G H as xs → as[q]? = some t → ∃ x, xs[q]? = some x := by
        intro as
        induction as with
        | nil => intro xs q t _ h; simp at h
        | cons u as ih =>
          intro xs q t h e
          obtain ⟨b, w⟩ := u
          cases b with
          | true =>
            obtain ⟨a, ys, e1, _, _, rest⟩ := h
            subst e1
            cases q with
            | zero => exact ⟨_, rfl⟩
            | succ q => obtain ⟨x, hx⟩ := ih rest (q := q) (by simpa using e); exact ⟨x, by simpa using hx⟩
          | false =>
            obtain ⟨a, ys, e1, _, rest⟩ := h
            subst e1
            cases q with
            | zero => exact ⟨_, rfl⟩
            | succ q => obtain ⟨x, hx⟩ := ih rest (q := q) (by simpa using e); exact ⟨x, by simpa using hx⟩
      exact this (lend_rel k hl hr) hq
    obtain ⟨x, hx⟩ := lx
    obtain ⟨i, e1, e2, e3⟩ := lend_at hl h1 hr hq hx
    obtain ⟨a, e4, ro, n, l⟩ := k.ow i v e2
    rw [e3] at e4
    cases e4
    have only : ∀ b, Lent as xs b → b = a := fun b ⟨q', v', h, h'⟩ => by
      obtain ⟨i', f1, f2, f3⟩ := lend_at hl h1 hr h h'
      rw [e1] at f1; cases f1
      rw [e3] at f3; cases f3; rfl
    have here : Lent as xs a := ⟨q, v, hq, hx⟩
    rw [e1]
    have gr : ∀ b, G b = none → G' b ≠ none → H b = none ∨ b = a := fun b h h' => (p.gr b h h').imp id (only b)
    have kp : ∀ b o, H b = some o → b ≠ a → H' b = some o := fun b o h ne => p.kp b o h fun z => ne (only b z)
    refine ⟨k.post1 e2 e3 p.g p.s gr kp (p.out a here), p.g, fun b o h nb => kp b o h fun z => ?_, fun b h h' => (gr b h h').imp id fun z => ?_, fun b h => rt_set e2 h⟩
    · subst z; exact nb ⟨i, v, e2, e3⟩
    · subst z; exact ⟨i, v, e2, e3⟩
theorem call_of {n : Nat} {g : GF} {f : OsF} {Q : VK} (h : tE A W (callG n g f) σ H Q) : tOs A W f σ H fun vs H1 => spF A.w n g vs H1 Q (fun cls d H2 => W cls d σ H2) := by
  obtain ⟨r, G, k, m⟩ := h
  refine ⟨r, G, k, ?_⟩
  unfold callG at m
  cases hf : f r with
  | bad => rw [hf] at m; exact m.elim
  | ex e r' => rw [hf] at m; exact m
  | ok hs r1 =>
    simp only [hf] at m
    intro xs G1 H1 k1 st1 t1
    cases hl : lend r1 hs with
    | none => simp only [hl] at m
    | some as =>
      simp only [hl] at m
      by_cases hc : lents as ≤ 1 ∧ as.length = n
      · simp only [if_pos hc] at m
        have ar := lend_rel k1 hl t1
        have len : ∀ {as : List (Bool × Val)} {xs : List V}, ARel A.w G1 H1 as xs → xs.length = as.length := by
          intro as
          induction as with
          | nil => intro xs h; have h' : xs = [] := h; subst h'; rfl
          | cons t as ih =>
            intro xs h
            obtain ⟨b, w⟩ := t
            cases b with
            | true => obtain ⟨a, ys, e1, _, _, rest⟩ := h; subst e1; simp [ih rest]
            | false => obtain ⟨a, ys, e1, _, rest⟩ := h; subst e1; simp [ih rest]
        refine ⟨G1, as, by rw [len ar, hc.2], k1.sub, ar, hc.1, ?_⟩
        cases hg : g as with
        | bad => simp only [hg] at m
        | ok o z out =>
          simp only [hg] at m ⊢
          intro u G' H' p nr
          obtain ⟨k2, st2⟩ := call_state k1 hl hc.1 t1 p
          refine m u G' H' ⟨k2, st1.trans st2, ?_, fun eo a ea => ?_⟩
          · cases o with
            | true =>
              obtain ⟨a, e, ro, n, n2⟩ := nr
              exact ⟨a, e, ro, n, fun z => k1.notRt n2 (st2.rts a z), k1.fresh n2⟩
            | false => exact nr
          · subst eo
            obtain ⟨b, e, _, _, n2⟩ := nr
            rw [ea] at e; cases e
            exact st1.fresh n2
        | ex e out =>
          simp only [hg] at m ⊢
          cases e with
          | obj c fs =>
            intro G' H' C dx ys p hC hd hF
            obtain ⟨k2, st2⟩ := call_state k1 hl hc.1 t1 p
            exact m G' H' C dx ys k2 (st1.trans st2).ex hC hd hF
          | _ => exact m
      · simp only [if_neg hc] at m
end
end M
/-! MPG: defs that are called where no repr is under way (the stack of guards is empty). -/
namespace M
open PySem L2

structure RoomG (k : Nat) (A : Around) : Prop where
  room : Room k A
  gs : A.guards = some []
theorem RoomG.le {j k : Nat} {A : Around} (r : RoomG k A) (h : j ≤ k) : RoomG j A := ⟨r.room.mono h, r.gs⟩
theorem RoomG.deep {k : Nat} {A : Around} (r : RoomG (k + 1) A) (env : PySem.Env) : RoomG k (A.deeper env) := ⟨r.room.deeper env, r.gs⟩
/-- the def at f keeps the promise sp -/
structure FnG (P : Program) (w : World) (K : PySem.W.Frag) (mg : Str → Option Value) (base : Heap) (CX : CXT) (k : Nat) (f : Addr) (fd : FuncData) (ps : List Str) (sp : Sp) : Prop where
  len : ∀ vs H Q E, sp vs H Q E → vs.length = ps.length
  go : ∀ (A : Around) (outer : List PySem.Env) (s : Shared) (H : Hp) (args : Args) (us : List Value) (vs : List V) (Q : VK) (E : XK),
    RoomG k A → Env0 P w K mg base A outer s H → BindsTo s fd args (ps.zip us) → Vals vs us → sp vs H Q E → codeAny (model P w) A (.call (.ref f) args) (CR CX outer P w H s Q E) s
section
variable {P : Program} {w : World} {K : PySem.W.Frag} {mg : Str → Option Value} {base : Heap} {CX : CXT} {k : Nat}
theorem FnG.up {j : Nat} {f : Addr} {fd : FuncData} {ps : List Str} {sp : Sp} (F : FnG P w K mg base CX j f fd ps sp) (h : j ≤ k) : FnG P w K mg base CX k f fd ps sp :=
  ⟨F.len, fun A o s H args us vs Q E hr => F.go A o s H args us vs Q E (hr.le h)⟩
theorem FnG.weak {f : Addr} {fd : FuncData} {ps : List Str} {sp sp' : Sp} (F : FnG P w K mg base CX k f fd ps sp) (h : ∀ vs H Q E, sp' vs H Q E → sp vs H Q E) : FnG P w K mg base CX k f fd ps sp' :=
  ⟨fun vs H Q E q => F.len vs H Q E (h _ _ _ _ q), fun A o s H args us vs Q E hr e b r q => F.go A o s H args us vs Q E hr e b r (h _ _ _ _ q)⟩
/-- from the body -/
theorem fnG_of {f : Addr} {name qual : Str} {params : Arguments} {body : List Stmt} {scope : Scope} {dV kV doc pm cdv ct oc : Value} {an od : Option Addr} {osl : Array (Option Value)} {N ps : List Str} {sp : Sp}
    (lk : K.lookup f = some ⟨oc, od, .func (PySem.W.fnOf name qual params body scope dV kV doc pm an cdv ct), osl⟩) (hcd : PySem.W.codeIn K cdv qual = true) (S : FnScope N ps scope) (len : ∀ vs H Q E, sp vs H Q E → vs.length = ps.length)
    (hb : ∀ (A : Around) (outer : List PySem.Env) (s : Shared) (H : Hp) (vs : List V) (Q : VK) (E : XK), RoomG k (A.deeper (PyProof.Rows.envOfC qual scope s.heap.objs.size f cdv)) → sp vs H Q E →
      ∃ t, PSs (cxOf CX P w K mg base N qual scope f cdv A outer s H E) body t ∧ t { nx := fun _ H' => Q .non H', rt := Q } (L2.start N vs) H) :
    FnG P w K mg base CX (k + 1) f (PySem.W.fnOf name qual params body scope dV kV doc pm an cdv ct) ps sp := by
  constructor
  case len => exact len
  case go =>
    intro A outer s H args us vs Q E hr e0 hbind rv hsp
    have inK : K.In s.heap := e0.mod.kin.keeps fun b o e => (e0.bs b o e).1
    have obj := inK _ _ lk
    obtain ⟨t, ht, q0⟩ := hb A outer s H vs Q E (hr.deep _) hsp
    apply codeAny_call_function hr.room.depth obj rfl S.co S.gen rfl (PySem.W.codeRec_of inK hcd)
    apply hbind
    apply wpAny_newFunctionEnv_cells S.kind
    · rintro ⟨n, v⟩ hy
      rcases S.par n (List.of_mem_zip hy).1 with z | z
      · left; exact z
      · right; exact ⟨z, PySem.W.cellsFrom_some _ _ _ (.inl z)⟩
    · intro env he s1 x
      subst he
      constructor
      · exact (e0.mod.nolimit.keeps fun b o e => (e0.bs b o e).1).keeps x.toInCall.keep
      · apply codeAny_func
        have I0 := inv_start (CX := CX) (P := P) (w := w) (K := K) (mg := mg) (base := base) (E := E) S hr.room.hd e0 (len _ _ _ _ hsp) rv x
        apply wpAny_mono (ht.run [] s1 (L2.start N vs) H _ I0 q0)
        · intro fl s' z
          cases fl with
          | next => obtain ⟨σ', H', J, y⟩ := z; exact ⟨.non, H', J.os, J.bare, J.base, J.hok, rfl, y⟩
          | ret u => obtain ⟨v, σ', H', J, r', y⟩ := z; exact ⟨v, H', J.os, J.bare, J.base, J.hok, r', y⟩
          | brk => obtain ⟨_, _, _, y⟩ := z; exact y.elim
          | cont => obtain ⟨_, _, _, y⟩ := z; exact y.elim
        · intro e s' z; exact z
end
section
variable {X : Cx} {CX : CXT} {k : Nat} {f : Addr} {fd : FuncData} {ps : List Str} {sp : Sp} {pins : List (Addr × Obj)} {σ : L2.St} {H : Hp} {s : Shared} {Q : VK} {E : XK}
/-- what is left behind a callee's run -/
theorem ran (I : Inv X pins σ H s) (hx : ∀ e s', CX X.stack H s E e s' → X.xe e s') {args : Args} (h : codeAny (model X.prog X.w) X.A (.call (.ref f) args) (CR CX X.stack X.prog X.w H s Q E) s) :
    wpAny (model X.prog X.w) X.A (call (.ref f) args.pos args.kw) (EP X pins σ Q) X.xe s := by
  apply wpAny_call
  apply codeAny_mono h
  intro r s' z
  match r, z with
  | .error e, z => exact hx e s' z
  | .ok (.ret u), z => exact I.after z
  | .ok .next, z => exact z.elim
  | .ok .brk, z => exact z.elim
  | .ok .cont, z => exact z.elim
theorem run_G (F : FnG X.prog X.w X.K X.mg X.base CX k f fd ps sp) (hr : RoomG k X.A) (hx : ∀ e s', CX X.stack H s E e s' → X.xe e s') (I : Inv X pins σ H s) {args : Args} {us : List Value} {vs : List V} (hb : BindsTo s fd args (ps.zip us)) (r : Vals vs us)
    (h : sp vs H Q E) : wpAny (model X.prog X.w) X.A (call (.ref f) args.pos args.kw) (EP X pins σ Q) X.xe s := ran I hx (F.go X.A X.stack s H args us vs Q E hr I.env0 hb r h)
end
end M
/-! MP4: a def's body, statements, loops, comprehensions. -/
namespace M
open PySem L2

/-! ### a def -/
def ownIx : List (Bool × Val) → Option Nat
  | [] => none
  | (true, _) :: _ => some 0
  | (false, _) :: as => (ownIx as).map (· + 1)
def outOf (as : List (Bool × Val)) (r : Env) : Option (Option (Bool × Val)) := match ownIx as with
  | none => some none
  | some i => match r[i]? with
    | some (some t) => some (some t)
    | _ => none
def runDef (ios : List Nat) (np N : Nat) (body : SF) : GF := fun as =>
  if as.length = np ∧ (∀ i ∈ ownIx as, i ∈ ios) then
    match body (as.map some ++ List.replicate (N - np) none) with
    | .nx r => match outOf as r with
      | some out => .ok false .non out
      | none => .bad
    | .rt o v r => match outOf as r with
      | some out => if o = true ∧ out.map (·.1) = some false then .bad else .ok o v out
      | none => .bad
    | .ex e r => match outOf as r with
      | some out => .ex e out
      | none => .bad
    | _ => .bad
  else .bad
theorem ownIx_none : ∀ {as : List (Bool × Val)}, ownIx as = none → ∀ {p : Nat} {v : Val}, as[p]? ≠ some (true, v)
  | [], _, p, v => by simp
  | (true, w) :: as, h, _, _ => by simp [ownIx] at h
  | (false, w) :: as, h, p, v => by
    have h' : ownIx as = none := by simpa [ownIx] using h
    cases p with
    | zero => simp
    | succ p => simpa using ownIx_none h' (p := p) (v := v)
theorem ownIx_some : ∀ {as : List (Bool × Val)} {i : Nat}, ownIx as = some i → ∃ v, as[i]? = some (true, v)
  | [], i, h => by simp [ownIx] at h
  | (true, w) :: as, i, h => by simp [ownIx] at h; subst h; exact ⟨w, rfl⟩
  | (false, w) :: as, i, h => by
    simp only [ownIx, Option.map_eq_some_iff] at h
    obtain ⟨j, h, e⟩ := h
    subst e
    obtain ⟨v, e⟩ := ownIx_some h
    exact ⟨v, by simpa using e⟩
theorem own_one : ∀ {as : List (Bool × Val)} {p q : Nat} {v w : Val}, lents as ≤ 1 → as[p]? = some (true, v) → as[q]? = some (true, w) → p = q
  | [], _, _, _, _, _, h, _ => by simp at h
  | (true, u) :: as, p, q, v, w, h, h1, h2 => by
    have z : lents as = 0 := by
      have e : lents ((true, u) :: as) = lents as + 1 := by simp [lents]
      omega
    cases p with
    | zero =>
      cases q with
      | zero => rfl
      | succ q => exact absurd (by simpa using h2) (lents_zero z (p := q) (v := w))
    | succ p => exact absurd (by simpa using h1) (lents_zero z (p := p) (v := v))
  | (false, u) :: as, p, q, v, w, h, h1, h2 => by
    cases p with
    | zero => simp at h1
    | succ p =>
      cases q with
      | zero => simp at h2
      | succ q =>
        have := own_one (as := as) (p := p) (q := q) (by simpa [lents] using h) (by simpa using h1) (by simpa using h2)
        omega
theorem arel_get {w : Wd} {G H : Hp} : ∀ {as : List (Bool × Val)} {xs : List V} {p : Nat} {o : Bool} {v : Val}, ARel w G H as xs → as[p]? = some (o, v) → ∃ x, xs[p]? = some x ∧ match o with
    | true => ∃ a, x = .ref a ∧ Root w G H v a ∧ G a = none
    | false => Rep w G v x
  | [], _, _, _, _, _, h => by simp at h
  | (true, u) :: as, _, p, o, v, ⟨a, ys, e, r, n, t⟩, h => by
    subst e
    cases p with
    | zero => simp at h; obtain ⟨h1, h2⟩ := h; subst h1; subst h2; exact ⟨_, rfl, a, rfl, r, n⟩
    | succ p => obtain ⟨x, e, q⟩ := arel_get t (p := p) (by simpa using h); exact ⟨x, by simpa using e, q⟩
  | (false, u) :: as, _, p, o, v, ⟨a, ys, e, r, t⟩, h => by
    subst e
    cases p with
    | zero => simp at h; obtain ⟨h1, h2⟩ := h; subst h1; subst h2; exact ⟨_, rfl, r⟩
    | succ p => obtain ⟨x, e, q⟩ := arel_get t (p := p) (by simpa using h); exact ⟨x, by simpa using e, q⟩
theorem arel_length {w : Wd} {G H : Hp} : ∀ {as : List (Bool × Val)} {xs : List V}, ARel w G H as xs → xs.length = as.length
  | [], _, h => by have h' : _ = [] := h; subst h'; rfl
  | (true, u) :: as, _, ⟨a, ys, e, _, _, t⟩ => by subst e; simp [arel_length t]
  | (false, u) :: as, _, ⟨a, ys, e, _, t⟩ => by subst e; simp [arel_length t]
/-- the act of a call -/
def actOf (w : Wd) (G H : Hp) (as : List (Bool × Val)) (vs : List V) : Act := ⟨w, G, H, Lent as vs, (ownIx as).toList, fun i => vs[i]?⟩
theorem start_get {N : List Str} {vs : List V} {i : Nat} {x : V} (h : vs[i]? = some x) : (L2.start N vs)[i]? = some (some x) := by
  unfold L2.start
  have hl : i < vs.length := (List.getElem?_eq_some_iff.mp h).1
  rw [List.getElem?_append_left (by simpa using hl), List.getElem?_map, h]; rfl
theorem env0_get {as : List (Bool × Val)} {k i : Nat} {t : Bool × Val} (h : (as.map some ++ List.replicate k (none : Slot))[i]? = some (some t)) : as[i]? = some t := by
  by_cases hl : i < as.length
  · rw [List.getElem?_append_left (by simpa using hl), List.getElem?_map] at h
    cases e : as[i]? with
    | none => rw [e] at h; cases h
    | some u => rw [e] at h; cases h; rfl
  · rw [List.getElem?_append_right (by simpa using hl), List.getElem?_replicate] at h
    split at h <;> cases h
theorem act_ok {w : Wd} {G H : Hp} {as : List (Bool × Val)} {vs : List V} {N : List Str} (g : Le G H) (ar : ARel w G H as vs) (l1 : lents as ≤ 1) (hl : vs.length ≤ N.length) : Ok (actOf w G H as vs) G H (L2.start N vs) (as.map some ++ List.replicate (N.length - as.length) none) where
  ex0 := Le.refl _
  gr0 := fun a h => .inl h
  fr0 := fun a o h _ => h
  sub := g
  len := by
    have := arel_length ar
    unfold L2.start
    simp
    omega
  fz := fun i v h => by
    obtain ⟨x, e, q⟩ := arel_get ar (env0_get h)
    exact ⟨x, start_get e, q⟩
  ow := fun i v h => by
    have h' := env0_get h
    obtain ⟨x, e, a, e2, q, n⟩ := arel_get ar h'
    subst e2
    exact ⟨a, start_get e, q, n, .inl ⟨i, v, h', e⟩⟩
  sep := fun i j v w a h1 h2 _ _ => own_one l1 (env0_get h1) (env0_get h2)
  fx := fun i hi => by
    have hi' : ownIx as = some i := by simpa [actOf] using hi
    obtain ⟨v, e⟩ := ownIx_some hi'
    obtain ⟨x, e1, _⟩ := arel_get ar e
    show (L2.start N vs)[i]? = some vs[i]?
    rw [e1]; exact start_get e1
theorem act_post {w : Wd} {G H G' H' : Hp} {as : List (Bool × Val)} {vs : List V} {σ : L2.St} {r : Env} {out : Option (Bool × Val)} (ar : ARel w G H as vs) (l1 : lents as ≤ 1) (k : Ok (actOf w G H as vs) G' H' σ r) (ho : outOf as r = some out) : Post w G H as vs out G' H' where
  g := k.ex0
  s := k.sub
  gr := fun a h h' => (k.gr0 a h').elim (fun z => absurd h z) id
  kp := k.fr0
  out := fun a ⟨i, v, h1, h2⟩ => by
    have hi : ownIx as = some i := by
      cases e : ownIx as with
      | none => exact absurd h1 (ownIx_none e)
      | some j =>
        obtain ⟨w', e'⟩ := ownIx_some e
        rw [own_one l1 e' h1]
    have fx : σ[i]? = some vs[i]? := k.fx i (by simp [actOf, hi])
    rw [h2] at fx
    unfold outOf at ho
    rw [hi] at ho
    simp only at ho
    split at ho
    · rename_i t q
      cases ho
      obtain ⟨b, u⟩ := t
      cases b with
      | true =>
        obtain ⟨c, e, ro, n, _⟩ := k.ow i u q
        rw [fx] at e; cases e
        exact ⟨ro, n⟩
      | false =>
        obtain ⟨x, e, rp⟩ := k.fz i u q
        rw [fx] at e; cases e
        exact rp
    · cases ho

/-- what a body's rule says, whatever it runs over -/
structure SV (X : Cx) (w : Wd) (ios : List Nat) (sts : List Stmt) (f : SF) : Prop where
  run : ∀ (A : Act) (W : WX), A.w = w → (∀ i ∈ A.io, i ∈ ios) → Takes X W → PSs X sts (tSt A W f)
section
variable {P : Program} {w : World} {K : PySem.W.Frag} {mg : Str → Option Value} {base : Heap}
theorem def_ok {x qual : Str} {st : Stmt} {f : Addr} {fd : FuncData} {N ps : List Str} {k : Nat} {wd : Wd} {ios : List Nat} {body : SF} {g : GF} (F : Fun K x qual st f fd) (S : FnScope N ps (defScope st))
    (hb : ∀ (cdv : Value) (A : Around) (outer : List PySem.Env) (s : Shared) (H : Hp) (E : XK), RoomG k (A.deeper (PyProof.Rows.envOfC qual (defScope st) s.heap.objs.size f cdv)) →
      SV (cxOf (L2.CX P w) P w K mg base N qual (defScope st) f cdv A outer s H E) wd ios (defBody st) body)
    (hg : ∀ as, g as = .bad ∨ g as = runDef ios ps.length N.length body as) : FnG P w K mg base (L2.CX P w) (k + 1) f fd ps (spF wd ps.length g) := by
  obtain ⟨oc, od, kV, doc, pm, an, cdv, ct, osl, rfl, lk, hcd⟩ := F.ex
  refine fnG_of lk hcd S (fun vs H Q E ⟨G, as, h, _⟩ => h) fun A outer s H vs Q E hr ⟨G, as, hlen, hle, ar, l1, hm⟩ => ?_
  have h1 : g as = runDef ios ps.length N.length body as := (hg as).resolve_left fun z => by rw [z] at hm; exact hm
  rw [h1] at hm
  unfold runDef at hm
  by_cases hc : as.length = ps.length ∧ (∀ i ∈ ownIx as, i ∈ ios)
  case neg => rw [if_neg hc] at hm; exact hm.elim
  rw [if_pos hc] at hm
  have hN : ps.length ≤ N.length := by
    have := congrArg List.length S.pre
    rw [List.length_take] at this; omega
  refine ⟨_, (hb cdv A outer s H E hr).run (actOf wd G H as vs) (fun cls d _ H => E cls d H) rfl (fun i hi => hc.2 i (by simpa [actOf] using hi)) (takes_of rfl rfl rfl rfl), _, G, act_ok (N := N) hle ar l1 (by omega), ?_⟩
  rw [← hc.1] at hm
  generalize hB : body (as.map some ++ List.replicate (N.length - as.length) none) = res at hm ⊢
  cases res with
  | bad => exact hm.elim
  | bk r => exact hm.elim
  | ct r => exact hm.elim
  | nx r =>
    intro σ' G' H' k' _
    cases ho : outOf as r with
    | none => simp only [ho] at hm
    | some out =>
      simp only [ho] at hm
      exact hm .non G' H' (act_post ar l1 k' ho) (nrep_f (rep_non.mpr rfl))
  | rt o v r =>
    intro u σ' G' H' k' _ tr
    cases ho : outOf as r with
    | none => simp only [ho] at hm
    | some out =>
      simp only [ho] at hm
      by_cases hx : o = true ∧ out.map (·.1) = some false
      case pos => simp only [if_pos hx] at hm
      simp only [if_neg hx] at hm
      refine hm u G' H' (act_post ar l1 k' ho) ?_
      cases o with
      | false => exact tr
      | true =>
        obtain ⟨b, e, ro, n, nr, l⟩ := tr
        refine ⟨b, e, ro, n, ?_⟩
        rcases l with l | l
        · exfalso
          obtain ⟨i, v', h1, h2⟩ := l
          have hi : ownIx as = some i := by
            cases e : ownIx as with
            | none => exact absurd h1 (ownIx_none e)
            | some j =>
              obtain ⟨w', e'⟩ := ownIx_some e
              rw [own_one l1 e' h1]
          have fx : σ'[i]? = some vs[i]? := k'.fx i (by simp [actOf, hi])
          rw [h2] at fx
          unfold outOf at ho
          rw [hi] at ho
          simp only at ho
          split at ho
          · rename_i t q
            cases ho
            obtain ⟨c, u'⟩ := t
            cases c with
            | true => exact nr ⟨i, u', q, fx⟩
            | false => exact hx ⟨rfl, rfl⟩
          · cases ho
        · exact l
  | ex e r =>
    intro σ'
    cases ho : outOf as r with
    | none => simp only [ho] at hm
    | some out =>
      simp only [ho] at hm
      cases e with
      | obj c fs => exact fun G' H' C dx xs k' _ hC hd hF => hm G' H' C dx xs (act_post ar l1 k' ho) hC hd hF
      | _ => exact hm
end
end M
/-! MP5: statements. -/
namespace M
open PySem L2

def seq (f g : SF) : SF := fun r => match f r with
  | .nx r' => g r'
  | x => x
def skip : SF := fun r => .nx r
def brk : SF := fun r => .bk r
def cont : SF := fun r => .ct r
/-- never run -/
def never : SF := fun _ => .bad
def asg (i : Nat) (f : EF) : SF := fun r => match f r with
  | .ok o v r' => .nx (r'.set i (some (o, v)))
  | .ex e r' => .ex e r'
  | .bad => .bad
def drop (f : EF) : SF := fun r => match f r with
  | .ok _ _ r' => .nx r'
  | .ex e r' => .ex e r'
  | .bad => .bad
def ret (f : EF) : SF := fun r => match f r with
  | .ok o v r' => .rt o v r'
  | .ex e r' => .ex e r'
  | .bad => .bad
def ifS (c : BF) (f g : SF) : SF := fun r => match c r with
  | .ok true r' => f r'
  | .ok false r' => g r'
  | .ex e r' => .ex e r'
  | .bad => .bad
def whl (c : BF) (b : SF) : Nat → SF
  | 0 => fun _ => .bad
  | n + 1 => fun r => match c r with
    | .ok true r1 => match b r1 with
      | .nx r2 => whl c b n r2
      | .ct r2 => whl c b n r2
      | .bk r2 => .nx r2
      | x => x
    | .ok false r1 => .nx r1
    | .ex e r1 => .ex e r1
    | .bad => .bad
/-- x op= e, ints -/
def aug (i : Nat) (P : Int → Int → Int) (f : EF) : SF := fun r => match r[i]? with
  | some (some (false, .int a)) => match f r with
    | .ok _ v r' => match v with
      | .int b => .nx (r'.set i (some (false, .int (P a b))))
      | _ => .bad
    | .ex e r' => .ex e r'
    | .bad => .bad
  | _ => .bad

section
variable {X : Cx} {A : Act} {W : WX} {e : Expr} {f g : SF} {fe : EF} {c : BF} {st : Stmt} {sts rest : List Stmt} {pos : Pos} {D : Ends} {σ : L2.St} {H : Hp}
theorem tSt_iff : tSt A W f D σ H ↔ ∃ r G, Ok A G H σ r ∧ Fin A W G D (f r) := Iff.rfl
theorem tSt_mk {r : Env} {G : Hp} (k : Ok A G H σ r) (m : Fin A W G D (f r)) : tSt A W f D σ H := tSt_iff.mpr ⟨r, G, k, m⟩
theorem seq_of (h : tSt A W (seq f g) D σ H) : tSeq (tSt A W f) (tSt A W g) D σ H := by
  obtain ⟨r, G, k, m⟩ := tSt_iff.mp h
  refine tSt_mk (D := { D with nx := tSt A W g D }) k ?_
  unfold seq at m
  cases hf : f r with
  | nx r' => rw [hf] at m; exact fun σ' G' H' k' l => tSt_mk k' (m.mono l)
  | _ => rw [hf] at m; exact m
theorem pss_nil' : PSs X [] (tSt A W skip) := PSs.imp pss_nil fun D σ H ⟨r, G, k, m⟩ => m σ G H k (Le.refl _)
theorem pss_cons' (h1 : PS X st (tSt A W f)) (h2 : PSs X rest (tSt A W g)) : PSs X (st :: rest) (tSt A W (seq f g)) := PSs.imp (pss_cons h1 h2) fun _ _ _ h => seq_of h
theorem pss_one' (h1 : PS X st (tSt A W f)) : PSs X [st] (tSt A W f) := pss_one h1
theorem ps_pass' : PS X (.Pass pos) (tSt A W skip) := PS.imp ps_pass fun D σ H ⟨r, G, k, m⟩ => m σ G H k (Le.refl _)
theorem ps_brk' : PS X (.Break pos) (tSt A W brk) := PS.imp ps_break fun D σ H ⟨r, G, k, m⟩ => m σ G H k (Le.refl _)
theorem ps_cont' : PS X (.Continue pos) (tSt A W cont) := PS.imp ps_continue fun D σ H ⟨r, G, k, m⟩ => m σ G H k (Le.refl _)
theorem ps_never' : PS X st (tSt A W never) := PS.imp ps_never fun D σ H ⟨r, G, k, m⟩ => m
theorem pss_never' : PSs X sts (tSt A W never) := PSs.imp pss_never fun D σ H ⟨r, G, k, m⟩ => m
theorem ps_doc' {x j} {pos' : Pos} : PS X (.Expr (.Constant (.str x) j pos) pos') (tSt A W skip) := PS.imp ps_doc fun D σ H ⟨r, G, k, m⟩ => m σ G H k (Le.refl _)
theorem ps_drop' (he : PE X e (tE A W fe)) (hs : swapsWith e none pos.line X.env = pure false := by rfl) : PS X (.Expr e pos) (tSt A W (drop fe)) :=
  PS.imp (ps_expr he hs) fun D σ H ⟨r, G, k, m⟩ => ⟨r, G, k, by
    unfold drop at m
    cases hf : fe r with
    | bad => rw [hf] at m; exact m.elim
    | ex e r' => simp only [hf] at m ⊢; exact m σ
    | ok o v r' => simp only [hf] at m ⊢; exact fun x G' H' R => m σ G' H' R.ok R.st.ex⟩
theorem ps_ret' (he : PE X e (tE A W fe)) : PS X (.Return (some e) pos) (tSt A W (ret fe)) :=
  PS.imp (ps_ret he) fun D σ H ⟨r, G, k, m⟩ => ⟨r, G, k, by
    unfold ret at m
    cases hf : fe r with
    | bad => rw [hf] at m; exact m.elim
    | ex e r' => simp only [hf] at m ⊢; exact m σ
    | ok o v r' => simp only [hf] at m ⊢; exact fun x G' H' R => m x σ G' H' R.ok R.st.ex R.tr⟩
theorem ps_retN' : PS X (.Return none pos) (tSt A W (ret (cst .non))) := PS.imp ps_retN fun D σ H ⟨r, G, k, m⟩ => m .non σ G H k (Le.refl _) (trep_f (rep_non.mpr rfl))
/-- the value goes to slot i -/
theorem Ok.store {G : Hp} {r : Env} {o : Bool} {v : Val} {x : V} {i : Nat} (k : Ok A G H σ r) (t : TRep A G H σ r o v x) (hi : i ∉ A.io) : Ok A G H (σ.set i (some x)) (r.set i (some (o, v))) := by
  have σ_at : ∀ {j : Nat} {s : Option V}, (σ.set i (some x))[j]? = some s → (j = i ∧ s = some x) ∨ (j ≠ i ∧ σ[j]? = some s) := fun {j s} h => by
    by_cases q : i = j
    · subst q
      by_cases l : i < σ.length
      · rw [List.getElem?_set_self l] at h; cases h; exact .inl ⟨rfl, rfl⟩
      · rw [List.getElem?_eq_none (by simpa using l)] at h; cases h
    · rw [List.getElem?_set_ne q] at h
      exact .inr ⟨fun z => q z.symm, h⟩
  have there : ∀ {j : Nat}, j ≠ i → (σ.set i (some x))[j]? = σ[j]? := fun {j} h => List.getElem?_set_ne (Ne.symm h)
  have here : ∀ {t : Bool × Val}, (r.set i (some (o, v)))[i]? = some (some t) → (σ.set i (some x))[i]? = some (some x) := fun {t} h => by
    refine List.getElem?_set_self ?_
    have := (List.getElem?_eq_some_iff.mp h).1
    rw [List.length_set] at this
    rw [k.len]; exact this
  refine ⟨k.ex0, k.gr0, k.fr0, k.sub, by rw [List.length_set, List.length_set]; exact k.len, fun j w h => ?_, fun j w h => ?_, fun p q v' w' b h1 h2 h3 h4 => ?_, fun j hj => ?_⟩
  · rcases set_some h rfl with ⟨e1, e2⟩ | ⟨e1, e2⟩
    · subst e1; cases e2; exact ⟨x, here h, t⟩
    · obtain ⟨y, e, q⟩ := k.fz j w e2; exact ⟨y, by rw [there e1]; exact e, q⟩
  · rcases set_some h rfl with ⟨e1, e2⟩ | ⟨e1, e2⟩
    · subst e1; cases e2
      obtain ⟨a, e, ro, n, _, l⟩ := t
      subst e
      exact ⟨a, here h, ro, n, l⟩
    · obtain ⟨b, e, q, nb, lb⟩ := k.ow j w e2; exact ⟨b, by rw [there e1]; exact e, q, nb, lb⟩
  · have nr : ∀ {j : Nat} {w : Val} {b : Addr}, j ≠ i → r[j]? = some (some (true, w)) → σ[j]? = some (some (.ref b)) → o = true → x = .ref b → False := fun {j w b} hj h h' eo ex => by
      subst eo; subst ex
      obtain ⟨a, e, _, _, nr, _⟩ := t
      cases e
      exact nr ⟨j, w, h, h'⟩
    rcases set_some h1 rfl with ⟨e1, e2⟩ | ⟨e1, e2⟩
    · cases e2
      rcases set_some h2 rfl with ⟨e3, e4⟩ | ⟨e3, e4⟩
      · rw [e1, e3]
      · exfalso
        rw [there e3] at h4
        subst e1
        rw [here h1] at h3
        cases h3
        exact nr e3 e4 h4 rfl rfl
    · rcases set_some h2 rfl with ⟨e3, e4⟩ | ⟨e3, e4⟩
      · exfalso
        cases e4
        rw [there e1] at h3
        subst e3
        rw [here h2] at h4
        cases h4
        exact nr e1 e2 h3 rfl rfl
      · rw [there e1] at h3; rw [there e3] at h4
        exact k.sep p q v' w' b e2 e4 h3 h4
  · have : j ≠ i := fun z => hi (z ▸ hj)
    rw [there this]; exact k.fx j hj
theorem ps_asg' {i : Nat} {x : Str} {pos' : Pos} (hN : X.N.Nodup) (hi : X.N[i]? = some x) (hx : Loc X.env.scope x) (he : PE X e (tE A W fe)) (hio : i ∉ A.io) (hs : swapsWith e (some (.Name x pos')) pos.line X.env = pure false := by rfl)
    (hf : X.fn x = true ∨ X.env.scope.names.lookup x = some .local := by first | exact .inl rfl | exact .inr rfl | assumption) : PS X (.Assign [.Name x pos'] e pos) (tSt A W (asg i fe)) :=
  PS.imp (ps_set hN hi hx he hs hf) fun D σ H ⟨r, G, k, m⟩ => ⟨r, G, k, by
    unfold asg at m
    cases hf : fe r with
    | bad => rw [hf] at m; exact m.elim
    | ex e r' => simp only [hf] at m ⊢; exact m σ
    | ok o v r' => simp only [hf] at m ⊢; exact fun x G' H' R => m _ G' H' (R.ok.store R.tr hio) R.st.ex⟩
theorem ps_if' {t : Expr} {a b : List Stmt} (hc : PT X t (tBo A W c)) (ha : PSs X a (tSt A W f)) (hb : PSs X b (tSt A W g)) : PS X (.If t a b pos) (tSt A W (ifS c f g)) :=
  PS.imp (ps_if hc ha hb) fun D σ H h => by
    obtain ⟨r, G, k, m⟩ := tSt_iff.mp h
    refine ⟨r, G, k, ?_⟩
    unfold ifS at m
    rcases hf : c r with ⟨_ | _, r1⟩ | _ | _
    · simp only [hf] at m ⊢
      intro G1 H1 k1 st1
      simp only [Bool.false_eq_true, if_false]
      exact tSt_mk k1 (m.mono st1.ex)
    · simp only [hf] at m ⊢
      intro G1 H1 k1 st1
      simp only [if_true]
      exact tSt_mk k1 (m.mono st1.ex)
    · simp only [hf] at m ⊢; exact m σ
    · simp only [hf] at m; exact m.elim
theorem ps_whl' {t : Expr} {body : List Stmt} (hp : PassesOwn (model X.prog X.w) X.A X.env X.xe) (hc : PT X t (tBo A W c)) (hb : PSs X body (tSt A W f)) (n : Nat) : PS X (.While t body [] pos) (tSt A W (whl c f n)) := by
  refine PS.imp (ps_while hp hc hb) fun D σ H h => ⟨fun m σ H => tSt A W (whl c f m) D σ H, ⟨n, h⟩, fun m σ H h => ?_⟩
  obtain ⟨r, G, k, q⟩ := tSt_iff.mp h
  refine ⟨r, G, k, ?_⟩
  cases m with
  | zero => exact q.elim
  | succ m =>
    rw [whl] at q
    rcases hf : c r with ⟨_ | _, r1⟩ | _ | _
    · simp only [hf] at q ⊢
      intro G1 H1 k1 st1
      simp only [Bool.false_eq_true, if_false]
      exact q _ _ _ k1 st1.ex
    · simp only [hf] at q ⊢
      intro G1 H1 k1 st1
      simp only [if_true]
      refine ⟨tSt A W (whl c f m) D, fun σ' H' h' => ⟨m, Nat.lt_succ_self m, h'⟩, ?_⟩
      refine tSt_mk k1 (Fin.mono st1.ex ?_)
      cases hg : f r1 with
      | nx r2 => simp only [hg] at q; exact fun σ' G' H' k' l => tSt_mk k' (q.mono l)
      | ct r2 => simp only [hg] at q; exact fun σ' G' H' k' l => tSt_mk k' (q.mono l)
      | bk r2 => simp only [hg] at q; exact q
      | rt o v r2 => simp only [hg] at q; exact q
      | ex e r2 => simp only [hg] at q; exact q
      | bad => simp only [hg] at q; exact q
    · simp only [hf] at q ⊢; exact q σ
    · simp only [hf] at q; exact q.elim
theorem ps_aug' {i : Nat} {x : Str} {op : Operator} {P : Int → Int → Int} {pos' : Pos} (hN : X.N.Nodup) (hi : X.N[i]? = some x) (hx : Loc X.env.scope x) (he : PE X e (tE A W fe)) (ho : PIp X op (ipI P)) (hio : i ∉ A.io)
    (hf : X.fn x = true ∨ X.env.scope.names.lookup x = some .local := by first | exact .inl rfl | exact .inr rfl | assumption) : PS X (.AugAssign (.Name x pos') op e pos) (tSt A W (aug i P fe)) :=
  PS.imp (ps_aug hN hi hx he ho hf) fun D σ H h => by
    obtain ⟨r, G, k, m⟩ := tSt_iff.mp h
    rcases q : r[i]? with _ | _ | ⟨_ | _, v⟩
    · simp only [aug, q] at m; exact m.elim
    · simp only [aug, q] at m; exact m.elim
    · cases v with
      | int a =>
        simp only [aug, q] at m
        obtain ⟨y, e1, e2⟩ := k.fz i _ q
        rw [rep_int] at e2; subst e2
        refine ⟨.int a, e1, r, G, k, ?_⟩
        cases hf : fe r with
        | bad => simp only [hf] at m; exact m.elim
        | ex e r' => simp only [hf] at m ⊢; exact m σ
        | ok o v r' =>
          simp only [hf] at m ⊢
          intro y G' H' R
          cases v with
          | int b =>
            have ey : y = .int b := by
              have t := R.tr
              cases o with
              | true => obtain ⟨_, _, ro, _⟩ := t; exact ro.elim
              | false => exact rep_int.mp (show Rep A.w G' (.int b) y from t)
            exact ⟨a, b, rfl, ey, m _ G' H' (R.ok.store (o := false) (v := .int (P a b)) (x := .int (P a b)) (trep_f (rep_int.mpr rfl)) hio) R.st.ex⟩
          | _ => exact m.elim
      | _ => simp only [aug, q] at m; exact m.elim
    · cases v <;> (simp only [aug, q] at m; exact m.elim)
end
end M
/-! MP6: what is walked, targets, for, list comprehensions. -/
namespace M
open PySem L2

/-! ### what is walked -/
inductive IR where
  | ok (vs : List Val) (r : Env) | ex (e : Val) (r : Env) | bad
abbrev IF := Env → IR
/-- the walk J yields the items, whatever happens to what is owned -/
structure ItOk (w : Wd) (J : It) (G0 : Hp) (vs : List Val) : Prop where
  go : ∀ G H i, Le G0 G → Le G H → i < vs.length → J.go i H
  stop : ∀ G H i, Le G0 G → Le G H → vs.length ≤ i → J.stop i H
  yld : ∀ G H i v x H', Le G0 G → Le G H → vs[i]? = some v → J.yld i H x H' → ∃ G', Grow G H G' H' ∧ Rep w G' v x
def tIt (A : Act) (W : WX) (f : IF) : TI := fun σ H R => ∃ r G, Ok A G H σ r ∧ match f r with
  | .ok vs r' => ∀ J G' H', Ok A G' H' σ r' → Step σ r G H r' G' H' → ItOk A.w J G' vs → R J H'
  | .ex e r' => ExP A W G σ e r'
  | .bad => False
theorem PI.imp {X : Cx} {tg e : Expr} {t t' : TI} (h : PI X tg e t) (hi : ∀ σ H R, t' σ H R → t σ H R) : PI X tg e t' := ⟨fun pins s σ H R I q => h.run pins s σ H R I (hi _ _ _ q)⟩

/-! ### targets -/
abbrev TF := Val → Env → Option Env
/-- the target's slots -/
def tTg (A : Act) (sl : List Nat) (t : TF) : TG := fun x σ H Q => ∃ r G v, Ok A G H σ r ∧ Rep A.w G v x ∧ match t v r with
  | some r' => ∀ σ', Ok A G H σ' r' → (∀ j, j ∉ sl → σ'[j]? = σ[j]?) → σ'.length = σ.length → Q σ' H
  | none => False
def tTgs (A : Act) (sl : List Nat) (t : List Val → Env → Option Env) : TGs := fun xs σ H Q => ∃ r G vs, Ok A G H σ r ∧ Reps A.w G vs xs ∧ match t vs r with
  | some r' => ∀ σ', Ok A G H σ' r' → (∀ j, j ∉ sl → σ'[j]? = σ[j]?) → σ'.length = σ.length → Q σ' H
  | none => False
def tgN (i : Nat) : TF := fun v r => some (r.set i (some (false, v)))
def tgNil : List Val → Env → Option Env := fun vs r => match vs with
  | [] => some r
  | _ => none
def tgCons (t : TF) (u : List Val → Env → Option Env) : List Val → Env → Option Env := fun vs r => match vs with
  | v :: vs => match t v r with
    | some r1 => u vs r1
    | none => none
  | [] => none
def tgT (u : List Val → Env → Option Env) : TF := fun v r => match v with
  | .tup vs => u vs r
  | _ => none
section
variable {X : Cx} {A : Act} {pos : Pos}
theorem PG.imp {e : Expr} {t t' : TG} (h : PG X e t) (hi : ∀ v σ H Q, t' v σ H Q → t v σ H Q) : PG X e t' := ⟨fun pins s σ H v u Q I r q => h.run pins s σ H v u Q I r (hi _ _ _ _ q)⟩
theorem PGs.imp {e : List Expr} {t t' : TGs} (h : PGs X e t) (hi : ∀ v σ H Q, t' v σ H Q → t v σ H Q) : PGs X e t' := ⟨fun pins s σ H v u Q I r q => h.run pins s σ H v u Q I r (hi _ _ _ _ q)⟩
theorem pg_N {i : Nat} {x : Str} (hN : X.N.Nodup) (hi : X.N[i]? = some x) (hx : Loc X.env.scope x) (hio : i ∉ A.io) (hf : X.fn x = true ∨ X.env.scope.names.lookup x = some .local := by first | exact .inl rfl | exact .inr rfl | assumption) : PG X (.Name x pos) (tTg A [i] (tgN i)) :=
  PG.imp (pg_name hN hi hx hf) fun x σ H Q ⟨r, G, v, k, rp, m⟩ => by
    refine m _ (k.store (o := false) rp hio) (fun j hj => ?_) (by simp)
    exact List.getElem?_set_ne (fun z => hj (by simp [z]))
theorem pgs_Nil : PGs X [] (tTgs A [] tgNil) := PGs.imp pgs_nil fun xs σ H Q ⟨r, G, vs, k, rp, m⟩ => by
  cases vs with
  | nil => exact ⟨reps_nil.mp rp, m σ k (fun _ _ => rfl) rfl⟩
  | cons v vs => exact m.elim
theorem pgs_Cons {e : Expr} {es : List Expr} {sl sl' : List Nat} {t : TF} {u : List Val → Env → Option Env} (h1 : PG X e (tTg A sl t)) (h2 : PGs X es (tTgs A sl' u))
    (hs : (assignEach (e :: es) X.env).map (·.2) = assign e X.env :: (assignEach es X.env).map (·.2) := by rfl) : PGs X (e :: es) (tTgs A (sl ++ sl') (tgCons t u)) :=
  PGs.imp (pgs_cons h1 h2 hs) fun xs σ H Q ⟨r, G, vs, k, rp, m⟩ => by
    cases vs with
    | nil => exact m.elim
    | cons v vs =>
      obtain ⟨y, ys, e, r1, r2⟩ := reps_cons.mp rp
      refine ⟨y, ys, e, r, G, v, k, r1, ?_⟩
      simp only [tgCons] at m
      cases ht : t v r with
      | none => simp only [ht] at m
      | some r' =>
        simp only [ht] at m ⊢
        intro σ1 k1 hj1 hl1
        refine ⟨r', G, vs, k1, r2, ?_⟩
        cases hu : u vs r' with
        | none => simp only [hu] at m
        | some r'' =>
          simp only [hu] at m ⊢
          intro σ2 k2 hj2 hl2
          refine m σ2 k2 (fun j hj => ?_) (hl2.trans hl1)
          rw [List.mem_append, not_or] at hj
          rw [hj2 j hj.2, hj1 j hj.1]
theorem pg_T {es : List Expr} {k0 : Nat} {sl : List Nat} {u : List Val → Env → Option Env} {n : Nat} (hc : X.calm = true) (hw : A.w.K = X.K) (h : PGs X es (tTgs A sl u)) (hl : ∀ vs r r', u vs r = some r' → vs.length = n)
    (hn : (assignEach es X.env).length = n := by rfl) (hst : (assignEach es X.env).findIdx? (·.1) = none := by rfl) : PG X (.Tuple es k0 pos) (tTg A sl (tgT u)) :=
  PG.imp (pg_tup hc h hn hst) fun x σ H Q ⟨r, G, v, k, rp, m⟩ => by
    cases v with
    | tup vs =>
      obtain ⟨a, xs, e, q, rs⟩ := rep_tup.mp rp
      cases hu : u vs r with
      | none => simp only [tgT, hu] at m
      | some r' =>
        refine ⟨a, xs, e, ?_, by rw [← reps_length rs]; exact hl vs r r' hu, r, G, vs, k, rs, ?_⟩
        · rw [← hw]; exact sqt_mono k.sub q
        · simp only [tgT, hu] at m ⊢
          exact m
    | _ => exact m.elim
end

/-! ### for -/
def forL (t : TF) (b : SF) : List Val → SF
  | [] => fun r => .nx r
  | v :: vs => fun r => match t v r with
    | some r1 => match b r1 with
      | .nx r2 => forL t b vs r2
      | .ct r2 => forL t b vs r2
      | .bk r2 => .nx r2
      | x => x
    | none => .bad
def forS (fi : IF) (t : TF) (b : SF) : SF := fun r => match fi r with
  | .ok vs r1 => forL t b vs r1
  | .ex e r1 => .ex e r1
  | .bad => .bad
section
variable {X : Cx} {A : Act} {W : WX} {tg it : Expr} {body : List Stmt} {pos : Pos} {fi : IF} {t : TF} {sl : List Nat} {f : SF}
theorem ps_for' (hp : PassesOwn (model X.prog X.w) X.A X.env X.xe) (hc : X.calm = true) (hi : PI X tg it (tIt A W fi)) (hg : PG X tg (tTg A sl t)) (hb : PSs X body (tSt A W f))
    (hs : ∀ x, foldedSetIterable it X.env x = pure x := by intro _; rfl) : PS X (.For tg it body [] pos) (tSt A W (forS fi t f)) := by
  refine PS.imp (ps_for hp hc hi hg hb hs) fun D σ H h => ?_
  obtain ⟨r, G, k, m⟩ := tSt_iff.mp h
  refine ⟨r, G, k, ?_⟩
  unfold forS at m
  cases hf : fi r with
  | bad => rw [hf] at m; exact m.elim
  | ex e r' => rw [hf] at m; exact m σ
  | ok vs r1 =>
    simp only [hf] at m ⊢
    intro J G1 H1 k1 st1 io
    refine ⟨fun i n σ' H' => ∃ r' G', i ≤ vs.length ∧ n = vs.length - i ∧ Le G1 G' ∧ Ok A G' H' σ' r' ∧ Fin A W G1 D (forL t f (vs.drop i) r'), ⟨vs.length, r1, G1, Nat.zero_le _, rfl, Le.refl _, k1, by simpa using m.mono st1.ex⟩, ?_⟩
    rintro i n σ' H' ⟨r', G', hi', hn, le, k', m'⟩
    by_cases hlt : i < vs.length
    · refine .inr ⟨io.go G' H' i le k'.sub hlt, fun σ2 H2 => ∃ r2 G2, Le G1 G2 ∧ Ok A G2 H2 σ2 r2 ∧ Fin A W G1 D (forL t f (vs.drop (i + 1)) r2), fun σ2 H2 ⟨r2, G2, q1, q2, q3⟩ => ⟨vs.length - (i + 1), by omega, r2, G2, hlt, rfl, q1, q2, q3⟩, fun x H2 hy => ?_⟩
      have ev : vs[i]? = some vs[i] := by simp [hlt]
      obtain ⟨G2, gr, rp⟩ := io.yld G' H' i vs[i] x H2 le k'.sub ev hy
      refine ⟨r', G2, vs[i], k'.grow gr, rp, ?_⟩
      rw [List.drop_eq_getElem_cons hlt, forL] at m'
      cases ht : t vs[i] r' with
      | none => simp only [ht] at m'; exact m'.elim
      | some r2 =>
        simp only [ht] at m' ⊢
        intro σ2 k2 _ _
        refine tSt_mk k2 ?_
        have l12 : Le G1 G2 := le.trans gr.g
        cases hb' : f r2 with
        | bad => simp only [hb'] at m'; exact m'.elim
        | ex e r3 => simp only [hb'] at m'; exact m'.mono l12
        | rt o v r3 => simp only [hb'] at m'; exact m'.mono l12
        | bk r3 => simp only [hb'] at m'; exact m'.mono l12
        | nx r3 =>
          simp only [hb'] at m'
          exact fun σ3 G3 H3 k3 l3 => ⟨r3, G3, l12.trans l3, k3, m'⟩
        | ct r3 =>
          simp only [hb'] at m'
          exact fun σ3 G3 H3 k3 l3 => ⟨r3, G3, l12.trans l3, k3, m'⟩
    · have e : i = vs.length := by omega
      subst e
      rw [List.drop_length] at m'
      exact .inl ⟨io.stop G' H' _ le k'.sub (Nat.le_refl _), m' σ' G' H' k' le⟩
end
end M
/-! MP7: list comprehensions. -/
namespace M
open PySem L2

def wipeR (r : Env) : List Nat → Env
  | [] => r
  | v :: vs => (wipeR r vs).set v none
def restR (r0 r : Env) : List Nat → Env
  | [] => r
  | v :: vs => (restR r0 r vs).set v ((r0[v]?).getD none)
def yesB : BF := fun r => .ok true r
def lcL (t : TF) (c : BF) (f : EF) (sl : List Nat) : List Val → List Val → Env → AR
  | [], acc, r => .ok acc r
  | v :: vs, acc, r => match t v r with
    | some r1 => match c r1 with
      | .ok true r2 => match frz f r2 with
        | .ok _ y r3 => if acc.length < 100000 then lcL t c f sl vs (acc ++ [y]) (wipeR r3 sl) else .bad
        | _ => .bad
      | .ok false r2 => lcL t c f sl vs acc (wipeR r2 sl)
      | _ => .bad
    | none => .bad
def lc (fi : IF) (t : TF) (c : BF) (f : EF) (sl : List Nat) : EF := fun r => match fi r with
  | .ok vs r1 => match lcL t c f sl vs [] (wipeR r1 sl) with
    | .ok ys r2 => .ok true (.lst ys) (restR r1 r2 sl)
    | _ => .bad
  | .ex e r1 => .ex e r1
  | .bad => .bad

theorem wipeR_length (r : Env) : ∀ sl : List Nat, (wipeR r sl).length = r.length
  | [] => rfl
  | v :: vs => by simp [wipeR, wipeR_length r vs]
theorem restR_length (r0 r : Env) : ∀ sl : List Nat, (restR r0 r sl).length = r.length
  | [] => rfl
  | v :: vs => by simp [restR, restR_length r0 r vs]
theorem wipeR_out (r : Env) {j : Nat} : ∀ {sl : List Nat}, j ∉ sl → (wipeR r sl)[j]? = r[j]?
  | [], _ => rfl
  | v :: vs, h => by
    simp only [List.mem_cons, not_or] at h
    rw [wipeR, List.getElem?_set_ne (Ne.symm h.1)]; exact wipeR_out r h.2
theorem wipeR_in (r : Env) {j : Nat} {t : Bool × Val} : ∀ {sl : List Nat}, j ∈ sl → (wipeR r sl)[j]? ≠ some (some t)
  | [], h => by simp at h
  | v :: vs, h => by
    rw [wipeR]
    intro e
    rcases set_some e rfl with ⟨e1, e2⟩ | ⟨e1, e2⟩
    · cases e2
    · exact wipeR_in r ((List.mem_cons.mp h).resolve_left e1) e2
theorem wipeR_some {r : Env} {j : Nat} {t : Bool × Val} {sl : List Nat} (h : (wipeR r sl)[j]? = some (some t)) : j ∉ sl ∧ r[j]? = some (some t) := by
  by_cases q : j ∈ sl
  · exact absurd h (wipeR_in r q)
  · rw [wipeR_out r q] at h; exact ⟨q, h⟩
theorem restR_out (r0 r : Env) {j : Nat} : ∀ {sl : List Nat}, j ∉ sl → (restR r0 r sl)[j]? = r[j]?
  | [], _ => rfl
  | v :: vs, h => by
    simp only [List.mem_cons, not_or] at h
    rw [restR, List.getElem?_set_ne (Ne.symm h.1)]; exact restR_out r0 r h.2
theorem restR_in (r0 r : Env) {j : Nat} {t : Bool × Val} : ∀ {sl : List Nat}, j ∈ sl → (restR r0 r sl)[j]? = some (some t) → r0[j]? = some (some t)
  | [], h, _ => by simp at h
  | v :: vs, h, e => by
    rw [restR] at e
    rcases set_some e rfl with ⟨e1, e2⟩ | ⟨e1, e2⟩
    · subst e1
      cases q : r0[j]? with
      | none => rw [q] at e2; cases e2
      | some s => rw [q] at e2; rw [← e2]; rfl
    · exact restR_in r0 r ((List.mem_cons.mp h).resolve_left e1) e2
theorem wipe_in' {σ : L2.St} {j : Nat} {x : V} {sl : List Nat} (h : j ∈ sl) : (wipe σ sl)[j]? ≠ some (some x) := fun e => (wipe_some e).2 h
theorem wipe_eq {σ σ2 : L2.St} {sl sl' : List Nat} (hs : ∀ j ∈ sl', j ∈ sl) (h : ∀ j, j ∉ sl' → σ2[j]? = (wipe σ sl)[j]?) (hl : σ2.length = (wipe σ sl).length) : wipe σ2 sl = wipe σ sl := by
  have at_in : ∀ (τ : L2.St) {j : Nat} {sl : List Nat}, j ∈ sl → j < τ.length → (wipe τ sl)[j]? = some none := by
    intro τ j sl
    induction sl with
    | nil => intro h; simp at h
    | cons v vs ih =>
      intro h hj
      rw [wipe]
      by_cases e : v = j
      · subst e; rw [List.getElem?_set_self]; rw [wipe_length]; exact hj
      · rw [List.getElem?_set_ne e]
        exact ih ((List.mem_cons.mp h).resolve_left fun z => e z.symm) hj
  apply List.ext_getElem?
  intro j
  by_cases q : j ∈ sl
  · by_cases l : j < σ.length
    · rw [at_in σ q l, at_in σ2 q (by rw [hl, wipe_length]; exact l)]
    · rw [List.getElem?_eq_none (by rw [wipe_length, hl, wipe_length]; omega), List.getElem?_eq_none (by rw [wipe_length]; omega)]
  · rw [wipe_out q, h j fun z => q (hs j z)]

/-- a target stores frozen values in its slots alone -/
def TOk (sl : List Nat) (t : TF) : Prop := ∀ v r r', t v r = some r' → (∀ j, j ∉ sl → r'[j]? = r[j]?) ∧ ∀ j ∈ sl, ∀ u, r'[j]? ≠ some (some (true, u))
def TsOk (sl : List Nat) (t : List Val → Env → Option Env) : Prop := ∀ v r r', (∀ j ∈ sl, True) → t v r = some r' → (∀ j, j ∉ sl → r'[j]? = r[j]?) ∧ ∀ j ∈ sl, ∀ u, r'[j]? ≠ some (some (true, u))
theorem tok_N (i : Nat) : TOk [i] (tgN i) := fun v r r' h => by
  cases h
  refine ⟨fun j hj => List.getElem?_set_ne fun z => hj (by simp [z]), fun j hj u e => ?_⟩
  have : j = i := by simpa using hj
  subst this
  rcases set_some e rfl with ⟨_, e2⟩ | ⟨e1, _⟩
  · cases e2
  · exact e1 rfl
theorem tsok_nil : TsOk [] tgNil := fun v r r' _ h => by
  cases v with
  | nil => cases h; exact ⟨fun _ _ => rfl, fun j hj => by simp at hj⟩
  | cons _ _ => cases h
theorem tsok_cons {sl sl' : List Nat} {t : TF} {u : List Val → Env → Option Env} (h1 : TOk sl t) (h2 : TsOk sl' u) : TsOk (sl ++ sl') (tgCons t u) := fun v r r' _ h => by
  cases v with
  | nil => cases h
  | cons v vs =>
    simp only [tgCons] at h
    cases ht : t v r with
    | none => simp only [ht] at h; cases h
    | some r1 =>
      simp only [ht] at h
      obtain ⟨a1, b1⟩ := h1 v r r1 ht
      obtain ⟨a2, b2⟩ := h2 vs r1 r' (fun _ _ => trivial) h
      refine ⟨fun j hj => ?_, fun j hj w e => ?_⟩
      · rw [List.mem_append, not_or] at hj
        rw [a2 j hj.2, a1 j hj.1]
      · by_cases q : j ∈ sl'
        · exact b2 j q w e
        · rw [a2 j q] at e
          exact b1 j ((List.mem_append.mp hj).resolve_right q) w e
theorem tok_T {sl : List Nat} {u : List Val → Env → Option Env} (h : TsOk sl u) : TOk sl (tgT u) := fun v r r' e => by
  cases v with
  | tup vs => exact h vs r r' (fun _ _ => trivial) e
  | _ => cases e

section
variable {A : Act} {W : WX} {G H G' H' G1 H1 : Hp} {σ : L2.St} {r r1 r' : Env} {sl : List Nat}
theorem wipe_out' {j : Nat} (h : j ∉ sl) : (wipe σ sl)[j]? = σ[j]? := wipe_out h
theorem Ok.wipe (k : Ok A G H σ r) (hio : ∀ i ∈ A.io, i ∉ sl) : Ok A G H (wipe σ sl) (wipeR r sl) := by
  refine ⟨k.ex0, k.gr0, k.fr0, k.sub, by rw [wipe_length, wipeR_length]; exact k.len, fun i v h => ?_, fun i v h => ?_, fun i j v w a h1 h2 h3 h4 => ?_, fun i hi => by rw [wipe_out (hio i hi)]; exact k.fx i hi⟩
  · obtain ⟨n, h⟩ := wipeR_some h
    obtain ⟨x, e, q⟩ := k.fz i v h
    exact ⟨x, by rw [wipe_out n]; exact e, q⟩
  · obtain ⟨n, h⟩ := wipeR_some h
    obtain ⟨x, e, q⟩ := k.ow i v h
    exact ⟨x, by rw [wipe_out n]; exact e, q⟩
  · obtain ⟨n1, h1⟩ := wipeR_some h1
    obtain ⟨n2, h2⟩ := wipeR_some h2
    rw [wipe_out n1] at h3; rw [wipe_out n2] at h4
    exact k.sep i j v w a h1 h2 h3 h4
theorem rt_wipe {a : Addr} (h : Rt (wipeR r sl) (wipe σ sl) a) : Rt r σ a := by
  obtain ⟨i, v, h1, h2⟩ := h
  obtain ⟨n, h1⟩ := wipeR_some h1
  exact ⟨i, v, h1, by rw [wipe_out n] at h2; exact h2⟩
/-- back from a block: the slots of its own names are as they were -/
theorem Ok.unwipe (k : Ok A G H σ r) (k' : Ok A G' H' (L2.wipe σ sl) r') (st : Step (L2.wipe σ sl) (wipeR r sl) G H r' G' H') : Ok A G' H' σ (restR r r' sl) ∧ Step σ r G H (restR r r' sl) G' H' := by
  have out : ∀ {j : Nat} {a : Addr} {w : Val}, j ∉ sl → r'[j]? = some (some (true, w)) → σ[j]? = some (some (.ref a)) → ∃ (i : Nat) (v : Val), i ∉ sl ∧ r[i]? = some (some (true, v)) ∧ σ[i]? = some (some (.ref a)) := fun {j a w} n h1 h2 => by
    obtain ⟨i, v, h3, h4⟩ := st.rts a ⟨j, w, h1, by rw [wipe_out n]; exact h2⟩
    obtain ⟨n3, h3⟩ := wipeR_some h3
    exact ⟨i, v, n3, h3, by rw [wipe_out n3] at h4; exact h4⟩
  have nrt : ∀ {j : Nat} {a : Addr} {v : Val}, j ∈ sl → r[j]? = some (some (true, v)) → σ[j]? = some (some (.ref a)) → ¬ Rt (wipeR r sl) (L2.wipe σ sl) a := fun {j a v} hj h1 h2 ⟨i, w, h3, h4⟩ => by
    obtain ⟨n3, h3⟩ := wipeR_some h3
    rw [wipe_out n3] at h4
    exact n3 (k.sep j i v w a h1 h3 h2 h4 ▸ hj)
  refine ⟨⟨k'.ex0, k'.gr0, k'.fr0, k'.sub, by rw [restR_length, ← k'.len, wipe_length], fun i v h => ?_, fun i v h => ?_, fun i j v w a h1 h2 h3 h4 => ?_, k.fx⟩,
    st.ex, fun a o h n => st.keep a o h fun z => n (rt_wipe z), fun a h h' => (st.grow a h h').imp id rt_wipe, fun a ⟨i, v, h1, h2⟩ => ?_⟩
  · by_cases q : i ∈ sl
    · obtain ⟨x, e, rp⟩ := k.fz i v (restR_in r r' q h)
      exact ⟨x, e, rp.mono st.ex⟩
    · rw [restR_out r r' q] at h
      obtain ⟨x, e, rp⟩ := k'.fz i v h
      exact ⟨x, by rw [wipe_out q] at e; exact e, rp⟩
  · by_cases q : i ∈ sl
    · have h' := restR_in r r' q h
      obtain ⟨a, e, ro, n, l⟩ := k.ow i v h'
      have nr := nrt q h' e
      obtain ⟨u, hu, _⟩ := ro.has
      refine ⟨a, e, ro.mono st.ex fun o ho => st.keep a o ho nr, ?_, l⟩
      cases z : G' a with
      | none => rfl
      | some o =>
        rcases st.grow a n (by rw [z]; simp) with y | y
        · rw [hu] at y; cases y
        · exact absurd y nr
    · rw [restR_out r r' q] at h
      obtain ⟨a, e, ro, n, l⟩ := k'.ow i v h
      exact ⟨a, by rw [wipe_out q] at e; exact e, ro, n, l⟩
  · by_cases q1 : i ∈ sl
    · have h1' := restR_in r r' q1 h1
      by_cases q2 : j ∈ sl
      · exact k.sep i j v w a h1' (restR_in r r' q2 h2) h3 h4
      · rw [restR_out r r' q2] at h2
        obtain ⟨m, u, n, h5, h6⟩ := out q2 h2 h4
        exact absurd (k.sep i m v u a h1' h5 h3 h6 ▸ q1) n
    · rw [restR_out r r' q1] at h1
      by_cases q2 : j ∈ sl
      · have h2' := restR_in r r' q2 h2
        obtain ⟨m, u, n, h5, h6⟩ := out q1 h1 h3
        exact absurd (k.sep j m w u a h2' h5 h4 h6 ▸ q2) n
      · rw [restR_out r r' q2] at h2
        exact k'.sep i j v w a h1 h2 (by rw [wipe_out q1]; exact h3) (by rw [wipe_out q2]; exact h4)
  · by_cases q : i ∈ sl
    · exact ⟨i, v, restR_in r r' q h1, h2⟩
    · rw [restR_out r r' q] at h1
      obtain ⟨m, u, _, h5, h6⟩ := out q h1 h2
      exact ⟨m, u, h5, h6⟩
/-- a container that no slot owns is changed -/
theorem Ok.tmp {a : Addr} {o : HO} (k : Ok A G H σ r) (n : G a = none) (nr : ¬ Rt r σ a) (l : A.L a ∨ A.H0 a = none) : Ok A G (upd H a o) σ r where
  ex0 := k.ex0
  gr0 := k.gr0
  fr0 := fun b u h nl => by
    by_cases e : b = a
    · subst e
      rcases l with l | l
      · exact absurd l nl
      · rw [l] at h; cases h
    · rw [upd_ne e]; exact k.fr0 b u h nl
  sub := k.sub.updR n
  len := k.len
  fz := k.fz
  ow := fun i v h => by
    obtain ⟨b, e, q, nb, lb⟩ := k.ow i v h
    have ne : b ≠ a := fun z => nr ⟨i, v, h, by rw [e, z]⟩
    exact ⟨b, e, q.mono (Le.refl _) (fun o h => by rw [upd_ne ne]; exact h), nb, lb⟩
  sep := k.sep
  fx := k.fx
end

theorem lc_of {A : Act} {W : WX} {fi : IF} {t : TF} {c : BF} {f : EF} {sl st' : List Nat} {σ : L2.St} {H : Hp} {Q : VK} (tok : TOk st' t) (hs : ∀ j ∈ st', j ∈ sl) (hio : ∀ i ∈ A.io, i ∉ sl) (h : tE A W (lc fi t c f sl) σ H Q) :
    tLc (tIt A W fi) (tTg A st' t) (tBo A (fun _ _ _ _ => False) c) (tE A (fun _ _ _ _ => False) (frz f)) sl σ H Q := by
  obtain ⟨r, G, k, m⟩ := h
  refine ⟨r, G, k, ?_⟩
  unfold lc at m
  cases hf : fi r with
  | bad => rw [hf] at m; exact m.elim
  | ex e r' => rw [hf] at m; exact m
  | ok vs r1 =>
    simp only [hf] at m ⊢
    intro J G1 H1 k1 st1 io D hD
    have gr0 := Grow.laidH (o := .lst []) k1.sub hD
    have kw := (k1.wipe (sl := sl) hio).grow gr0
    let Fl : AR → Prop := fun a => match a with
      | .ok ys r2 => ∀ x G' H', Res A σ r G H (restR r1 r2 sl) G' H' true (.lst ys) x → Q x H'
      | _ => False
    have m0 : Fl (lcL t c f sl vs [] (wipeR r1 sl)) := by
      cases hL : lcL t c f sl vs [] (wipeR r1 sl) with
      | ok ys r2 => rw [hL] at m; exact m
      | ex e r2 => rw [hL] at m; exact m
      | bad => rw [hL] at m; exact m
    refine ⟨fun i n H' => ∃ r' G' acc ds, i ≤ vs.length ∧ n = vs.length - i ∧ Ok A G' H' (wipe σ sl) r' ∧ Step (wipe σ sl) (wipeR r1 sl) G1 H1 r' G' H' ∧ H' D = some (.lst acc) ∧ Reps A.w G' ds acc ∧ G' D = none ∧ ¬ Rt r' (wipe σ sl) D ∧ Fl (lcL t c f sl (vs.drop i) ds r'),
      ⟨vs.length, wipeR r1 sl, G1, [], [], Nat.zero_le _, rfl, kw, gr0.step, upd_same, reps_nil.mpr rfl, k1.sub.back hD, (k1.wipe (sl := sl) hio).notRt hD, by simpa using m0⟩, ?_⟩
    rintro i n H2 ⟨r2, G2, acc, ds, hi, hn, k2, st2, hacc, hreps, hGD, hnr, hFl⟩
    have lD : A.L D ∨ A.H0 D = none := k1.fresh hD
    by_cases hlt : i < vs.length
    · refine .inr ⟨io.go G2 H2 i st2.ex k2.sub hlt, fun H' => ∃ r' G' acc ds, Ok A G' H' (wipe σ sl) r' ∧ Step (wipe σ sl) (wipeR r1 sl) G1 H1 r' G' H' ∧ H' D = some (.lst acc) ∧ Reps A.w G' ds acc ∧ G' D = none ∧ ¬ Rt r' (wipe σ sl) D ∧ Fl (lcL t c f sl (vs.drop (i + 1)) ds r'),
        fun H' ⟨r', G', acc, ds, q⟩ => ⟨vs.length - (i + 1), by omega, r', G', acc, ds, hlt, rfl, q⟩, fun x H3 hy => ?_⟩
      have ev : vs[i]? = some vs[i] := by simp [hlt]
      obtain ⟨G3, gr, rp⟩ := io.yld G2 H2 i vs[i] x H3 st2.ex k2.sub ev hy
      refine ⟨r2, G3, vs[i], k2.grow gr, rp, ?_⟩
      rw [List.drop_eq_getElem_cons hlt, lcL] at hFl
      cases ht : t vs[i] r2 with
      | none => simp only [ht] at hFl; exact hFl.elim
      | some r3 =>
        simp only [ht] at hFl ⊢
        intro σ2 k3 hj hl
        have hw := wipe_eq (σ := σ) (σ2 := σ2) hs hj hl
        obtain ⟨tk1, tk2⟩ := tok _ _ _ ht
        have rt3 : ∀ a, Rt r3 σ2 a → Rt r2 (wipe σ sl) a := fun a ⟨j, w, h1, h2⟩ => by
          by_cases q : j ∈ st'
          · exact absurd h1 (tk2 j q w)
          · exact ⟨j, w, by rw [← tk1 j q]; exact h1, by rw [← hj j q]; exact h2⟩
        have hacc3 : H3 D = some (.lst acc) := gr.h _ _ hacc
        have hGD3 : G3 D = none := by
          cases z : G3 D with
          | none => rfl
          | some o => have := gr.n D hGD (by rw [z]; simp); rw [hacc] at this; cases this
        have st3 := st2.trans gr.step
        -- from the target's state to the block's
        have conv : ∀ {r4 : Env} {G4 H4 : Hp}, Ok A G4 H4 σ2 r4 → Step σ2 r3 G3 H3 r4 G4 H4 → Ok A G4 H4 (wipe σ sl) (wipeR r4 sl) ∧ Step (wipe σ sl) (wipeR r1 sl) G1 H1 (wipeR r4 sl) G4 H4 ∧ H4 D = some (.lst acc) ∧ G4 D = none ∧ ¬ Rt (wipeR r4 sl) (wipe σ sl) D := fun {r4 G4 H4} k4 st4 => by
          have rt4 : ∀ a, Rt (wipeR r4 sl) (wipe σ sl) a → Rt r2 (wipe σ sl) a := fun a h => rt3 a (st4.rts a (by rw [← hw] at h; exact rt_wipe h))
          refine ⟨?_, st3.trans ⟨st4.ex, fun a o h n => st4.keep a o h fun z => n (rt3 a z), fun a h h' => (st4.grow a h h').imp id (rt3 a), rt4⟩, st4.keep D _ hacc3 fun z => hnr (rt3 D z), ?_, fun z => hnr (rt4 D z)⟩
          · have := k4.wipe (sl := sl) hio
            rw [hw] at this; exact this
          · cases z : G4 D with
            | none => rfl
            | some o =>
              rcases st4.grow D hGD3 (by rw [z]; simp) with y | y
              · rw [hacc3] at y; cases y
              · exact absurd (rt3 D y) hnr
        refine ⟨hw, r3, G3, k3, ?_⟩
        cases hc : c r3 with
        | bad => simp only [hc] at hFl; exact hFl.elim
        | ex e r4 => simp only [hc] at hFl; exact hFl.elim
        | ok b r4 =>
          simp only [hc] at hFl ⊢
          intro G4 H4 k4 st4
          cases b with
          | false =>
            simp only [Bool.false_eq_true, if_false]
            obtain ⟨c1, c2, c3, c4, c5⟩ := conv k4 st4
            exact ⟨_, G4, acc, ds, c1, c2, c3, hreps.mono (gr.g.trans st4.ex), c4, c5, hFl⟩
          | true =>
            simp only [if_true] at hFl ⊢
            refine ⟨r4, G4, k4, ?_⟩
            cases he : frz f r4 with
            | bad => simp only [he] at hFl; exact hFl.elim
            | ex e r5 => simp only [he] at hFl; exact hFl.elim
            | ok o y r5 =>
              have eo := frz_false he
              subst eo
              simp only [he] at hFl ⊢
              intro y' G5 H5 R5
              by_cases hz : ds.length < 100000
              case neg => rw [if_neg hz] at hFl; exact hFl.elim
              rw [if_pos hz] at hFl
              obtain ⟨c1, c2, c3, c4, c5⟩ := conv R5.ok (st4.trans R5.st)
              have le5 : Le G2 G5 := (gr.g.trans st4.ex).trans R5.st.ex
              refine ⟨acc, c3, by rw [← reps_length hreps]; exact Nat.lt_of_lt_of_le hz (by decide), _, G5, acc ++ [y'], ds ++ [y], c1.tmp c4 c5 lD, ⟨c2.ex, fun a o h nn => ?_, c2.grow, c2.rts⟩, upd_same, reps_append (hreps.mono le5) (reps_one R5.tr), c4, c5, hFl⟩
              have ne : a ≠ D := fun z => by subst z; rw [hD] at h; cases h
              rw [upd_ne ne]; exact c2.keep a o h nn
    · have e : i = vs.length := by omega
      subst e
      rw [List.drop_length, lcL] at hFl
      obtain ⟨k3, st3⟩ := k1.unwipe k2 st2
      refine .inl ⟨io.stop G2 H2 _ st2.ex k2.sub (Nat.le_refl _), ?_⟩
      refine hFl (.ref D) G2 H2 ⟨k3, st1.trans st3, trep_t (root_lst hacc hreps) hGD ?_ lD, fun _ a e => by cases e; exact st1.fresh hD⟩
      intro z
      rcases k1.rt (st3.rts D z) with ⟨⟨o, ho⟩, _⟩
      rw [hD] at ho; cases ho
end M
/-! MP8: operations on values. -/
namespace M
open PySem L2

/-- what is asked of a context -/
structure Cal (X : Cx) (w : Wd) : Prop where
  K : w.K = X.K
  calm : X.calm = true
  un : X.A.units + 100 < cLine
  gs : X.A.guards = some []

section
variable {w : Wd} {G H : Hp} {x y : V} {v : Val}
theorem rrep_non : RRep w G H .non x → x = .non := fun h => h.elim rep_non.mp fun ⟨_, _, r⟩ => r.elim
theorem rrep_bl {b : Bool} : RRep w G H (.bl b) x → x = .bl b := fun h => h.elim rep_bl.mp fun ⟨_, _, r⟩ => r.elim
theorem rrep_int {i : Int} : RRep w G H (.int i) x → x = .int i := fun h => h.elim rep_int.mp fun ⟨_, _, r⟩ => r.elim
theorem rrep_str {s : Str} : RRep w G H (.str s) x → x = .str s ∧ s.length ≤ sizeLine := fun h => h.elim rep_str.mp fun ⟨_, _, r⟩ => r.elim
theorem rrep_ty {n : String} : RRep w G H (.ty n) x → x = .ty n := fun h => h.elim rep_ty.mp fun ⟨_, _, r⟩ => r.elim
theorem rrep_tup {ds : List Val} (le : Le G H) : RRep w G H (.tup ds) x → ∃ a xs, x = .ref a ∧ SqT w.K H a xs ∧ Reps w G ds xs := fun h => h.elim (fun h => by
  obtain ⟨a, xs, e, q, r⟩ := rep_tup.mp h
  exact ⟨a, xs, e, sqt_mono le q, r⟩) fun ⟨_, _, r⟩ => r.elim
theorem rrep_lst {ds : List Val} (le : Le G H) : RRep w G H (.lst ds) x → ∃ a xs, x = .ref a ∧ H a = some (.lst xs) ∧ Reps w G ds xs := fun h => by
  rcases h with h | ⟨a, e, r⟩
  · obtain ⟨a, xs, e, q, r⟩ := rep_lst.mp h
    exact ⟨a, xs, e, le _ _ q, r⟩
  · obtain ⟨xs, q, r⟩ := r
    exact ⟨a, xs, e, q, r⟩
theorem rrep_dct {t : Bool} {ds : List (Val × Val)} (le : Le G H) : RRep w G H (.dct t ds) x → ∃ a, x = .ref a ∧ ((t = false ∧ ∃ kvs, Rd H a (.dK kvs) ∧ RepK w G ds kvs) ∨ (t = true ∧ ∃ kvs, Rd H a (.dT kvs) ∧ RepT w G ds kvs)) := fun h => by
  rcases h with h | ⟨a, e, r⟩
  · rw [Rep] at h
    obtain ⟨a, e, ⟨ht, kvs, o, q, r⟩ | ⟨ht, kvs, o, q, r⟩⟩ := h
    · exact ⟨a, e, .inl ⟨ht, kvs, .inr ⟨o, le _ _ q⟩, r⟩⟩
    · exact ⟨a, e, .inr ⟨ht, kvs, .inr ⟨o, le _ _ q⟩, r⟩⟩
  · obtain ⟨ht, kvs, q, r⟩ | ⟨ht, kvs, q, r⟩ := r
    · exact ⟨a, e, .inl ⟨ht, kvs, .inl q, r⟩⟩
    · exact ⟨a, e, .inr ⟨ht, kvs, .inl q, r⟩⟩
theorem rrep_scr {ns : List Int} (le : Le G H) : RRep w G H (.scr ns) x → ∃ a, x = .ref a ∧ SqL w.K H a (ns.map V.int) := fun h => by
  rcases h with h | ⟨a, e, r⟩
  · rw [Rep] at h; obtain ⟨a, e, q⟩ := h; exact ⟨a, e, sql_mono le q⟩
  · exact r.elim
theorem rreps_nil {xs : List V} : RReps w G H [] xs → xs = [] := id
theorem rreps_one {xs : List V} : RReps w G H [v] xs → ∃ x, xs = [x] ∧ RRep w G H v x := fun ⟨y, ys, e, r, t⟩ => by
  have t' : ys = [] := t
  subst t'; exact ⟨y, e, r⟩
theorem rreps_two {u : Val} {xs : List V} : RReps w G H [v, u] xs → ∃ x y, xs = [x, y] ∧ RRep w G H v x ∧ RRep w G H u y := fun ⟨y, ys, e, r, t⟩ => by
  obtain ⟨z, e2, r2⟩ := rreps_one t
  subst e2; exact ⟨y, z, e, r, r2⟩
theorem rreps_three {u t : Val} {xs : List V} : RReps w G H [v, u, t] xs → ∃ x y z, xs = [x, y, z] ∧ RRep w G H v x ∧ RRep w G H u y ∧ RRep w G H t z := fun ⟨y, ys, e, r, t⟩ => by
  obtain ⟨z, z2, e2, r2, r3⟩ := rreps_two t
  subst e2; exact ⟨y, z, z2, e, r, r2, r3⟩
end
theorem rreps_len {w : Wd} {G H : Hp} : ∀ {vs : List Val} {xs : List V}, RReps w G H vs xs → vs.length = xs.length
  | [], _, h => by have h' : _ = [] := h; subst h'; rfl
  | _ :: _, _, ⟨y, ys, e, _, t⟩ => by subst e; simp [rreps_len t]
end M
/-! MP9: operations on values: numbers, texts, lists, comparisons. -/
namespace M
open PySem L2

def repS (x : Str) (n : Nat) : Str := ⟨(List.replicate n x.cps.toList).flatten.toArray⟩
def Padd : List Val → Option (Bool × Val)
  | [.int i, .int j] => some (false, .int (i + j))
  | [.str s, .str t] => if s.length + t.length ≤ sizeLine then some (false, .str (s ++ t)) else none
  | [.lst xs, .lst ys] => if xs.length + ys.length ≤ 100000 then some (true, .lst (xs ++ ys)) else none
  | _ => none
def Psub : List Val → Option (Bool × Val)
  | [.int i, .int j] => some (false, .int (i - j))
  | _ => none
/-- a bound that neither side of which the kernel counts down -/
def smallI (n : Nat) (j : Int) : Bool := match j with
  | .ofNat a => Nat.ble a n
  | .negSucc a => Nat.ble a n
theorem smallI_iff {n : Nat} {j : Int} : smallI n j = true ↔ -((n : Int) + 1) ≤ j ∧ j ≤ (n : Int) := by
  cases j with
  | ofNat a =>
    have e : Int.ofNat a = (a : Int) := rfl
    simp only [smallI, Nat.ble_eq, e]; constructor <;> intro h <;> omega
  | negSucc a => simp only [smallI, Nat.ble_eq]; constructor <;> intro h <;> omega
def mulOk (i j : Int) : Bool := smallI 18446744073709551614 i || smallI 18446744073709551614 j
theorem mulOk_iff {i j : Int} : mulOk i j = true ↔ (-(2 ^ 64) < i ∧ i < 2 ^ 64 - 1) ∨ (-(2 ^ 64) < j ∧ j < 2 ^ 64 - 1) := by
  unfold mulOk
  rw [Bool.or_eq_true, smallI_iff, smallI_iff]
  constructor
  · rintro (h | h)
    · left; omega
    · right; omega
  · rintro (h | h)
    · left; omega
    · right; omega
def Pmul : List Val → Option (Bool × Val)
  | [.int i, .int j] => if mulOk i j then some (false, .int (i * j)) else none
  | [.str s, .int n] => if 0 ≤ n ∧ n ≤ 100000 ∧ s.length * n.toNat ≤ sizeLine then some (false, .str (repS s n.toNat)) else none
  | [.lst xs, .int n] => if 0 ≤ n ∧ n ≤ 100000 ∧ xs.length * n.toNat ≤ 100000 then some (true, .lst (List.replicate n.toNat xs).flatten) else none
  | _ => none
def Pmod : List Val → Option (Bool × Val)
  | [.int i, .int j] => if 0 < j then some (false, .int (i % j)) else none
  | _ => none
def Pdiv : List Val → Option (Bool × Val)
  | [.int i, .int j] => if 0 < j ∧ smallI 1073741823 j = true then some (false, .int (i / j)) else none
  | _ => none
def Ppow : List Val → Option (Bool × Val)
  | [.int i, .int j] => if 0 ≤ j ∧ j ≤ 1000 ∧ i.natAbs < 2 ^ 64 then some (false, .int (i ^ j.toNat)) else none
  | _ => none

theorem str_len_app (a b : Str) : (a ++ b).length = a.length + b.length := by
  show (a.cps ++ b.cps).size = _
  rw [Array.size_append]; rfl
theorem repS_fold (x : Str) (n : Nat) : (⟨(List.replicate n x.cps).foldl (· ++ ·) #[]⟩ : Str) = repS x n := by
  have : ∀ (n : Nat) (acc : Array Nat), (List.replicate n x.cps).foldl (· ++ ·) acc = acc ++ (List.replicate n x.cps.toList).flatten.toArray := by
    intro n
    induction n with
    | zero => intro acc; simp
    | succ n ih => intro acc; rw [List.replicate_succ, List.foldl_cons, ih, List.replicate_succ, List.flatten_cons]; apply Array.toList_inj.mp; simp
  unfold repS
  rw [this]; simp
theorem repS_length (x : Str) (n : Nat) : (repS x n).length = x.length * n := by
  unfold repS
  show (List.toArray _).size = _
  rw [List.size_toArray]
  induction n with
  | zero => simp
  | succ n ih =>
    rw [List.replicate_succ, List.flatten_cons, List.length_append, ih]
    show x.cps.toList.length + _ = _
    rw [Array.length_toList, Nat.mul_succ, Nat.add_comm]; rfl

section
variable {X : Cx} {w : Wd}
/-- a new list as the answer -/
theorem new_lst {G H : Hp} {p : Addr} {xs : List V} {ds : List Val} {Q : VK} (le : Le G H) (hp : H p = none) (rp : Reps w G ds xs)
    (q : ∀ u G' H', Grow G H G' H' → NRep w G H G' H' true (.lst ds) u → Q u H') : Q (.ref p) (upd H p (.lst xs)) :=
  q _ G _ (Grow.laidH le hp) ⟨_, rfl, root_lst upd_same rp, le.back hp, hp⟩
theorem reps_rep {G : Hp} {ds : List Val} {xs : List V} (q : Reps w G ds xs) : ∀ m : Nat, Reps w G (List.replicate m ds).flatten (List.replicate m xs).flatten
  | 0 => reps_nil.mpr rfl
  | m + 1 => by rw [List.replicate_succ, List.flatten_cons, List.replicate_succ, List.flatten_cons]; exact reps_append q (reps_rep q m)
theorem opr_add (c : Cal X w) : OpR X (binaryOp .Add) (r2Of w Padd) := by
  intro pins s σ H x y v u Q I rx ry ⟨G, vs, o, z, le, rr, hp, q⟩
  unfold Padd at hp
  split at hp
  · obtain ⟨_, _, e, r1, r2⟩ := rreps_two rr
    cases e; cases hp
    obtain rfl := rrep_int r1; obtain rfl := rrep_int r2
    exact op_add pins s σ H _ _ v u Q I rx ry ⟨_, _, rfl, rfl, q _ G H (Grow.refl le) (nrep_f (rep_int.mpr rfl))⟩
  · obtain ⟨_, _, e, r1, r2⟩ := rreps_two rr
    cases e
    split at hp
    · rename_i hz
      cases hp
      obtain ⟨rfl, h1⟩ := rrep_str r1; obtain ⟨rfl, h2⟩ := rrep_str r2
      exact op_add_str pins s σ H _ _ v u Q I rx ry ⟨_, _, rfl, rfl, hz, q _ G H (Grow.refl le) (nrep_f (rep_str.mpr ⟨rfl, by rw [str_len_app]; exact hz⟩))⟩
    · cases hp
  · obtain ⟨_, _, e, r1, r2⟩ := rreps_two rr
    cases e
    split at hp
    · rename_i hz
      cases hp
      obtain ⟨a, xs, rfl, s1, q1⟩ := rrep_lst le r1; obtain ⟨b, ys, rfl, s2, q2⟩ := rrep_lst le r2
      have hz' : xs.length + ys.length ≤ sizeLine := by rw [← reps_length q1, ← reps_length q2]; exact line_of hz
      exact op_cat pins s σ H _ _ v u Q I rx ry ⟨a, b, xs, ys, rfl, rfl, s1, s2, hz', fun p hp => new_lst le hp (reps_append q1 q2) q⟩
    · cases hp
  · cases hp
theorem opr_sub (c : Cal X w) : OpR X (binaryOp .Sub) (r2Of w Psub) := by
  intro pins s σ H x y v u Q I rx ry ⟨G, vs, o, z, le, rr, hp, q⟩
  unfold Psub at hp
  split at hp
  · obtain ⟨_, _, e, r1, r2⟩ := rreps_two rr
    cases e; cases hp
    obtain rfl := rrep_int r1; obtain rfl := rrep_int r2
    exact op_sub pins s σ H _ _ v u Q I rx ry ⟨_, _, rfl, rfl, q _ G H (Grow.refl le) (nrep_f (rep_int.mpr rfl))⟩
  · cases hp
theorem opr_mod (c : Cal X w) : OpR X (binaryOp .Mod) (r2Of w Pmod) := by
  intro pins s σ H x y v u Q I rx ry ⟨G, vs, o, z, le, rr, hp, q⟩
  unfold Pmod at hp
  split at hp
  · obtain ⟨_, _, e, r1, r2⟩ := rreps_two rr
    cases e
    split at hp
    · rename_i hj
      cases hp
      obtain rfl := rrep_int r1; obtain rfl := rrep_int r2
      exact op_mod pins s σ H _ _ v u Q I rx ry ⟨_, _, rfl, rfl, hj, q _ G H (Grow.refl le) (nrep_f (rep_int.mpr rfl))⟩
    · cases hp
  · cases hp
theorem opr_div (c : Cal X w) : OpR X (binaryOp .FloorDiv) (r2Of w Pdiv) := by
  intro pins s σ H x y v u Q I rx ry ⟨G, vs, o, z, le, rr, hp, q⟩
  unfold Pdiv at hp
  split at hp
  · obtain ⟨_, _, e, r1, r2⟩ := rreps_two rr
    cases e
    split at hp
    · rename_i hj
      cases hp
      obtain rfl := rrep_int r1; obtain rfl := rrep_int r2
      exact op_fdiv pins s σ H _ _ v u Q I rx ry ⟨_, _, rfl, rfl, ⟨hj.1, by have := smallI_iff.mp hj.2; omega⟩, q _ G H (Grow.refl le) (nrep_f (rep_int.mpr rfl))⟩
    · cases hp
  · cases hp
theorem opr_pow (c : Cal X w) : OpR X (binaryOp .Pow) (r2Of w Ppow) := by
  intro pins s σ H x y v u Q I rx ry ⟨G, vs, o, z, le, rr, hp, q⟩
  unfold Ppow at hp
  split at hp
  · obtain ⟨_, _, e, r1, r2⟩ := rreps_two rr
    cases e
    split at hp
    · rename_i hj
      cases hp
      obtain rfl := rrep_int r1; obtain rfl := rrep_int r2
      exact op_pow pins s σ H _ _ v u Q I rx ry ⟨_, _, rfl, rfl, ⟨hj.1, Int.le_trans hj.2.1 (by decide), hj.2.2⟩, q _ G H (Grow.refl le) (nrep_f (rep_int.mpr rfl))⟩
    · cases hp
  · cases hp
theorem opr_mul (c : Cal X w) : OpR X (binaryOp .Mult) (r2Of w Pmul) := by
  intro pins s σ H x y v u Q I rx ry ⟨G, vs, o, z, le, rr, hp, q⟩
  unfold Pmul at hp
  split at hp
  · obtain ⟨_, _, e, r1, r2⟩ := rreps_two rr
    cases e
    split at hp
    · rename_i hj
      cases hp
      obtain rfl := rrep_int r1; obtain rfl := rrep_int r2
      exact op_mul pins s σ H _ _ v u Q I rx ry ⟨_, _, rfl, rfl, ((mulOk_iff.mp hj).elim (fun z => .inl ⟨z.1, by omega⟩) fun z => .inr ⟨z.1, by omega⟩), q _ G H (Grow.refl le) (nrep_f (rep_int.mpr rfl))⟩
    · cases hp
  · obtain ⟨_, _, e, r1, r2⟩ := rreps_two rr
    cases e
    split at hp
    · rename_i st n hj
      cases hp
      obtain ⟨rfl, h1⟩ := rrep_str r1; obtain rfl := rrep_int r2
      obtain ⟨t, rfl⟩ := rx; obtain ⟨t', rfl⟩ := ry
      have e1 : ∀ m : Nat, RelV (.str (repS st m)) (.str (repS st m) m) := fun m => ⟨_, rfl⟩
      refine PySem.P.mul_str (by
        have h2 : ¬ n < -(2 ^ 63 : Int) := by omega
        have h3 : ¬ n ≥ 2 ^ 63 := by omega
        rw [decide_eq_false h2, decide_eq_false h3]; rfl) (fun hn _ hb => ?_) (fun hn _ => ?_) ?_
      · have h4 : n ≤ 100000 := hj.2.1
        have h5 : (st.length : Int) ≤ 16777216 := by
          have : sizeLine = 16777216 := PySem.sizeLine_eq
          omega
        have h6 : (2 ^ 63 - 1 : Int) / n ≥ (2 ^ 63 - 1) / 100000 := by
          refine Int.le_ediv_of_mul_le (by omega) ?_
          have : (2 ^ 63 - 1 : Int) / 100000 * n ≤ (2 ^ 63 - 1 : Int) / 100000 * 100000 := Int.mul_le_mul_of_nonneg_left h4 (by decide)
          refine Int.le_trans this ?_
          decide
        have h7 : (16777216 : Int) ≤ (2 ^ 63 - 1) / 100000 := by decide
        omega
      · exact decide_eq_false (by have := hj.2.2; omega)
      · have fin : ∀ (m : Nat) (y : Str), y = repS st n.toNat → Q (.str y) H → EP X pins σ Q (.str y s.toks) { s with toks := s.toks + 1 } := fun m y e h => ⟨.str y, H, I.tok _, ⟨_, rfl⟩, h⟩
        have qq : Q (.str (repS st n.toNat)) H := q _ G H (Grow.refl le) (nrep_f (rep_str.mpr ⟨rfl, by rw [repS_length]; exact hj.2.2⟩))
        have ext : ∀ {a b : Str}, a.cps.toList = b.cps.toList → a = b := fun {a b} h => by cases a; cases b; congr; exact Array.toList_inj.mp h
        by_cases h0 : n < 1
        · rw [if_pos h0]
          have en : n.toNat = 0 := by omega
          have e : Str.empty = repS st n.toNat := by rw [en]; rfl
          refine ⟨by rw [e, repS_length]; exact hj.2.2, ?_⟩
          exact ⟨.str Str.empty, H, I.tok _, ⟨_, rfl⟩, by rw [e]; exact qq⟩
        · rw [if_neg h0]
          split
          · rename_i hc
            have e : st = repS st n.toNat := by
              simp only [Bool.or_eq_true, beq_iff_eq] at hc
              rcases hc with hc | hc
              · subst hc
                refine ext ?_
                show _ = (List.replicate 1 st.cps.toList).flatten
                simp
              · refine ext ?_
                have e0 : st.cps.toList = [] := by
                  have : st.cps.toList.length = 0 := by rw [Array.length_toList]; exact hc
                  exact List.eq_nil_of_length_eq_zero this
                show _ = (List.replicate n.toNat st.cps.toList).flatten
                rw [e0]; simp
            exact ⟨.str st, H, I, ⟨_, rfl⟩, by rw [← e] at qq; exact qq⟩
          · rw [repS_fold]
            exact ⟨by rw [repS_length]; exact hj.2.2, .str _, H, I.tok _, ⟨_, rfl⟩, qq⟩
    · cases hp
  · obtain ⟨_, _, e, r1, r2⟩ := rreps_two rr
    cases e
    split at hp
    · rename_i ds n hj
      cases hp
      obtain ⟨l, xs, rfl, s1, q1⟩ := rrep_lst le r1; obtain rfl := rrep_int r2
      have hz : xs.length * n.toNat ≤ sizeLine := by rw [← reps_length q1]; exact line_of hj.2.2
      exact op_rep pins s σ H _ _ v u Q I rx ry ⟨l, n, xs, rfl, rfl, s1, by omega, by omega, hz, fun p hp => new_lst le hp (reps_rep q1 _) q⟩
    · cases hp
  · cases hp
end
end M
/-! MPA: comparisons, membership, repr, len, isinstance, all, any. -/
namespace M
open PySem L2

/-! ### data -/
mutual
def toD : Val → Option PyData
  | .non => some .none
  | .bl b => some (.bool b)
  | .int i => some (.int i)
  | .str s => some (.str s)
  | .tup ds => (toDs ds).map .tuple
  | .lst ds => (toDs ds).map .list
  | .scr ns => some (.list (ns.map .int))
  | _ => none
def toDs : List Val → Option (List PyData)
  | [] => some []
  | d :: ds => match toD d, toDs ds with
    | some x, some xs => some (x :: xs)
    | _, _ => none
end
theorem dps_ints {K : PySem.W.Frag} {H : Hp} : ∀ ns : List Int, DpAll K H (ns.map V.int) (ns.map PyData.int)
  | [] => .nil
  | n :: ns => .cons (.int n) (dps_ints ns)
section
variable {w : Wd} {K : PySem.W.Frag} {G H : Hp}
mutual
theorem dp_of (hw : w.K = K) (le : Le G H) : ∀ {v : Val} {x : V} {d : PyData}, Rep w G v x → toD v = some d → Dp K H x d
  | .non, _, _, r, e => by rw [toD] at e; cases e; rw [rep_non.mp r]; exact .non
  | .bl b, _, _, r, e => by rw [toD] at e; cases e; rw [rep_bl.mp r]; exact .bl b
  | .int i, _, _, r, e => by rw [toD] at e; cases e; rw [rep_int.mp r]; exact .int i
  | .str s, _, _, r, e => by rw [toD] at e; cases e; rw [(rep_str.mp r).1]; exact .str s
  | .tup ds, _, _, r, e => by
    rw [toD, Option.map_eq_some_iff] at e
    obtain ⟨es, e, rfl⟩ := e
    obtain ⟨a, xs, rfl, q, r⟩ := rep_tup.mp r
    exact .tup (by rw [← hw]; exact sqt_mono le q) (dps_of hw le r e)
  | .lst ds, _, _, r, e => by
    rw [toD, Option.map_eq_some_iff] at e
    obtain ⟨es, e, rfl⟩ := e
    obtain ⟨a, xs, rfl, q, r⟩ := rep_lst.mp r
    exact .lst (.inl (.inl (le _ _ q))) (dps_of hw le r e)
  | .scr ns, _, _, r, e => by
    rw [toD] at e; cases e
    rw [Rep] at r
    obtain ⟨a, rfl, q⟩ := r
    exact .lst (by rw [← hw]; exact sql_mono le q) (dps_ints ns)
  | .dct _ _, _, _, _, e => by simp [toD] at e
  | .obj _ _, _, _, _, e => by simp [toD] at e
  | .ty _, _, _, _, e => by simp [toD] at e
  | .cls _, _, _, _, e => by simp [toD] at e
theorem dps_of (hw : w.K = K) (le : Le G H) : ∀ {ds : List Val} {xs : List V} {es : List PyData}, Reps w G ds xs → toDs ds = some es → DpAll K H xs es
  | [], _, _, r, e => by rw [toDs] at e; cases e; rw [reps_nil.mp r]; exact .nil
  | d :: ds, _, _, r, e => by
    rw [toDs] at e
    obtain ⟨y, ys, rfl, r1, r2⟩ := reps_cons.mp r
    split at e
    · rename_i p ps e1 e2
      cases e
      exact .cons (dp_of hw le r1 e1) (dps_of hw le r2 e2)
    · cases e
end
theorem dp_rrep (hw : w.K = K) (le : Le G H) {v : Val} {x : V} {d : PyData} (r : RRep w G H v x) (e : toD v = some d) : Dp K H x d := by
  rcases r with r | ⟨a, rfl, r⟩
  · exact dp_of hw le r e
  · cases v with
    | lst ds =>
      obtain ⟨xs, q, r⟩ := r
      rw [toD, Option.map_eq_some_iff] at e
      obtain ⟨es, e, rfl⟩ := e
      exact .lst (.inl (.inl q)) (dps_of hw le r e)
    | dct t ds => simp [toD] at e
    | obj c fs => simp [toD] at e
    | _ => exact r.elim
end
abbrev shp (d : PyData) : Bool := SeqAt.shaped d
def Peq : List Val → Option (Bool × Val)
  | [a, b] => match toD a, toD b with
    | some d, some e => if shp d = true ∧ shp e = true then some (false, .bl (PyData.eqv d e)) else none
    | _, _ => none
  | _ => none
def Pne : List Val → Option (Bool × Val)
  | [a, b] => match toD a, toD b with
    | some d, some e => if shp d = true ∧ shp e = true then some (false, .bl (!PyData.eqv d e)) else none
    | _, _ => none
  | _ => none
def cmpI (f : Int → Int → Bool) : List Val → Option (Bool × Val)
  | [.int i, .int j] => some (false, .bl (f i j))
  | _ => none
def Plt := cmpI fun i j => decide (i < j)
def Ple := cmpI fun i j => decide (i ≤ j)
def Pgt := cmpI fun i j => decide (j < i)
def Pge := cmpI fun i j => decide (j ≤ i)
def Pis : List Val → Option (Bool × Val)
  | [.bl a, .bl b] => some (false, .bl (decide (a = b)))
  | [.non, .non] => some (false, .bl true)
  | [_, .non] => some (false, .bl false)
  | _ => none
def PisNot : List Val → Option (Bool × Val)
  | [.bl a, .bl b] => some (false, .bl (!decide (a = b)))
  | [.non, .non] => some (false, .bl false)
  | [_, .non] => some (false, .bl true)
  | _ => none
/-- x in y: a sign in a text, an item of a list, a flat item of a tuple -/
def inOf : Val → Val → Option Bool
  | .str x, .str y => match x.cps.toList with
    | [c] => some (decide (c ∈ y.cps.toList))
    | _ => none
  | d, .lst ds => match toD d, toDs ds with
    | some x, some xs => if shp x = true ∧ shp (.list xs) = true then some (xs.any fun z => PyData.eqv z x) else none
    | _, _ => none
  | _, _ => none
def flatD : PyData → Bool
  | .none => true
  | .bool _ => true
  | .int _ => true
  | .str _ => true
  | _ => false
def inTup : Val → Val → Option Bool
  | d, .tup ds => match toD d, toDs ds with
    | some x, some xs => if flatD x = true ∧ xs.all flatD = true then some (xs.any fun z => PyData.eqv z x) else none
    | _, _ => none
  | _, _ => none
def Pin : List Val → Option (Bool × Val)
  | [x, y] => match inOf x y with
    | some b => some (false, .bl b)
    | none => (inTup x y).map fun b => (false, .bl b)
  | _ => none
def PnotIn : List Val → Option (Bool × Val)
  | [x, y] => match inOf x y with
    | some b => some (false, .bl (!b))
    | none => (inTup x y).map fun b => (false, .bl (!b))
  | _ => none

section
variable {X : Cx} {w : Wd}
theorem bl_new {G H : Hp} {Q : VK} {b : Bool} (le : Le G H) (q : ∀ u G' H', Grow G H G' H' → NRep w G H G' H' false (.bl b) u → Q u H') : Q (.bl b) H := q _ G H (Grow.refl le) (nrep_f (rep_bl.mpr rfl))
theorem int_new {G H : Hp} {Q : VK} {b : Int} (le : Le G H) (q : ∀ u G' H', Grow G H G' H' → NRep w G H G' H' false (.int b) u → Q u H') : Q (.int b) H := q _ G H (Grow.refl le) (nrep_f (rep_int.mpr rfl))
theorem str_new {G H : Hp} {Q : VK} {b : Str} (le : Le G H) (hb : b.length ≤ sizeLine) (q : ∀ u G' H', Grow G H G' H' → NRep w G H G' H' false (.str b) u → Q u H') : Q (.str b) H := q _ G H (Grow.refl le) (nrep_f (rep_str.mpr ⟨rfl, hb⟩))
theorem opr_eq (c : Cal X w) : OpR X (compareOp .Eq) (r2Of w Peq) := by
  intro pins s σ H x y v u Q I rx ry ⟨G, vs, o, z, le, rr, hp, q⟩
  unfold Peq at hp
  split at hp
  · obtain ⟨_, _, e, r1, r2⟩ := rreps_two rr
    cases e
    split at hp
    · rename_i d e h1 h2
      split at hp
      · rename_i hs
        cases hp
        exact op_eqD (by have := c.un; omega) pins s σ H _ _ v u Q I rx ry ⟨d, e, dp_rrep c.K le r1 h1, dp_rrep c.K le r2 h2, hs.1, hs.2, bl_new le q⟩
      · cases hp
    · cases hp
  · cases hp
theorem opr_ne (c : Cal X w) : OpR X (compareOp .NotEq) (r2Of w Pne) := by
  intro pins s σ H x y v u Q I rx ry ⟨G, vs, o, z, le, rr, hp, q⟩
  unfold Pne at hp
  split at hp
  · obtain ⟨_, _, e, r1, r2⟩ := rreps_two rr
    cases e
    split at hp
    · rename_i d e h1 h2
      split at hp
      · rename_i hs
        cases hp
        exact op_neD (by have := c.un; omega) pins s σ H _ _ v u Q I rx ry ⟨d, e, dp_rrep c.K le r1 h1, dp_rrep c.K le r2 h2, hs.1, hs.2, bl_new le q⟩
      · cases hp
    · cases hp
  · cases hp
theorem cmpI_of {op : CmpOp} {f : Int → Int → Bool} (h : OpR X (compareOp op) (rI0 fun i j => .bl (f i j))) : OpR X (compareOp op) (r2Of w (cmpI f)) := by
  intro pins s σ H x y v u Q I rx ry ⟨G, vs, o, z, le, rr, hp, q⟩
  unfold cmpI at hp
  split at hp
  · obtain ⟨_, _, e, r1, r2⟩ := rreps_two rr
    cases e; cases hp
    obtain rfl := rrep_int r1; obtain rfl := rrep_int r2
    exact h pins s σ H _ _ v u Q I rx ry ⟨_, _, rfl, rfl, bl_new le q⟩
  · cases hp
theorem opr_lt : OpR X (compareOp .Lt) (r2Of w Plt) := cmpI_of op_lt
theorem opr_le : OpR X (compareOp .LtE) (r2Of w Ple) := cmpI_of op_le
theorem opr_gt : OpR X (compareOp .Gt) (r2Of w Pgt) := cmpI_of op_gt
theorem opr_ge : OpR X (compareOp .GtE) (r2Of w Pge) := cmpI_of op_ge
theorem rrep_not_non {G H : Hp} {v : Val} {x : V} (h : RRep w G H v x) (hv : v ≠ .non) : x ≠ .non := by
  intro e
  subst e
  rcases h with h | ⟨a, e, _⟩
  · cases v with
    | non => exact hv rfl
    | bl b => cases rep_bl.mp h
    | int i => cases rep_int.mp h
    | str s => cases (rep_str.mp h).1
    | ty n => cases rep_ty.mp h
    | tup ds => obtain ⟨_, _, e, _⟩ := rep_tup.mp h; cases e
    | lst ds => obtain ⟨_, _, e, _⟩ := rep_lst.mp h; cases e
    | dct t ds => rw [Rep] at h; obtain ⟨_, e, _⟩ := h; cases e
    | obj c fs => rw [Rep] at h; obtain ⟨_, _, _, _, e, _⟩ := h; cases e
    | cls c => rw [Rep] at h; obtain ⟨_, _, e⟩ := h; cases e
    | scr ns => rw [Rep] at h; obtain ⟨_, e, _⟩ := h; cases e
  · cases e
theorem opr_is : OpR X (compareOp .Is) (r2Of w Pis) := by
  intro pins s σ H x y v u Q I rx ry ⟨G, vs, o, z, le, rr, hp, q⟩
  unfold Pis at hp
  split at hp
  · obtain ⟨_, _, e, r1, r2⟩ := rreps_two rr
    cases e; cases hp
    obtain rfl := rrep_bl r1; obtain rfl := rrep_bl r2
    exact op_isBl pins s σ H _ _ v u Q I rx ry ⟨_, _, rfl, rfl, bl_new le q⟩
  · obtain ⟨_, _, e, r1, r2⟩ := rreps_two rr
    cases e; cases hp
    obtain rfl := rrep_non r1; obtain rfl := rrep_non r2
    exact op_isN pins s σ H _ _ v u Q I rx ry ⟨rfl, by rw [decide_eq_true rfl]; exact bl_new le q⟩
  · rename_i t ht
    obtain ⟨_, _, e, r1, r2⟩ := rreps_two rr
    cases e; cases hp
    obtain rfl := rrep_non r2
    exact op_isN pins s σ H _ _ v u Q I rx ry ⟨rfl, by rw [decide_eq_false (rrep_not_non r1 ht)]; exact bl_new le q⟩
  · cases hp
theorem opr_isNot : OpR X (compareOp .IsNot) (r2Of w PisNot) := by
  intro pins s σ H x y v u Q I rx ry ⟨G, vs, o, z, le, rr, hp, q⟩
  unfold PisNot at hp
  split at hp
  · obtain ⟨_, _, e, r1, r2⟩ := rreps_two rr
    cases e; cases hp
    obtain rfl := rrep_bl r1; obtain rfl := rrep_bl r2
    exact op_notBl pins s σ H _ _ v u Q I rx ry ⟨_, _, rfl, rfl, bl_new le q⟩
  · obtain ⟨_, _, e, r1, r2⟩ := rreps_two rr
    cases e; cases hp
    obtain rfl := rrep_non r1; obtain rfl := rrep_non r2
    exact op_notN pins s σ H _ _ v u Q I rx ry ⟨rfl, by rw [decide_eq_true rfl]; exact bl_new le q⟩
  · rename_i t ht
    obtain ⟨_, _, e, r1, r2⟩ := rreps_two rr
    cases e; cases hp
    obtain rfl := rrep_non r2
    exact op_notN pins s σ H _ _ v u Q I rx ry ⟨rfl, by rw [decide_eq_false (rrep_not_non r1 ht)]; exact bl_new le q⟩
  · cases hp

/-! ### in, not in -/
theorem flat_V {K : PySem.W.Frag} {H : Hp} {x : V} {d : PyData} (h : Dp K H x d) (f : flatD d = true) : flatV x = true := by
  cases h <;> first | rfl | cases f
theorem eqv_V {K : PySem.W.Frag} {H : Hp} {x y : V} {d e : PyData} (h : Dp K H x d) (g : Dp K H y e) (f : flatD d = true) (f' : flatD e = true) : eqV x y = PyData.eqv d e := by
  cases h <;> cases g <;> first | (cases f; done) | (cases f'; done) | simp only [eqV, PyData.eqv]
theorem in_V {K : PySem.W.Frag} {H : Hp} {x : V} {d : PyData} (h : Dp K H x d) (f : flatD d = true) : ∀ {xs : List V} {ds : List PyData}, DpAll K H xs ds → ds.all flatD = true → xs.all flatV = true ∧ inV x xs = ds.any fun z => PyData.eqv z d
  | _, _, .nil, _ => ⟨rfl, rfl⟩
  | _, _, .cons (v := y) (vs := ys) (d := e) (ds := es) h1 h2, a => by
    rw [List.all_cons, Bool.and_eq_true] at a
    obtain ⟨q1, q2⟩ := in_V h f h2 a.2
    refine ⟨?_, ?_⟩
    · rw [List.all_cons, flat_V h1 a.1, q1]; rfl
    · show (eqV y x || inV x ys) = _
      rw [q2, eqv_V h1 h a.1 f]; rfl
theorem str_one {x : Str} {c : Nat} (h : x.cps.toList = [c]) : x = ⟨#[c]⟩ := by
  cases x with
  | mk a =>
    congr
    exact Array.toList_inj.mp h
theorem in_run (c : Cal X w) {pins : List (Addr × Obj)} {s : Shared} {σ : L2.St} {G H : Hp} {x y : V} {v u : Value} {Q : VK} {a b : Val} {k : Bool} (I : Inv X pins σ H s) (rx : RelV x v) (ry : RelV y u) (le : Le G H) (r1 : RRep w G H a x) (r2 : RRep w G H b y)
    (h : inOf a b = some k ∨ inTup a b = some k) : (Q (.bl k) H → wpAny (model X.prog X.w) X.A (compareOp .In v u) (EP X pins σ Q) X.xe s) ∧ (Q (.bl (!k)) H → wpAny (model X.prog X.w) X.A (compareOp .NotIn v u) (EP X pins σ Q) X.xe s) := by
  rcases h with h | h
  · unfold inOf at h
    split at h
    · split at h
      · rename_i ch hc
        cases h
        obtain ⟨rfl, _⟩ := rrep_str r1; obtain ⟨rfl, _⟩ := rrep_str r2
        rw [str_one hc] at rx
        exact ⟨fun q => op_in_sign pins s σ H _ _ v u Q I rx ry ⟨_, _, rfl, rfl, q⟩, fun q => op_notIn_sign pins s σ H _ _ v u Q I rx ry ⟨_, _, rfl, rfl, q⟩⟩
      · cases h
    · split at h
      · rename_i d' ds' h1 h2
        split at h
        · rename_i hs
          cases h
          have hd := dp_rrep c.K le r1 h1
          have hl := dp_rrep c.K le r2 (d := .list ds') (by rw [toD, h2]; rfl)
          exact ⟨fun q => op_inD (by have := c.un; omega) pins s σ H _ _ v u Q I rx ry ⟨_, _, hd, hl, hs.1, hs.2, q⟩, fun q => op_notInD (by have := c.un; omega) pins s σ H _ _ v u Q I rx ry ⟨_, _, hd, hl, hs.1, hs.2, q⟩⟩
        · cases h
      · cases h
    · cases h
  · unfold inTup at h
    split at h
    · split at h
      · rename_i d' ds' h1 h2
        split at h
        · rename_i hs
          cases h
          have hd := dp_rrep c.K le r1 h1
          obtain ⟨p, xs, rfl, sq, rs⟩ := rrep_tup le r2
          obtain ⟨f2, e2⟩ := in_V hd hs.1 (dps_of c.K le rs h2) hs.2
          have f1 := flat_V hd hs.1
          rw [c.K] at sq
          exact ⟨fun q => op_in_seq pins s σ H _ _ v u Q I rx ry ⟨p, xs, rfl, .inr sq, f1, f2, by simp only [Bool.false_eq_true, if_false]; rw [e2]; exact q⟩,
            fun q => op_notIn_seq pins s σ H _ _ v u Q I rx ry ⟨p, xs, rfl, .inr sq, f1, f2, by simp only [if_true]; rw [e2]; exact q⟩⟩
        · cases h
      · cases h
    · cases h
theorem opr_in (c : Cal X w) : OpR X (compareOp .In) (r2Of w Pin) := by
  intro pins s σ H x y v u Q I rx ry ⟨G, vs, o, z, le, rr, hp, q⟩
  unfold Pin at hp
  split at hp
  · obtain ⟨_, _, e, r1, r2⟩ := rreps_two rr
    cases e
    split at hp
    · rename_i k hk
      cases hp
      exact (in_run c I rx ry le r1 r2 (.inl hk)).1 (bl_new le q)
    · rw [Option.map_eq_some_iff] at hp
      obtain ⟨k, hk, e⟩ := hp
      cases e
      exact (in_run c I rx ry le r1 r2 (.inr hk)).1 (bl_new le q)
  · cases hp
theorem opr_notIn (c : Cal X w) : OpR X (compareOp .NotIn) (r2Of w PnotIn) := by
  intro pins s σ H x y v u Q I rx ry ⟨G, vs, o, z, le, rr, hp, q⟩
  unfold PnotIn at hp
  split at hp
  · obtain ⟨_, _, e, r1, r2⟩ := rreps_two rr
    cases e
    split at hp
    · rename_i k hk
      cases hp
      exact (in_run c I rx ry le r1 r2 (.inl hk)).2 (bl_new le q)
    · rw [Option.map_eq_some_iff] at hp
      obtain ⟨k, hk, e⟩ := hp
      cases e
      exact (in_run c I rx ry le r1 r2 (.inr hk)).2 (bl_new le q)
  · cases hp
end
end M
/-! MPB: built-in functions and types, subscripts, slices, join. -/
namespace M
open PySem L2

/-! ### built-in functions on frozen or owned values -/
def tyOf : Val → Option String
  | .non => some "NoneType"
  | .bl _ => some "bool"
  | .int _ => some "int"
  | .str _ => some "str"
  | .tup _ => some "tuple"
  | .lst _ => some "list"
  | .scr _ => some "list"
  | .dct _ _ => some "dict"
  | _ => none
def Pisi : List Val → Option (Bool × Val)
  | [v, .ty T] => match tyOf v with
    | some a => (kitB a T).map fun b => (false, .bl b)
    | none => none
  | _ => none
def Plen : List Val → Option (Bool × Val)
  | [.str s] => some (false, .int s.length)
  | [.lst ds] => some (false, .int ds.length)
  | [.tup ds] => some (false, .int ds.length)
  | [.scr ns] => some (false, .int ns.length)
  | _ => none
def Pabs : List Val → Option (Bool × Val)
  | [.int i] => some (false, .int (if i < 0 then -i else i))
  | _ => none
def Pint : List Val → Option (Bool × Val)
  | [.int i] => some (false, .int i)
  | [.bl b] => some (false, .int (if b then 1 else 0))
  | _ => none
def Pmax2 : List Val → Option (Bool × Val)
  | [.int i, .int j] => some (false, .int (if j > i then j else i))
  | _ => none
def Pmin2 : List Val → Option (Bool × Val)
  | [.int i, .int j] => some (false, .int (if j < i then j else i))
  | _ => none
def Pstr : List Val → Option (Bool × Val)
  | [.int i] => if i.natAbs.log2 < 1920 ∧ (toString i : Str).length ≤ sizeLine then some (false, .str (toString i)) else none
  | [.str s] => some (false, .str s)
  | _ => none
def Prepr : List Val → Option (Bool × Val)
  | [v] => match toD v with
    | some d => if d.showable = true ∧ d.hasDict = false ∧ d.depth ≤ 60 ∧ d.shown.length ≤ sizeLine then some (false, .str d.shown) else none
    | none => none
  | _ => none
def asBls : List Val → Option (List Bool)
  | [] => some []
  | .bl b :: vs => (asBls vs).map (b :: ·)
  | _ => none
def asStrs : List Val → Option (List Str)
  | [] => some []
  | .str b :: vs => (asStrs vs).map (b :: ·)
  | _ => none
def Pall : List Val → Option (Bool × Val)
  | [.lst ds] => (asBls ds).map fun bs => (false, .bl (bs.all id))
  | _ => none
def Pany : List Val → Option (Bool × Val)
  | [.lst ds] => (asBls ds).map fun bs => (false, .bl (bs.any id))
  | _ => none
def Plist : List Val → Option (Bool × Val)
  | [.lst ds] => some (true, .lst ds)
  | [.tup ds] => some (true, .lst ds)
  | [.scr ns] => some (true, .lst (ns.map .int))
  | _ => none
def Ptuple : List Val → Option (Bool × Val)
  | [.lst ds] => some (false, .tup ds)
  | [.tup ds] => some (false, .tup ds)
  | _ => none
theorem asBls_some : ∀ {vs : List Val} {bs : List Bool}, asBls vs = some bs → vs = bs.map .bl
  | [], _, h => by simp only [asBls, Option.some.injEq] at h; subst h; rfl
  | .bl b :: vs, _, h => by
    simp only [asBls, Option.map_eq_some_iff] at h
    obtain ⟨c, e, rfl⟩ := h
    rw [asBls_some e]; rfl
  | .non :: _, _, h => by cases h
  | .int _ :: _, _, h => by cases h
  | .str _ :: _, _, h => by cases h
  | .tup _ :: _, _, h => by cases h
  | .lst _ :: _, _, h => by cases h
  | .dct _ _ :: _, _, h => by cases h
  | .obj _ _ :: _, _, h => by cases h
  | .ty _ :: _, _, h => by cases h
  | .cls _ :: _, _, h => by cases h
  | .scr _ :: _, _, h => by cases h
theorem asStrs_some : ∀ {vs : List Val} {bs : List Str}, asStrs vs = some bs → vs = bs.map .str
  | [], _, h => by simp only [asStrs, Option.some.injEq] at h; subst h; rfl
  | .str b :: vs, _, h => by
    simp only [asStrs, Option.map_eq_some_iff] at h
    obtain ⟨c, e, rfl⟩ := h
    rw [asStrs_some e]; rfl
  | .non :: _, _, h => by cases h
  | .int _ :: _, _, h => by cases h
  | .bl _ :: _, _, h => by cases h
  | .tup _ :: _, _, h => by cases h
  | .lst _ :: _, _, h => by cases h
  | .dct _ _ :: _, _, h => by cases h
  | .obj _ _ :: _, _, h => by cases h
  | .ty _ :: _, _, h => by cases h
  | .cls _ :: _, _, h => by cases h
  | .scr _ :: _, _, h => by cases h

section
variable {X : Cx} {w : Wd}
/-- a list or the script, as it is read -/
theorem rrep_seq (c : Cal X w) {G H : Hp} {v : Val} {x : V} {ds : List Val} (le : Le G H) (r : RRep w G H v x) (h : Plist [v] = some (true, .lst ds)) : ∃ p ys, x = .ref p ∧ (SqL X.K H p ys ∨ SqT X.K H p ys) ∧ Reps w G ds ys := by
  unfold Plist at h
  split at h
  · rename_i e; cases e; cases h
    obtain ⟨a, xs, rfl, q, r⟩ := rrep_lst le r
    exact ⟨a, xs, rfl, .inl (.inl (.inl q)), r⟩
  · rename_i e; cases e; cases h
    obtain ⟨a, xs, rfl, q, r⟩ := rrep_tup le r
    rw [c.K] at q
    exact ⟨a, xs, rfl, .inr q, r⟩
  · rename_i e; cases e; cases h
    obtain ⟨a, rfl, q⟩ := rrep_scr le r
    rw [c.K] at q
    exact ⟨a, _, rfl, .inl q, reps_of_ints⟩
  · cases h
theorem kit_val (c : Cal X w) {pins : List (Addr × Obj)} {s : Shared} {σ : L2.St} {G H : Hp} {v : Val} {x : V} {u : Value} {T : String} (I : Inv X pins σ H s) (rx : RelV x u) (le : Le G H) (r : RRep w G H v x) (h : tyOf v = some T) :
    ∃ P : Heap → Prop, PySem.W.KitX X.K u (.type T) P ∧ P s.heap ∧ u ≠ .builtin "__main__.__loader__#opaque" := by
  cases v with
  | non => cases h; obtain rfl := rrep_non r; exact kit_of I rx (.base .non)
  | bl b => cases h; obtain rfl := rrep_bl r; exact kit_of I rx (.base (.bl b))
  | int i => cases h; obtain rfl := rrep_int r; exact kit_of I rx (.base (.int i))
  | str y => cases h; obtain ⟨rfl, _⟩ := rrep_str r; exact kit_of I rx (.base (.str y))
  | tup ds =>
    cases h
    obtain ⟨a, xs, rfl, q, _⟩ := rrep_tup le r
    rw [c.K] at q
    obtain ⟨its, _, ⟨o, ho, hc, _⟩, _⟩ := I.tuple q
    cases (show u = Value.ref a from rx)
    exact ⟨_, PySem.W.kitx_tuple, ⟨o, ho, hc⟩, fun z => nomatch z⟩
  | lst ds => cases h; obtain ⟨a, xs, rfl, q, _⟩ := rrep_lst le r; exact kit_of I rx (.base (.lst q))
  | scr ns =>
    cases h
    obtain ⟨a, rfl, q⟩ := rrep_scr le r
    rw [c.K] at q
    obtain ⟨its, _, ⟨o, n, ho, hc, _⟩, _⟩ := I.list q
    cases (show u = Value.ref a from rx)
    exact ⟨_, PySem.W.kitx_list, ⟨o, ho, hc⟩, fun z => nomatch z⟩
  | dct t kvs =>
    cases h
    obtain ⟨a, rfl, q⟩ := rrep_dct le r
    cases (show u = Value.ref a from rx)
    have dK : ∀ {kvs : List (Key × V)}, ObjOk X.prog X.w H s.heap a (.dK kvs) → ∃ o, s.heap.get? a = some o ∧ o.cls = .type "dict" := fun {kvs} h => by
      obtain ⟨_, _, vs, _, o, es, ep, h1, h2, _⟩ := h
      exact ⟨o, h1, h2.1⟩
    have dT : ∀ {kvs : List (List Key × V)}, ObjOk X.prog X.w H s.heap a (.dT kvs) → ∃ o, s.heap.get? a = some o ∧ o.cls = .type "dict" := fun {kvs} h => by
      obtain ⟨_, _, xs, _, o, es, ep, h1, h2, _⟩ := h
      exact ⟨o, h1, h2.1⟩
    have : ∃ o, s.heap.get? a = some o ∧ o.cls = .type "dict" := by
      rcases q with ⟨_, kvs, q | ⟨ob, q⟩, _⟩ | ⟨_, kvs, q | ⟨ob, q⟩, _⟩
      · exact dK (I.hok a _ q)
      · exact dK (I.hok a _ q).2
      · exact dT (I.hok a _ q)
      · exact dT (I.hok a _ q).2
    exact ⟨_, PySem.W.kitx_dict, this, fun z => nomatch z⟩
  | _ => cases h
theorem bi_isi (c : Cal X w) : CallR X (.builtin "isinstance") (rOf w Pisi) := by
  intro pins s σ H xs us Q I r ⟨G, vs, o, z, le, rr, hp, q⟩
  unfold Pisi at hp
  split at hp
  · rename_i T
    obtain ⟨x, y, e, r1, r2⟩ := rreps_two rr
    subst e
    split at hp
    · rename_i a ha
      rw [Option.map_eq_some_iff] at hp
      obtain ⟨b, hb, e⟩ := hp
      cases e
      obtain rfl := rrep_ty r2
      obtain ⟨u1, u2, rfl, q1, q2⟩ := vals2 r
      cases (show u2 = Value.type T from q2)
      obtain ⟨P, Z, p, hx⟩ := kit_val c I q1 le r1 ha
      exact PySem.W.kia_one Z I.kIn p (kit_ty hb) hx fun tk => ⟨.bl b, H, I.tok tk, rfl, bl_new le q⟩
    · cases hp
  · cases hp
theorem bi_len (c : Cal X w) : CallR X (.builtin "len") (rOf w Plen) := by
  intro pins s σ H xs us Q I r ⟨G, vs, o, z, le, rr, hp, q⟩
  unfold Plen at hp
  split at hp
  · obtain ⟨x, e, r1⟩ := rreps_one rr
    subst e; cases hp
    obtain ⟨rfl, hz⟩ := rrep_str r1
    exact call_len pins s σ H _ us Q I r ⟨_, _, rfl, ⟨hz, rfl⟩, int_new le q⟩
  · obtain ⟨x, e, r1⟩ := rreps_one rr
    subst e; cases hp
    obtain ⟨a, xs, rfl, h, rs⟩ := rrep_lst le r1
    rw [reps_length rs] at q
    exact call_len pins s σ H _ us Q I r ⟨_, _, rfl, .inl ⟨xs, .inl (.inl h), rfl⟩, int_new le q⟩
  · obtain ⟨x, e, r1⟩ := rreps_one rr
    subst e; cases hp
    obtain ⟨a, xs, rfl, h, rs⟩ := rrep_tup le r1
    rw [c.K] at h
    rw [reps_length rs] at q
    exact call_len pins s σ H _ us Q I r ⟨_, _, rfl, .inr ⟨xs, h, rfl⟩, int_new le q⟩
  · obtain ⟨x, e, r1⟩ := rreps_one rr
    subst e; cases hp
    obtain ⟨a, rfl, h⟩ := rrep_scr le r1
    rw [c.K] at h
    rename_i ns
    have e : ns.length = (ns.map V.int).length := by simp
    rw [e] at q
    exact call_len pins s σ H _ us Q I r ⟨_, _, rfl, .inl ⟨_, h, rfl⟩, int_new le q⟩
  · cases hp
theorem bi_abs : CallR X (.builtin "abs") (rOf w Pabs) := by
  intro pins s σ H xs us Q I r ⟨G, vs, o, z, le, rr, hp, q⟩
  unfold Pabs at hp
  split at hp
  · obtain ⟨x, e, r1⟩ := rreps_one rr
    subst e; cases hp
    obtain rfl := rrep_int r1
    exact call_abs pins s σ H _ us Q I r ⟨_, rfl, int_new le q⟩
  · cases hp
theorem bi_int : CallR X (.type "int") (rOf w Pint) := by
  intro pins s σ H xs us Q I r ⟨G, vs, o, z, le, rr, hp, q⟩
  unfold Pint at hp
  split at hp
  · obtain ⟨x, e, r1⟩ := rreps_one rr
    subst e; cases hp
    obtain rfl := rrep_int r1
    exact call_int1 pins s σ H _ us Q I r (.inl ⟨_, rfl, int_new le q⟩)
  · obtain ⟨x, e, r1⟩ := rreps_one rr
    subst e; cases hp
    obtain rfl := rrep_bl r1
    exact call_int1 pins s σ H _ us Q I r (.inr ⟨_, rfl, int_new le q⟩)
  · cases hp
theorem bi_max2 (c : Cal X w) : CallR X (.builtin "max") (rOf w Pmax2) := by
  intro pins s σ H xs us Q I r ⟨G, vs, o, z, le, rr, hp, q⟩
  unfold Pmax2 at hp
  split at hp
  · obtain ⟨x, y, e, r1, r2⟩ := rreps_two rr
    subst e; cases hp
    obtain rfl := rrep_int r1; obtain rfl := rrep_int r2
    exact call_max2 c.calm pins s σ H _ us Q I r ⟨_, _, rfl, int_new le q⟩
  · cases hp
theorem bi_min2 (c : Cal X w) : CallR X (.builtin "min") (rOf w Pmin2) := by
  intro pins s σ H xs us Q I r ⟨G, vs, o, z, le, rr, hp, q⟩
  unfold Pmin2 at hp
  split at hp
  · obtain ⟨x, y, e, r1, r2⟩ := rreps_two rr
    subst e; cases hp
    obtain rfl := rrep_int r1; obtain rfl := rrep_int r2
    exact call_min2 c.calm pins s σ H _ us Q I r ⟨_, _, rfl, int_new le q⟩
  · cases hp
theorem bi_str : CallR X (.type "str") (rOf w Pstr) := by
  intro pins s σ H xs us Q I r ⟨G, vs, o, z, le, rr, hp, q⟩
  unfold Pstr at hp
  split at hp
  · obtain ⟨x, e, r1⟩ := rreps_one rr
    subst e
    split at hp
    · rename_i hi
      cases hp
      obtain rfl := rrep_int r1
      exact call_str_int pins s σ H _ us Q I r ⟨_, rfl, hi.1, str_new le hi.2 q⟩
    · cases hp
  · obtain ⟨x, e, r1⟩ := rreps_one rr
    subst e; cases hp
    obtain ⟨rfl, hz⟩ := rrep_str r1
    exact SkE.call_str_str pins s σ H _ us Q I r ⟨_, rfl, str_new le hz q⟩
  · cases hp
theorem bi_all (c : Cal X w) : CallR X (.builtin "all") (rOf w Pall) := by
  intro pins s σ H xs us Q I r ⟨G, vs, o, z, le, rr, hp, q⟩
  unfold Pall at hp
  split at hp
  · obtain ⟨x, e, r1⟩ := rreps_one rr
    subst e
    rw [Option.map_eq_some_iff] at hp
    obtain ⟨bs, hb, e⟩ := hp
    cases e
    obtain ⟨a, xs, rfl, h, rs⟩ := rrep_lst le r1
    rw [asBls_some hb] at rs
    rw [reps_bls rs] at h
    exact cr_all c.calm pins s σ H _ us Q I r ⟨a, bs, rfl, .inl (.inl h), bl_new le q⟩
  · cases hp
theorem bi_any (c : Cal X w) : CallR X (.builtin "any") (rOf w Pany) := by
  intro pins s σ H xs us Q I r ⟨G, vs, o, z, le, rr, hp, q⟩
  unfold Pany at hp
  split at hp
  · obtain ⟨x, e, r1⟩ := rreps_one rr
    subst e
    rw [Option.map_eq_some_iff] at hp
    obtain ⟨bs, hb, e⟩ := hp
    cases e
    obtain ⟨a, xs, rfl, h, rs⟩ := rrep_lst le r1
    rw [asBls_some hb] at rs
    rw [reps_bls rs] at h
    exact cr_any c.calm pins s σ H _ us Q I r ⟨a, bs, rfl, .inl (.inl h), bl_new le q⟩
  · cases hp
theorem bi_list (c : Cal X w) : CallR X (.type "list") (rOf w Plist) := by
  intro pins s σ H xs us Q I r ⟨G, vs, o, z, le, rr, hp, q⟩
  have shape : ∃ v ds, vs = [v] ∧ o = true ∧ z = .lst ds := by
    unfold Plist at hp
    split at hp <;> first | (cases hp; exact ⟨_, _, rfl, rfl, rfl⟩) | cases hp
  obtain ⟨v, ds, rfl, rfl, rfl⟩ := shape
  obtain ⟨x, e, r1⟩ := rreps_one rr
  subst e
  obtain ⟨p, ys, rfl, hs, rs⟩ := rrep_seq c le r1 hp
  exact call_list_of pins s σ H _ us Q I r ⟨p, ys, rfl, hs, fun l hl => new_lst le hl rs q⟩
theorem bi_tuple (c : Cal X w) : CallR X (.type "tuple") (rOf w Ptuple) := by
  intro pins s σ H xs us Q I r ⟨G, vs, o, z, le, rr, hp, q⟩
  unfold Ptuple at hp
  split at hp
  · obtain ⟨x, e, r1⟩ := rreps_one rr
    subst e; cases hp
    obtain ⟨a, xs, rfl, h, rs⟩ := rrep_lst le r1
    refine call_tuple_of pins s σ H _ us Q I r ⟨a, xs, rfl, .inl ⟨.inl (.inl h), fun p hp => ?_⟩⟩
    have gr := Grow.laidG (o := .tup xs) le hp
    exact q _ _ _ gr (nrep_f (rep_tup.mpr ⟨p, xs, rfl, SqT.of upd_same, rs.mono gr.g⟩))
  · obtain ⟨x, e, r1⟩ := rreps_one rr
    subst e; cases hp
    have r0 := r1
    obtain ⟨a, xs, rfl, h, rs⟩ := rrep_tup le r1
    rw [c.K] at h
    refine call_tuple_of pins s σ H _ us Q I r ⟨a, xs, rfl, .inr ⟨h, ?_⟩⟩
    refine q _ _ _ (Grow.refl le) (nrep_f ?_)
    rcases r0 with r0 | ⟨_, _, r0⟩
    · exact r0
    · exact r0.elim
  · cases hp
theorem bi_repr (c : Cal X w) : CallR X (.builtin "repr") (rOf w Prepr) := by
  intro pins s σ H xs us Q I r ⟨G, vs, o, z, le, rr, hp, q⟩
  unfold Prepr at hp
  split at hp
  · obtain ⟨x, e, r1⟩ := rreps_one rr
    subst e
    split at hp
    · rename_i d hd
      split at hp
      · rename_i hc
        cases hp
        obtain ⟨h1, h2, h3, h4⟩ := hc
        obtain ⟨u, rfl, ru⟩ := vals1 r
        have dp := dp_rrep c.K le r1 hd
        have fin : ∀ s', Inv X pins σ H s' → ∀ t, EP X pins σ Q (.str d.shown t) s' := fun s' J t => ⟨.str d.shown, H, J, ⟨_, rfl⟩, str_new le h4 q⟩
        cases dp with
        | non => cases ru; exact PySem.P.repr_of_none (by have := fin { s with toks := s.toks + 1 } (I.tok _) s.toks; simpa only [PyData.shown] using this)
        | bl b => cases ru; exact PySem.P.repr_of_bool (by have := fin { s with toks := s.toks + 1 } (I.tok _) s.toks; simpa only [PyData.shown] using this)
        | int i => obtain ⟨t, rfl⟩ := ru; exact PySem.P.repr_of_int (by simpa [PyData.showable] using h1) (by have := fin { s with toks := s.toks + 1 } (I.tok _) s.toks; simpa only [PyData.shown] using this)
        | str y => obtain ⟨t, rfl⟩ := ru; exact PySem.P.repr_of_str (by have := fin { s with toks := s.toks + 1 } (I.tok _) s.toks; simpa only [PyData.shown] using this) (by simpa only [PyData.shown] using h4)
        | @lst a ys ds hs ha =>
          cases ru
          obtain ⟨as, rd⟩ := Dp.reads I _ _ _ (Dp.lst hs ha) (show RelV (.ref a) (.ref a) from rfl)
          refine PySem.repr_of_reads' rd h1 (PyData.noDict_hsm h2) c.gs (by have := c.un; omega) (fun b o e => e) (fun h' u tk hk => fin _ (I.kept (t' := tk) hk) u) h4
        | @tup a ys ds hs ha =>
          cases ru
          obtain ⟨as, rd⟩ := Dp.reads I _ _ _ (Dp.tup hs ha) (show RelV (.ref a) (.ref a) from rfl)
          refine PySem.repr_of_reads' rd h1 (PyData.noDict_hsm h2) c.gs (by have := c.un; omega) (fun b o e => e) (fun h' u tk hk => fin _ (I.kept (t' := tk) hk) u) h4
      · cases hp
    · cases hp
  · cases hp
end
end M
/-! MPD: subscripts, slices, what is walked, dict lookups. -/
namespace M
open PySem L2

/-! ### keys -/
def keyIs : Key → Val → Bool
  | .inl i, .int j => i == j
  | .inr s, .str t => s == t
  | _, _ => false
def keyOf : Val → Option Key
  | .int i => some (.inl i)
  | .str s => some (.inr s)
  | _ => none
def dGet (kvs : List (Val × Val)) (q : Key) : Option Val := (kvs.find? fun p => keyIs q p.1).map (·.2)
def dPut (kvs : List (Val × Val)) (q : Key) (v : Val) : List (Val × Val) := if (kvs.any fun p => keyIs q p.1) = true then kvs.map (fun p => if keyIs q p.1 = true then (p.1, v) else p) else kvs ++ [(kv q, v)]
def dDel (kvs : List (Val × Val)) (q : Key) : List (Val × Val) := kvs.filter fun p => !keyIs q p.1
theorem keyIs_kv (q q' : Key) : keyIs q (kv q') = decide (q' = q) := by
  cases q <;> cases q' <;> simp [keyIs, kv] <;> (rw [Bool.eq_iff_iff]; simp; exact ⟨Eq.symm, Eq.symm⟩)
theorem keyOf_kv {v : Val} {q : Key} (h : keyOf v = some q) : v = kv q := by
  cases v <;> simp [keyOf] at h <;> (subst h; rfl)
section
variable {w : Wd} {G : Hp}
theorem repK_get (q : Key) : ∀ {ds : List (Val × Val)} {kvs : List (Key × V)}, RepK w G ds kvs → (∀ d, dGet ds q = some d → ∃ x, valV kvs q = some x ∧ Rep w G d x) ∧ (dGet ds q = none → valV kvs q = none)
  | [], kvs, r => by
    rw [RepK] at r; subst r
    exact ⟨fun d h => by simp [dGet] at h, fun _ => rfl⟩
  | (k, d) :: ds, kvs, r => by
    rw [RepK] at r
    obtain ⟨q', y, ys, rfl, ⟨rfl, _⟩, r1, r2⟩ := r
    obtain ⟨i1, i2⟩ := repK_get q r2
    by_cases e : q' = q
    · have hk : keyIs q (kv q') = true := by rw [keyIs_kv]; exact decide_eq_true e
      refine ⟨fun d' h => ?_, fun h => ?_⟩
      · simp [dGet, List.find?_cons, hk] at h
        subst h
        exact ⟨y, valV_pos e, r1⟩
      · simp [dGet, List.find?_cons, hk] at h
    · have hk : keyIs q (kv q') = false := by rw [keyIs_kv]; exact decide_eq_false e
      have e2 : dGet ((kv q', d) :: ds) q = dGet ds q := by simp [dGet, List.find?_cons, hk]
      rw [e2, valV_neg e]
      exact ⟨i1, i2⟩
theorem repK_length : ∀ {ds : List (Val × Val)} {kvs : List (Key × V)}, RepK w G ds kvs → ds.length = kvs.length
  | [], _, r => by rw [RepK] at r; subst r; rfl
  | (k, d) :: ds, _, r => by
    rw [RepK] at r
    obtain ⟨q', y, ys, rfl, _, _, r2⟩ := r
    simp [repK_length r2]
theorem repK_any (q : Key) : ∀ {ds : List (Val × Val)} {kvs : List (Key × V)}, RepK w G ds kvs → (ds.any fun p => keyIs q p.1) = kvs.any fun kv => decide (kv.1 = q)
  | [], _, r => by rw [RepK] at r; subst r; rfl
  | (k, d) :: ds, _, r => by
    rw [RepK] at r
    obtain ⟨q', y, ys, rfl, ⟨rfl, _⟩, _, r2⟩ := r
    rw [List.any_cons, List.any_cons, repK_any q r2, keyIs_kv]
theorem repK_map {q : Key} {d : Val} {x : V} (rv : Rep w G d x) : ∀ {ds : List (Val × Val)} {kvs : List (Key × V)}, RepK w G ds kvs → RepK w G (ds.map fun p => if keyIs q p.1 = true then (p.1, d) else p) (kvs.map fun kv => if kv.1 = q then (kv.1, x) else kv)
  | [], _, r => by rw [RepK] at r; subst r; rw [List.map_nil, List.map_nil, RepK]
  | (k, e) :: ds, _, r => by
    rw [RepK] at r
    obtain ⟨q', y, ys, rfl, ⟨rfl, hb⟩, r1, r2⟩ := r
    rw [List.map_cons, List.map_cons]
    by_cases h : q' = q
    · subst h
      have hk : keyIs q' (kv q') = true := by rw [keyIs_kv]; exact decide_eq_true rfl
      simp only [hk, if_true]
      rw [RepK]
      exact ⟨q', x, _, rfl, ⟨rfl, hb⟩, rv, repK_map rv r2⟩
    · have hk : keyIs q (kv q') = false := by rw [keyIs_kv]; exact decide_eq_false h
      simp only [hk, h, Bool.false_eq_true, if_false]
      rw [RepK]
      exact ⟨q', y, _, rfl, ⟨rfl, hb⟩, r1, repK_map rv r2⟩
theorem repK_app : ∀ {ds es : List (Val × Val)} {xs ys : List (Key × V)}, RepK w G ds xs → RepK w G es ys → RepK w G (ds ++ es) (xs ++ ys)
  | [], _, _, _, r, q => by rw [RepK] at r; subst r; simpa using q
  | (k, d) :: ds, _, _, _, r, q => by
    rw [RepK] at r
    obtain ⟨q', y, zs, rfl, hb, r1, r2⟩ := r
    rw [List.cons_append, List.cons_append, RepK]
    exact ⟨q', y, _, rfl, hb, r1, repK_app r2 q⟩
theorem repK_put {q : Key} {d : Val} {x : V} {ds : List (Val × Val)} {kvs : List (Key × V)} (r : RepK w G ds kvs) (hb : kb q) (rv : Rep w G d x) : RepK w G (dPut ds q d) (putK kvs q x) := by
  unfold dPut putK
  rw [repK_any q r]
  split
  · exact repK_map rv r
  · refine repK_app r ?_
    rw [RepK]
    exact ⟨q, x, [], rfl, ⟨rfl, hb⟩, rv, by rw [RepK]⟩
theorem repK_del {q : Key} : ∀ {ds : List (Val × Val)} {kvs : List (Key × V)}, RepK w G ds kvs → RepK w G (dDel ds q) (dropK kvs q)
  | [], _, r => by rw [RepK] at r; subst r; simp [dDel, dropK]; rw [RepK]
  | (k, e) :: ds, _, r => by
    rw [RepK] at r
    obtain ⟨q', y, ys, rfl, ⟨rfl, hb⟩, r1, r2⟩ := r
    have ih := repK_del (q := q) r2
    unfold dDel dropK at ih ⊢
    rw [List.filter_cons, List.filter_cons]
    by_cases h : q' = q
    · subst h
      have hk : keyIs q' (kv q') = true := by rw [keyIs_kv]; exact decide_eq_true rfl
      simp only [hk, Bool.not_true, Bool.false_eq_true, if_false, ne_eq, not_true, decide_false]
      simp only [ne_eq] at ih
      exact ih
    · have hk : keyIs q (kv q') = false := by rw [keyIs_kv]; exact decide_eq_false h
      simp only [hk, h, Bool.not_false, if_true, ne_eq, not_false_eq_true, decide_true]
      simp only [ne_eq] at ih
      rw [RepK]
      exact ⟨q', y, _, rfl, ⟨rfl, hb⟩, r1, ih⟩
theorem rrep_key {H : Hp} {v : Val} {x : V} {q : Key} (r : RRep w G H v x) (h : keyOf v = some q) : x = kV q ∧ kb q := by
  cases v <;> simp [keyOf] at h
  · subst h; exact ⟨rrep_int r, True.intro⟩
  · subst h; exact rrep_str r
end

/-! ### a[i] -/
def Pix : List Val → Option (Bool × Val)
  | [.lst ds, .int i] => (atI ds i).map fun d => (false, d)
  | [.tup ds, .int i] => (atI ds i).map fun d => (false, d)
  | [.str z, .int i] => (atI z.cps.toList i).map fun c => (false, .str ⟨#[c]⟩)
  | [.scr ns, .int i] => (atI ns i).map fun n => (false, .int n)
  | [.dct false kvs, k] => match keyOf k with
    | some q => (dGet kvs q).map fun d => (false, d)
    | none => none
  | _ => none
theorem atI_reps {w : Wd} {G : Hp} {ds : List Val} {xs : List V} {i : Int} {d : Val} (r : Reps w G ds xs) (h : atI ds i = some d) : ∃ x, atI xs i = some x ∧ Rep w G d x := by
  unfold atI at h ⊢
  rw [← reps_length r]
  cases e : ixN ds.length i with
  | none => rw [e] at h; cases h
  | some j => rw [e] at h; exact reps_get r h
theorem atI_map {α β : Type} (f : α → β) (xs : List α) (i : Int) : atI (xs.map f) i = (atI xs i).map f := by
  unfold atI
  rw [List.length_map]
  cases ixN xs.length i with
  | none => rfl
  | some j => simp
theorem ixr_ix {X : Cx} {w : Wd} (c : Cal X w) : IxR X (r2Of w Pix) := by
  intro value slice pins s σ H x y v u Q I rx ry ⟨G, vs, o, z, le, rr, hp, q⟩ hs
  have fz : ∀ {d : Val} {a : V}, Rep w G d a → (∀ u G' H', Grow G H G' H' → NRep w G H G' H' false d u → Q u H') → Q a H := fun r q => q _ G H (Grow.refl le) (nrep_f r)
  unfold Pix at hp
  split at hp
  · obtain ⟨_, _, e, r1, r2⟩ := rreps_two rr
    cases e
    rw [Option.map_eq_some_iff] at hp
    obtain ⟨d, hd, e⟩ := hp
    cases e
    obtain ⟨a, xs, rfl, h, rs⟩ := rrep_lst le r1
    obtain rfl := rrep_int r2
    obtain ⟨b, hb, rb⟩ := atI_reps rs hd
    exact ix_list value slice pins s σ H _ _ v u Q I rx ry ⟨a, xs, _, b, rfl, rfl, .inl (.inl h), hb, fz rb q⟩ hs
  · obtain ⟨_, _, e, r1, r2⟩ := rreps_two rr
    cases e
    rw [Option.map_eq_some_iff] at hp
    obtain ⟨d, hd, e⟩ := hp
    cases e
    obtain ⟨a, xs, rfl, h, rs⟩ := rrep_tup le r1
    obtain rfl := rrep_int r2
    obtain ⟨b, hb, rb⟩ := atI_reps rs hd
    rw [c.K] at h
    exact ix_tup value slice pins s σ H _ _ v u Q I rx ry ⟨a, xs, _, b, rfl, rfl, h, hb, fz rb q⟩ hs
  · obtain ⟨_, _, e, r1, r2⟩ := rreps_two rr
    cases e
    rw [Option.map_eq_some_iff] at hp
    obtain ⟨d, hd, e⟩ := hp
    cases e
    obtain ⟨rfl, hz⟩ := rrep_str r1
    obtain rfl := rrep_int r2
    exact ix_str value slice pins s σ H _ _ v u Q I rx ry ⟨_, _, _, rfl, rfl, hz, hd, fz (rep_str.mpr ⟨rfl, by show 1 ≤ sizeLine; rw [PySem.sizeLine_eq]; decide⟩) q⟩ hs
  · obtain ⟨_, _, e, r1, r2⟩ := rreps_two rr
    cases e
    rw [Option.map_eq_some_iff] at hp
    obtain ⟨d, hd, e⟩ := hp
    cases e
    obtain ⟨a, rfl, h⟩ := rrep_scr le r1
    obtain rfl := rrep_int r2
    rw [c.K] at h
    exact ix_list value slice pins s σ H _ _ v u Q I rx ry ⟨a, _, _, .int d, rfl, rfl, h, by rw [atI_map, hd]; rfl, fz (rep_int.mpr rfl) q⟩ hs
  · obtain ⟨_, _, e, r1, r2⟩ := rreps_two rr
    cases e
    split at hp
    · rename_i k hk
      rw [Option.map_eq_some_iff] at hp
      obtain ⟨d, hd, e⟩ := hp
      cases e
      obtain ⟨rfl, _⟩ := rrep_key r2 hk
      obtain ⟨a, rfl, ⟨_, kvs, h, rk⟩ | ⟨ht, _⟩⟩ := rrep_dct le r1
      · obtain ⟨b, hb, rb⟩ := (repK_get k rk).1 _ hd
        have g : DGet H a (kV k) (some b) := .inl ⟨kvs, k, h, rfl, hb.symm⟩
        cases (show v = Value.ref a from rx)
        exact PyProof.Rows.tail_any (dict_typeIs I g) PySem.F.slot_dict_getitem.lookup (d_getItem (by have := c.un; omega) I g ry fun w' s3 I3 rw' => ⟨b, H, I3, rw', fz rb q⟩) hs
      · cases ht
    · cases hp
  · cases hp

/-! ### a[lo:hi] -/
def cutA {α : Type} (xs : List α) (lo hi : Option Int) : List α := (xs.drop (HT.sIx xs.length 0 lo)).take (HT.sIx xs.length xs.length hi - HT.sIx xs.length 0 lo)
def Psl : Val → Option Int → Option Int → Option (Bool × Val)
  | .str z, lo, hi => some (false, .str (cutS z lo hi))
  | .lst ds, lo, hi => some (true, .lst (cutA ds lo hi))
  | .tup ds, lo, hi => some (false, .tup (cutA ds lo hi))
  | .scr ns, lo, hi => some (true, .lst ((cutA ns lo hi).map .int))
  | _, _, _ => none
inductive PR where
  | ok (i : Option Int) (r : Env) | ex (e : Val) (r : Env) | bad
abbrev PF := Env → PR
def pNo : PF := fun r => .ok none r
def pInt (f : EF) : PF := fun r => match f r with
  | .ok _ v r' => match v with
    | .int i => .ok (some i) r'
    | _ => .bad
  | .ex e r' => .ex e r'
  | .bad => .bad
def tP (A : Act) (W : WX) (f : PF) : TO := fun σ H Q => ∃ r G, Ok A G H σ r ∧ match f r with
  | .ok i r' => ∀ G' H', Ok A G' H' σ r' → Step σ r G H r' G' H' → Q i H'
  | .ex e r' => ExP A W G σ e r'
  | .bad => False
theorem PO.imp {X : Cx} {e : Option Expr} {t t' : TO} (h : PO X e t) (hi : ∀ σ H Q, t' σ H Q → t σ H Q) : PO X e t' := ⟨fun pins s σ H Q I q => h.run pins s σ H Q I (hi _ _ _ q)⟩
def slc (fo : OF) (fl fu : PF) : EF := fun r => match fo r with
  | .ok h r1 => match fl r1 with
    | .ok lo r2 => match fu r2 with
      | .ok hi r3 => match h.get r3 with
        | some v => match Psl v lo hi with
          | some (o, z) => .ok o z r3
          | none => .bad
        | none => .bad
      | .ex e r3 => .ex e r3
      | .bad => .bad
    | .ex e r2 => .ex e r2
    | .bad => .bad
  | .ex e r1 => .ex e r1
  | .bad => .bad
section
variable {X : Cx} {A : Act} {W : WX} {e : Expr} {f : EF} {fo : OF} {fl fu : PF} {lo hi : Option Expr} {p2 pos : Pos}
theorem po_pNo : PO X none (tP A W pNo) := PO.imp po_none fun σ H Q ⟨r, G, k, m⟩ => m G H k Step.refl
theorem po_pInt (h : PE X e (tE A W f)) : PO X (some e) (tP A W (pInt f)) := PO.imp (po_some h) fun σ H Q ⟨r, G, k, m⟩ => ⟨r, G, k, by
  unfold pInt at m
  cases hf : f r with
  | bad => rw [hf] at m; exact m.elim
  | ex e r' => rw [hf] at m; exact m
  | ok o v r' =>
    simp only [hf] at m
    intro x G1 H1 R
    cases v with
    | int i =>
      have ex : x = .int i := by
        have t := R.tr
        cases o with
        | true => obtain ⟨_, _, ro, _⟩ := t; exact ro.elim
        | false => exact rep_int.mp (show Rep A.w G1 (.int i) x from t)
      exact ⟨i, ex, m G1 H1 R.ok R.st⟩
    | _ => exact False.elim m⟩
theorem reps_cut {w : Wd} {G : Hp} {ds : List Val} {xs : List V} (r : Reps w G ds xs) (lo hi : Option Int) : Reps w G (cutA ds lo hi) (cutV xs lo hi) := by
  unfold cutA cutV
  rw [reps_length r]
  exact reps_take _ (reps_drop _ r)
theorem cut_whole {α : Type} (xs : List α) {lo hi : Option Int} (h : HT.sIx xs.length 0 lo = 0 ∧ HT.sIx xs.length xs.length hi = xs.length) : cutA xs lo hi = xs := by
  unfold cutA
  rw [h.1, h.2]
  simp
/-- HandS's reading of a slice, of values -/
def rSl (w : Wd) : V → Option Int → Option Int → Hp → VK → Prop := fun x lo hi H Q => ∃ G v o z, Le G H ∧ RRep w G H v x ∧ Psl v lo hi = some (o, z) ∧ ∀ u G' H', Grow G H G' H' → NRep w G H G' H' o z u → Q u H'
theorem sl_val {w : Wd} (c : Cal X w) : SlR X (rSl w) := by
  intro pins s σ H x v vl vu lo hi sl Q I rx hs pl pu ⟨G, a, o, z, le, r1, hp, q⟩
  unfold Psl at hp
  split at hp
  · cases hp
    obtain ⟨rfl, hz⟩ := rrep_str r1
    exact sl_str pins s σ H _ v vl vu lo hi sl Q I rx hs pl pu ⟨_, rfl, hz, q _ G H (Grow.refl le) (nrep_f (rep_str.mpr ⟨rfl, Nat.le_trans (cutS_length _ _ _) hz⟩))⟩
  · cases hp
    obtain ⟨a, xs, rfl, h, rs⟩ := rrep_lst le r1
    exact sl_list pins s σ H _ v vl vu lo hi sl Q I rx hs pl pu ⟨a, xs, rfl, .inl (.inl h), fun p hp => new_lst le hp (reps_cut rs lo hi) q⟩
  · cases hp
    have r0 := r1
    obtain ⟨a, xs, rfl, h, rs⟩ := rrep_tup le r1
    have hl := reps_length rs
    rw [c.K] at h
    refine sl_tupA pins s σ H _ v vl vu lo hi sl Q I rx hs pl pu ⟨a, xs, rfl, h, fun hw => ?_, fun hw p hp => ?_⟩
    · refine q _ G H (Grow.refl le) (nrep_f ?_)
      rw [← hl] at hw
      rw [cut_whole _ hw]
      rcases r0 with r0 | ⟨_, _, r0⟩
      · exact r0
      · exact r0.elim
    · have gr := Grow.laidG (o := .tup (cutV xs lo hi)) le hp
      exact q _ _ _ gr (nrep_f (rep_tup.mpr ⟨p, _, rfl, SqT.of upd_same, (reps_cut rs lo hi).mono gr.g⟩))
  · cases hp
    obtain ⟨a, rfl, h⟩ := rrep_scr le r1
    rw [c.K] at h
    rename_i ns
    refine sl_list pins s σ H _ v vl vu lo hi sl Q I rx hs pl pu ⟨a, _, rfl, h, fun p hp => new_lst le hp ?_ q⟩
    have e : cutV (ns.map V.int) lo hi = (cutA ns lo hi).map V.int := by
      unfold cutV cutA
      rw [List.length_map, ← List.map_drop, ← List.map_take]
    rw [e]
    exact reps_of_ints
  · cases hp
theorem pe_slc (c : Cal X A.w) (he : PE X e (tO A W fo)) (hl : PO X lo (tP A W fl)) (hu : PO X hi (tP A W fu)) : PE X (.Subscript e (.Slice lo hi none p2) pos) (tE A W (slc fo fl fu)) :=
  PE.imp (pe_slice (sl_val c) he hl hu) fun σ H Q ⟨r, G, k, m⟩ => ⟨r, G, k, by
    unfold slc at m
    cases hf : fo r with
    | bad => rw [hf] at m; exact m.elim
    | ex e r' => rw [hf] at m; exact m
    | ok h r1 =>
      simp only [hf] at m
      intro x G1 H1 k1 st1 t1
      refine ⟨r1, G1, k1, ?_⟩
      cases hg : fl r1 with
      | bad => simp only [hg] at m
      | ex e r2 => simp only [hg] at m ⊢; exact m.mono st1.ex
      | ok l r2 =>
        simp only [hg] at m ⊢
        intro G2 H2 k2 st2
        refine ⟨r2, G2, k2, ?_⟩
        cases hu' : fu r2 with
        | bad => simp only [hu'] at m
        | ex e r3 => simp only [hu'] at m ⊢; exact (m.mono st1.ex).mono st2.ex
        | ok u r3 =>
          simp only [hu'] at m ⊢
          intro G3 H3 k3 st3
          have st := (st1.trans st2).trans st3
          cases hv : h.get r3 with
          | none => simp only [hv] at m
          | some v =>
            simp only [hv] at m
            cases hp : Psl v l u with
            | none => simp only [hp] at m
            | some oz =>
              obtain ⟨o, z⟩ := oz
              simp only [hp] at m
              refine ⟨G3, v, o, z, k3.sub, ((t1.step st2).step st3).get k3 hv, hp, fun u' G4 H4 gr nr => ?_⟩
              refine m u' G4 H4 ⟨k3.grow gr, st.trans gr.step, nr.trep k3, fun eo a ea => ?_⟩
              subst eo
              obtain ⟨b, e1, _, _, n⟩ := nr
              rw [ea] at e1; cases e1
              exact st.fresh n⟩
end

/-! ### what is walked -/
def signs (z : Str) : List Val := z.cps.toList.map fun c => .str ⟨#[c]⟩
def itemsOf : Val → Option (List Val)
  | .lst ds => some ds
  | .tup ds => some ds
  | .scr ns => some (ns.map .int)
  | .str z => some (signs z)
  | .dct false kvs => some (kvs.map (·.1))
  | _ => none
def itV (f : EF) : IF := fun r => match frz f r with
  | .ok _ v r' => match itemsOf v with
    | some vs => .ok vs r'
    | none => .bad
  | .ex e r' => .ex e r'
  | .bad => .bad
def upTo (lo : Int) (n : Nat) : List Val := (List.range n).map fun (k : Nat) => Val.int (lo + (k : Int))
def rng1 : List Val → Option (List Val)
  | [.int j] => if smallI 4000000000000000000 j = true then some (upTo 0 j.toNat) else none
  | _ => none
def rng2 : List Val → Option (List Val)
  | [.int i, .int j] => if smallI 4000000000000000000 i = true ∧ smallI 4000000000000000000 j = true then some (upTo i (j - i).toNat) else none
  | _ => none
def itR (q : List Val → Option (List Val)) (g : AF) : IF := fun r => match g r with
  | .ok vs r' => match q vs with
    | some us => .ok us r'
    | none => .bad
  | .ex e r' => .ex e r'
  | .bad => .bad
section
variable {w : Wd} {K : PySem.W.Frag} {G : Hp}
theorem itok_list {a : Addr} {ds : List Val} {xs : List V} (h : SqL K G a xs) (r : Reps w G ds xs) : ItOk w (Itl K a) G ds where
  go := fun G' H i le le' hi => by
    have : i < xs.length := by rw [← reps_length r]; exact hi
    exact ⟨xs, xs[i], sql_mono (le.trans le') h, by simp [this]⟩
  stop := fun G' H i le le' hi => ⟨xs, sql_mono (le.trans le') h, by rw [← reps_length r]; exact hi⟩
  yld := fun G' H i v x H' le le' hv ⟨e, hx⟩ => by
    subst e
    obtain ⟨y, e1, e2⟩ := reps_get r hv
    have := hx xs (sql_mono (le.trans le') h)
    rw [e1] at this; cases this
    exact ⟨G', Grow.refl le', e2.mono le⟩
theorem itok_tup {a : Addr} {ds : List Val} {xs : List V} (h : SqT K G a xs) (r : Reps w G ds xs) : ItOk w (Itt K a) G ds where
  go := fun G' H i le le' hi => by
    have : i < xs.length := by rw [← reps_length r]; exact hi
    exact ⟨xs, xs[i], sqt_mono (le.trans le') h, by simp [this]⟩
  stop := fun G' H i le le' hi => ⟨xs, sqt_mono (le.trans le') h, by rw [← reps_length r]; exact hi⟩
  yld := fun G' H i v x H' le le' hv ⟨e, hx⟩ => by
    subst e
    obtain ⟨y, e1, e2⟩ := reps_get r hv
    have := hx xs (sqt_mono (le.trans le') h)
    rw [e1] at this; cases this
    exact ⟨G', Grow.refl le', e2.mono le⟩
theorem itok_str (z : Str) : ItOk w (Its z) G (signs z) where
  go := fun G' H i le le' hi => by show i < z.cps.size; simpa [signs] using hi
  stop := fun G' H i le le' hi => by show z.cps.size ≤ i; simpa [signs] using hi
  yld := fun G' H i v x H' le le' hv ⟨e, c, hc, hx⟩ => by
    subst e
    subst hx
    have : z.cps.toList[i]? = some c := by rw [Array.getElem?_toList]; exact hc
    simp only [signs, List.getElem?_map, this, Option.map_some, Option.some.injEq] at hv
    subst hv
    exact ⟨G', Grow.refl le', rep_str.mpr ⟨rfl, by show 1 ≤ sizeLine; rw [PySem.sizeLine_eq]; decide⟩⟩
theorem itok_rng (lo : Int) (n : Nat) : ItOk w (Itr lo n) G (upTo lo n) where
  go := fun G' H i le le' hi => by show i < n; simpa [upTo] using hi
  stop := fun G' H i le le' hi => by show n ≤ i; simpa [upTo] using hi
  yld := fun G' H i v x H' le le' hv ⟨e, hx⟩ => by
    subst e
    subst hx
    have hi : i < n := by
      have := (List.getElem?_eq_some_iff.mp hv).1
      simpa [upTo] using this
    simp only [upTo, List.getElem?_map, List.getElem?_range hi, Option.map_some, Option.some.injEq] at hv
    subst hv
    exact ⟨G', Grow.refl le', rep_int.mpr rfl⟩
theorem repK_at : ∀ {ds : List (Val × Val)} {kvs : List (Key × V)} {i : Nat} {q : Key} {x : V}, RepK w G ds kvs → kvs[i]? = some (q, x) → ∃ d, ds[i]? = some (kv q, d) ∧ kb q ∧ Rep w G d x
  | [], _, _, _, _, r, h => by rw [RepK] at r; subst r; simp at h
  | (k, d) :: ds, _, i, q, x, r, h => by
    rw [RepK] at r
    obtain ⟨q', y, ys, rfl, ⟨rfl, hb⟩, r1, r2⟩ := r
    cases i with
    | zero => simp at h; obtain ⟨rfl, rfl⟩ := h; exact ⟨d, rfl, hb, r1⟩
    | succ i => obtain ⟨d', h1, h2⟩ := repK_at r2 (i := i) (by simpa using h); exact ⟨d', by simpa using h1, h2⟩
theorem rep_kv {q : Key} (hb : kb q) : Rep w G (kv q) (kV q) := by
  cases q with
  | inl i => exact rep_int.mpr rfl
  | inr s => exact rep_str.mpr ⟨rfl, hb⟩
theorem itok_keys {a : Addr} {o : Obj} {ds : List (Val × Val)} {kvs : List (Key × V)} (h : G a = some (.frz o (.dK kvs))) (r : RepK w G ds kvs) : ItOk w (Itk a o kvs) G (ds.map (·.1)) where
  go := fun G' H i le le' hi => ⟨le' _ _ (le _ _ h), by rw [← repK_length r]; simpa using hi⟩
  stop := fun G' H i le le' hi => ⟨le' _ _ (le _ _ h), by rw [← repK_length r]; simpa using hi⟩
  yld := fun G' H i v x H' le le' hv ⟨e, q, y, hk, hx⟩ => by
    subst e
    subst hx
    obtain ⟨d, h1, h2, _⟩ := repK_at r hk
    simp only [List.getElem?_map, h1, Option.map_some, Option.some.injEq] at hv
    subst hv
    exact ⟨G', Grow.refl le', rep_kv h2⟩
end
section
variable {X : Cx} {A : Act} {W : WX} {tg e : Expr} {f : EF} {g : AF}
theorem pi_V (hw : A.w.K = X.K) (he : PE X e (tE A W f)) : PI X tg e (tIt A W (itV f)) := by
  refine ⟨fun pins s σ H R I h => ?_⟩
  obtain ⟨r, G, k, m⟩ := h
  have h2 : tE A W (frz f) σ H fun x H1 => ∃ J, R J H1 ∧ ((∃ a xs, x = .ref a ∧ J = Itl X.K a ∧ SqL X.K H1 a xs) ∨ (∃ a xs, x = .ref a ∧ J = Itt X.K a ∧ SqT X.K H1 a xs) ∨ (∃ z, x = .str z ∧ J = Its z) ∨ ∃ a o kvs, x = .ref a ∧ J = Itk a o kvs ∧ H1 a = some (.frz o (.dK kvs))) := by
    refine ⟨r, G, k, ?_⟩
    unfold itV at m
    cases hf : frz f r with
    | bad => simp only [hf] at m
    | ex e r' => simp only [hf] at m ⊢; exact m
    | ok o v r' =>
      have eo := frz_false hf
      subst eo
      simp only [hf] at m ⊢
      intro x G1 H1 R1
      cases hi : itemsOf v with
      | none => simp only [hi] at m
      | some vs =>
        simp only [hi] at m
        have fin : ∀ J, ItOk A.w J G1 vs → R J H1 := fun J io => m J G1 H1 R1.ok R1.st io
        have rp : Rep A.w G1 v x := R1.tr
        have le := R1.ok.sub
        unfold itemsOf at hi
        split at hi
        · cases hi
          obtain ⟨a, xs, rfl, h, rs⟩ := rep_lst.mp rp
          exact ⟨_, fin _ (itok_list (K := X.K) (.inl (.inl h)) rs), .inl ⟨a, xs, rfl, rfl, .inl (.inl (le _ _ h))⟩⟩
        · cases hi
          obtain ⟨a, xs, rfl, h, rs⟩ := rep_tup.mp rp
          rw [hw] at h
          exact ⟨_, fin _ (itok_tup h rs), .inr (.inl ⟨a, xs, rfl, rfl, sqt_mono le h⟩)⟩
        · cases hi
          rw [Rep] at rp
          obtain ⟨a, rfl, h⟩ := rp
          rw [hw] at h
          exact ⟨_, fin _ (itok_list h reps_of_ints), .inl ⟨a, _, rfl, rfl, sql_mono le h⟩⟩
        · cases hi
          obtain ⟨rfl, _⟩ := rep_str.mp rp
          exact ⟨_, fin _ (itok_str _), .inr (.inr (.inl ⟨_, rfl, rfl⟩))⟩
        · cases hi
          rw [Rep] at rp
          obtain ⟨a, rfl, ⟨_, kvs, o, h, rk⟩ | ⟨ht, _⟩⟩ := rp
          · exact ⟨_, fin _ (itok_keys h rk), .inr (.inr (.inr ⟨a, o, kvs, rfl, rfl, le _ _ h⟩))⟩
          · cases ht
        · cases hi
  refine wpAny_mono ((pe_frz he).run pins s σ H _ I h2) (fun v s1 ⟨x, H1, I1, rx, J, hR, hx⟩ => ?_) fun _ _ z => z
  rcases hx with ⟨a, xs, rfl, rfl, h⟩ | ⟨a, xs, rfl, rfl, h⟩ | ⟨z, rfl, rfl⟩ | ⟨a, o, kvs, rfl, rfl, h⟩
  · cases (show v = Value.ref a from rx)
    obtain ⟨its, _, pl, _⟩ := I1.list h
    exact wpAny_pyIter_list pl.isList (pi_one (tk := s1.toks) I1 _ (turn_list a _) ⟨_, Heap.get?_push_size _ rfl, rfl, rfl⟩ hR)
  · cases (show v = Value.ref a from rx)
    obtain ⟨its, _, pl, _⟩ := I1.tuple h
    exact wpAny_pyIter_tuple (show s1.heap.IsTuple a its.toArray from pl) (pi_one (tk := s1.toks) I1 _ (turn_tuple a _) ⟨_, Heap.get?_push_size _ rfl, rfl, rfl⟩ hR)
  · obtain ⟨t, rfl⟩ := rx
    cases ha : z.cps.all (· < 128) with
    | false => exact wpAny_pyIter_wide ha (pi_one (tk := s1.toks) I1 _ (turn_str _ z t "str_iterator" (.inr rfl)) ⟨_, Heap.get?_push_size _ rfl, rfl, rfl⟩ hR)
    | true => exact wpAny_pyIter_ascii ha (pi_one (tk := s1.toks) I1 _ (turn_str _ z t "str_ascii_iterator" (.inl rfl)) ⟨_, Heap.get?_push_size _ rfl, rfl, rfl⟩ hR)
  · cases (show v = Value.ref a from rx)
    obtain ⟨hs, hgd, hx, es, ep, vs, hdt, hsz, _, _⟩ := I1.frzK h
    refine iter_keys hs hgd hx hdt (pi_one (tk := s1.toks) I1 _ (turn_keys _ hdt) ⟨_, Heap.get?_push_size _ rfl, rfl, ?_⟩ hR)
    rw [hsz] <;> rfl
theorem pi_rng1 {a : Expr} {p pos : Pos} (hg : Gl X "range") (hm : X.mg "range" = none) (ha : PA X [a] (tAs A W g)) (hs : starEach [a] X.env = [(false, eval a X.env)] := by rfl) : PI X tg (.Call (.Name "range" p) [a] [] pos) (tIt A W (itR rng1 g)) :=
  PI.imp (pi_range1 hg hm ha hs) fun σ H R ⟨r, G, k, m⟩ => ⟨r, G, k, by
    unfold itR at m
    cases hf : g r with
    | bad => simp only [hf] at m
    | ex e r' => simp only [hf] at m ⊢; exact m
    | ok vs r' =>
      simp only [hf] at m ⊢
      intro xs G1 H1 k1 st1 rs
      cases hq : rng1 vs with
      | none => simp only [hq] at m
      | some us =>
        simp only [hq] at m
        unfold rng1 at hq
        split at hq
        · split at hq
          · rename_i hb
            cases hq
            have hb2 := smallI_iff.mp hb
            exact ⟨_, reps_ints (ns := [_]) rs, by omega, by omega, m _ G1 H1 k1 st1 (itok_rng 0 _)⟩
          · cases hq
        · cases hq⟩
theorem pi_rng2 {a b : Expr} {p pos : Pos} (hg : Gl X "range") (hm : X.mg "range" = none) (ha : PA X [a, b] (tAs A W g)) (hs : starEach [a, b] X.env = [(false, eval a X.env), (false, eval b X.env)] := by rfl) (hs2 : starEach [b] X.env = [(false, eval b X.env)] := by rfl) :
    PI X tg (.Call (.Name "range" p) [a, b] [] pos) (tIt A W (itR rng2 g)) :=
  PI.imp (pi_range2 hg hm ha hs hs2) fun σ H R ⟨r, G, k, m⟩ => ⟨r, G, k, by
    unfold itR at m
    cases hf : g r with
    | bad => simp only [hf] at m
    | ex e r' => simp only [hf] at m ⊢; exact m
    | ok vs r' =>
      simp only [hf] at m ⊢
      intro xs G1 H1 k1 st1 rs
      cases hq : rng2 vs with
      | none => simp only [hq] at m
      | some us =>
        simp only [hq] at m
        unfold rng2 at hq
        split at hq
        · split at hq
          · rename_i hb
            cases hq
            have hb2 := smallI_iff.mp hb.1
            have hb3 := smallI_iff.mp hb.2
            exact ⟨_, _, reps_ints (ns := [_, _]) rs, ⟨by omega, by omega, by omega, by omega⟩, m _ G1 H1 k1 st1 (itok_rng _ _)⟩
          · cases hq
        · cases hq⟩
end
end M
/-! MPE: rules of expressions in short, methods, containers changed in place, displays of dicts. -/
namespace M
open PySem L2

abbrev bin (P : List Val → Option (Bool × Val)) (fa fb : OF) : EF := prim P (osCons fa (osCons fb osNil))
section
variable {X : Cx} {A : Act} {W : WX} {x y e : Expr} {es : List Expr} {fa fb fc : OF} {g : OsF} {P P' : List Val → Option (Bool × Val)} {pos p : Pos}
theorem pe_bin {op : Operator} (ho : OpR X (binaryOp op) (r2Of A.w P)) (ha : PE X x (tO A W fa)) (hb : PE X y (tO A W fb)) : PE X (.BinOp x op y pos) (tE A W (bin P fa fb)) := PE.imp (pe_op ho ha hb) fun _ _ _ q => prim_os2 q
theorem pe_cmpV {op : CmpOp} (ho : OpR X (compareOp op) (r2Of A.w P)) (ha : PE X x (tO A W fa)) (hb : PE X y (tO A W fb)) (hm : behindInMarks op y = false := by first | exact nobehind _ (by decide) (by decide) | rfl) : PE X (.Compare x [op] [y] pos) (tE A W (bin P fa fb)) := PE.imp (pe_cmpR ho ha hb hm) fun _ _ _ q => prim_os2 q
theorem pt_cmpV {op : CmpOp} (ho : OpR X (compareOp op) (r2Of A.w P)) (ha : PE X x (tO A W fa)) (hb : PE X y (tO A W fb)) (hm : behindInMarks op y = false := by first | exact nobehind _ (by decide) (by decide) | rfl) : PT X (.Compare x [op] [y] pos) (tBo A W (tst (bin P fa fb))) := pt_cmp' ho ha hb hm
theorem pe_idx (c : Cal X A.w) (ha : PE X x (tO A W fa)) (hb : PE X y (tO A W fb)) (hs : PlainIx y := by intro _ _; rfl) : PE X (.Subscript x y pos) (tE A W (bin Pix fa fb)) := PE.imp (pe_ix (ixr_ix c) ha hb hs) fun _ _ _ q => prim_os2 q
/-- f(e, ..), f a built-in function -/
theorem pe_bi {x : Str} {id : String} (hc : CallR X (.builtin id) (rOf A.w P)) (hg : Gl X x) (hm : X.mg x = none) (hv : bootBuiltins x = some (.builtin id)) (ha : PA X (e :: es) (tOs A W g)) (hn : x ≠ "__name__" := by decide) (hdb : (x == ("__debug__" : Str)) = false := by decide)
    (he : starEach (e :: es) X.env = (false, eval e X.env) :: starEach es X.env := by rfl) (hpl : (backTo pos (starEach es X.env)).any (·.1) = false := by rfl) : PE X (.Call (.Name x p) (e :: es) [] pos) (tE A W (prim P g)) :=
  PE.imp (pe_callB hc hg hm hv ha hn hdb he hpl) fun _ _ _ q => prim_os (rok_rOf _ _) q
theorem pe_bt {x : Str} {T : String} (hc : CallR X (.type T) (rOf A.w P)) (hg : Gl X x) (hm : X.mg x = none) (hv : bootBuiltins x = some (.type T)) (ha : PA X (e :: es) (tOs A W g)) (hn : x ≠ "__name__" := by decide) (hdb : (x == ("__debug__" : Str)) = false := by decide)
    (he : starEach (e :: es) X.env = (false, eval e X.env) :: starEach es X.env := by rfl) (hpl : (backTo pos (starEach es X.env)).any (·.1) = false := by rfl) : PE X (.Call (.Name x p) (e :: es) [] pos) (tE A W (prim P g)) :=
  PE.imp (pe_callTy hc hg hm hv ha hn hdb he hpl) fun _ _ _ q => prim_os (rok_rOf _ _) q

/-! ### a op b op c -/
def chn (P P' : List Val → Option (Bool × Val)) (fa fb fc : OF) : EF := fun r => match fa r with
  | .ok h1 r1 => match fb r1 with
    | .ok h2 r2 => match getAll r2 [h1, h2] with
      | some vs => match P vs with
        | some (false, .bl true) => match fc r2 with
          | .ok h3 r3 => match getAll r3 [h2, h3] with
            | some us => match P' us with
              | some (false, .bl b) => .ok false (.bl b) r3
              | _ => .bad
            | none => .bad
          | .ex e r3 => .ex e r3
          | .bad => .bad
        | some (false, .bl false) => .ok false (.bl false) r2
        | _ => .bad
      | none => .bad
    | .ex e r2 => .ex e r2
    | .bad => .bad
  | .ex e r1 => .ex e r1
  | .bad => .bad
theorem chn_of {σ : L2.St} {H : Hp} {Q : VK} (h : tE A W (chn P P' fa fb fc) σ H Q) : tChain (r2Of A.w P) (r2Of A.w P') (tO A W fa) (tO A W fb) (tO A W fc) σ H Q := by
  obtain ⟨r, G, k, m⟩ := h
  refine ⟨r, G, k, ?_⟩
  unfold chn at m
  cases hf : fa r with
  | bad => rw [hf] at m; exact m.elim
  | ex e r' => rw [hf] at m; exact m
  | ok h1 r1 =>
    simp only [hf] at m
    intro x G1 H1 k1 st1 t1
    refine ⟨r1, G1, k1, ?_⟩
    cases hg : fb r1 with
    | bad => simp only [hg] at m
    | ex e r2 => simp only [hg] at m ⊢; exact m.mono st1.ex
    | ok h2 r2 =>
      simp only [hg] at m ⊢
      intro y G2 H2 k2 st2 t2
      cases hv : getAll r2 [h1, h2] with
      | none => simp only [hv] at m
      | some vs =>
        simp only [hv] at m
        have rr : RReps A.w G2 H2 vs [x, y] := HReps.get k2 (show HReps A G2 H2 σ r2 [h1, h2] [x, y] from ⟨x, [y], rfl, t1.step st2, y, [], rfl, t2, rfl⟩) hv
        cases hp : P vs with
        | none => simp only [hp] at m
        | some oz =>
          obtain ⟨o, d⟩ := oz
          cases o with
          | true => simp only [hp] at m
          | false =>
            cases d with
            | bl b =>
              cases b with
              | true =>
                simp only [hp] at m
                refine ⟨G2, vs, false, .bl true, k2.sub, rr, hp, fun u G3 H3 gr nr => ?_⟩
                refine ⟨true, rep_bl.mp (show Rep A.w G3 (.bl true) u from nr), ?_⟩
                simp only [if_true]
                refine ⟨r2, G3, k2.grow gr, ?_⟩
                have st3 : Step σ r G H r2 G3 H3 := (st1.trans st2).trans gr.step
                cases hc : fc r2 with
                | bad => simp only [hc] at m
                | ex e r3 => simp only [hc] at m ⊢; exact m.mono st3.ex
                | ok h3 r3 =>
                  simp only [hc] at m ⊢
                  intro z G4 H4 k4 st4 t4
                  cases hu : getAll r3 [h2, h3] with
                  | none => simp only [hu] at m
                  | some us =>
                    simp only [hu] at m
                    have rr2 : RReps A.w G4 H4 us [y, z] := HReps.get k4 (show HReps A G4 H4 σ r3 [h2, h3] [y, z] from ⟨y, [z], rfl, (t2.step gr.step).step st4, z, [], rfl, t4, rfl⟩) hu
                    cases hp' : P' us with
                    | none => simp only [hp'] at m
                    | some oz' =>
                      obtain ⟨o', d'⟩ := oz'
                      cases o' with
                      | true => simp only [hp'] at m
                      | false =>
                        cases d' with
                        | bl b =>
                          simp only [hp'] at m
                          exact ⟨G4, us, false, .bl b, k4.sub, rr2, hp', fun u' G5 H5 gr' nr' => m u' G5 H5 ⟨k4.grow gr', (st3.trans st4).trans gr'.step, nr', no_own⟩⟩
                        | _ => simp only [hp'] at m
              | false =>
                simp only [hp] at m
                refine ⟨G2, vs, false, .bl false, k2.sub, rr, hp, fun u G3 H3 gr nr => ?_⟩
                refine ⟨false, rep_bl.mp (show Rep A.w G3 (.bl false) u from nr), ?_⟩
                simp only [Bool.false_eq_true, if_false]
                exact m (.bl false) G3 H3 ⟨k2.grow gr, (st1.trans st2).trans gr.step, trep_f (rep_bl.mpr rfl), no_own⟩
            | _ => simp only [hp] at m
theorem pe_chn {z : Expr} {op op' : CmpOp} (ho : OpR X (compareOp op) (r2Of A.w P)) (ho' : OpR X (compareOp op') (r2Of A.w P')) (ha : PE X x (tO A W fa)) (hb : PE X y (tO A W fb)) (hc : PE X z (tO A W fc)) (hm : lastMarks [op, op'] [y, z] = false := by with_unfolding_all rfl) :
    PE X (.Compare x [op, op'] [y, z] pos) (tE A W (chn P P' fa fb fc)) := PE.imp (pe_chain ho ho' ha hb hc hm) fun _ _ _ q => chn_of q
theorem pt_chn {z : Expr} {op op' : CmpOp} (ho : OpR X (compareOp op) (r2Of A.w P)) (ho' : OpR X (compareOp op') (r2Of A.w P')) (ha : PE X x (tO A W fa)) (hb : PE X y (tO A W fb)) (hc : PE X z (tO A W fc)) (hm : lastMarks [op, op'] [y, z] = false := by with_unfolding_all rfl) :
    PT X (.Compare x [op, op'] [y, z] pos) (tBo A W (tst (chn P P' fa fb fc))) := PT.imp (pt_chain ho ho' ha hb hc hm) fun _ _ _ q => chn_of (tst_of q)
end

/-! ### o.m(e, ..) that changes nothing -/
def oTy (T : String) (fo : OF) : OF := fun r => match fo r with
  | .ok h r1 => match h.get r1 with
    | some v => if tyOf v = some T then .ok h r1 else .bad
    | none => .bad
  | .ex e r1 => .ex e r1
  | .bad => .bad
def TyAt (w : Wd) (T : String) (x : V) (H : Hp) : Prop := ∃ G v, Le G H ∧ RRep w G H v x ∧ tyOf v = some T
section
variable {X : Cx} {A : Act} {W : WX} {o e : Expr} {es : List Expr} {fo : OF} {g : OsF} {P : List Val → Option (Bool × Val)} {cpos apos : Pos} {T id : String} {name : Str}
theorem oTy_of {σ : L2.St} {H : Hp} {Q : V → Hp → Prop} (h : tO A W (oTy T fo) σ H Q) : tO A W fo σ H fun x H1 => TyAt A.w T x H1 ∧ Q x H1 := by
  obtain ⟨r, G, k, m⟩ := h
  refine ⟨r, G, k, ?_⟩
  unfold oTy at m
  cases hf : fo r with
  | bad => rw [hf] at m; exact m.elim
  | ex e r' => rw [hf] at m; exact m
  | ok h r1 =>
    simp only [hf] at m
    intro x G1 H1 k1 st1 t1
    cases hv : h.get r1 with
    | none => simp only [hv] at m
    | some v =>
      simp only [hv] at m
      by_cases ht : tyOf v = some T
      · simp only [if_pos ht] at m
        exact ⟨⟨G1, v, k1.sub, t1.get k1 hv, ht⟩, m x G1 H1 k1 st1 t1⟩
      · simp only [if_neg ht] at m
theorem ty_run (c : Cal X A.w) {pins : List (Addr × Obj)} {s : Shared} {σ : L2.St} {H : Hp} {x : V} {u : Value} (I : Inv X pins σ H s) (rx : RelV x u) (t : TyAt A.w T x H) (hT : T = "str" ∨ T = "list" ∨ T = "dict") :
    s.TypeIs u T ∧ ∀ a, u = .ref a → ∃ ob, s.heap.get? a = some ob ∧ ob.dict = none := by
  obtain ⟨G, v, le, r, ht⟩ := t
  have ls : ∀ {a : Addr} {xs : List V}, x = .ref a → SqL X.K H a xs → s.TypeIs u "list" ∧ ∀ a, u = .ref a → ∃ ob, s.heap.get? a = some ob ∧ ob.dict = none := fun {a xs} e h => by
    subst e
    exact tyV_is I rx (show tyV X.K "list" (.ref a) H from .inl ⟨rfl, xs, h⟩)
  cases v with
  | str z => cases ht; obtain ⟨rfl, _⟩ := rrep_str r; exact tyV_is I rx (show tyV X.K "str" (.str z) H from rfl)
  | lst ds => cases ht; obtain ⟨a, xs, e, h, _⟩ := rrep_lst le r; exact ls e (.inl (.inl h))
  | scr ns => cases ht; obtain ⟨a, e, h⟩ := rrep_scr le r; rw [c.K] at h; exact ls e h
  | dct t kvs =>
    cases ht
    obtain ⟨a, rfl, q⟩ := rrep_dct le r
    cases (show u = Value.ref a from rx)
    have dK : ∀ {kvs : List (Key × V)}, ObjOk X.prog X.w H s.heap a (.dK kvs) → ∃ o, s.heap.get? a = some o ∧ o.ExactDict := fun {kvs} h => by
      obtain ⟨_, _, vs, _, o, es, ep, h1, h2, _⟩ := h
      exact ⟨o, h1, h2⟩
    have dT : ∀ {kvs : List (List Key × V)}, ObjOk X.prog X.w H s.heap a (.dT kvs) → ∃ o, s.heap.get? a = some o ∧ o.ExactDict := fun {kvs} h => by
      obtain ⟨_, _, xs, _, o, es, ep, h1, h2, _⟩ := h
      exact ⟨o, h1, h2⟩
    have : ∃ o, s.heap.get? a = some o ∧ o.ExactDict := by
      rcases q with ⟨_, kvs, q | ⟨ob, q⟩, _⟩ | ⟨_, kvs, q | ⟨ob, q⟩, _⟩
      · exact dK (I.hok a _ q)
      · exact dK (I.hok a _ q).2
      · exact dT (I.hok a _ q)
      · exact dT (I.hok a _ q).2
    obtain ⟨ob, h1, h2⟩ := this
    exact ⟨⟨ob, h1, h2.1⟩, fun b e => by cases e; exact ⟨ob, h1, h2.2.1⟩⟩
  | non => cases ht; rcases hT with h | h | h <;> exact absurd h (by decide)
  | bl b => cases ht; rcases hT with h | h | h <;> exact absurd h (by decide)
  | int i => cases ht; rcases hT with h | h | h <;> exact absurd h (by decide)
  | tup ds => cases ht; rcases hT with h | h | h <;> exact absurd h (by decide)
  | _ => cases ht
/-- a method's meaning by values -/
def MtP (X : Cx) (w : Wd) (id : String) (P : List Val → Option (Bool × Val)) : Prop := MtR X id fun x xs H Q => rOf w P (x :: xs) H Q
theorem pe_mt (c : Cal X A.w) (hT : T = "str" ∨ T = "list" ∨ T = "dict") (pa : PlainAttrs T) (slot : PySem.Slot T name id) (hty : typeOf (.builtin id) = pure (.type "method_descriptor")) (hm : MtP X A.w id P) (ho : PE X o (tO A W fo)) (ha : PA X (e :: es) (tOs A W g))
    (hbase : attributeBase o name X.env (eval o X.env) = eval o X.env := by rfl)
    (hfew : ((backTo cpos (starEach (e :: es) X.env)).all (fun x => !x.1) && (backToKw cpos (keywordEach [] X.env)).all (fun x => x.1.isSome)
      && decide ((e :: es).length + ([] : List Keyword).length + (if ([] : List Keyword).isEmpty then 0 else 1) < 30)) = true := by rfl)
    (hline : (apos.endLine == cpos.line) = true := by rfl) (hs : starEach (e :: es) X.env = (false, eval e X.env) :: starEach es X.env := by rfl) (hplain : (backTo cpos (starEach es X.env)).any (·.1) = false := by rfl) :
    PE X (.Call (.Attribute o name apos) (e :: es) [] cpos) (tE A W (prim P (osCons (oTy T fo) g))) := by
  refine ⟨fun pins s σ H Q I h => ?_⟩
  have q0 := oTy_of (os_cons (prim_os (rok_rOf A.w P) h))
  refine wpAny_Call_method_late hbase hfew hline rfl (wpAny_mono (ho.run pins s σ H _ I q0) (fun v s1 ⟨x, H1, I1, r1, ty, q1⟩ => ?_) fun _ _ z => z)
  obtain ⟨t1, t2⟩ := ty_run c I1 r1 ty hT
  refine ⟨T, id, pa, slot, hty, t1, t2, ?_⟩
  have run := ha.run cpos pins s1 σ H1 _ I1 q1
  rw [hs] at run ⊢
  refine Calls.callWith_builtin (by show (false || (backTo cpos (starEach es X.env)).any (·.1)) = false; rw [hplain] <;> rfl) (Calls.evalArgs_plain (wpAny_mono run (fun us s2 ⟨vs, H2, I2, r2, q2⟩ => ?_) fun _ _ z => z))
  exact hm pins s2 σ H2 x vs v us Q I2 r1 r2 q2
end
def Pjoin : List Val → Option (Bool × Val)
  | [.str a, .lst ds] => match asStrs ds with
    | some ys => if (ys.map (·.length)).sum + ys.length * a.length ≤ 16777216 ∧ (Txt.join a ys).length ≤ sizeLine then some (false, .str (Txt.join a ys)) else none
    | none => none
  | _ => none
theorem mtp_join {X : Cx} {w : Wd} : MtP X w "str.join" Pjoin := by
  intro pins s σ H x xs v us Q I rx rxs ⟨G, vs, o, z, le, rr, hp, q⟩
  unfold Pjoin at hp
  split at hp
  · split at hp
    · rename_i ys hy
      split at hp
      · rename_i hb
        cases hp
        obtain ⟨_, _, e, r1, r2⟩ := rreps_two rr
        cases e
        obtain ⟨rfl, _⟩ := rrep_str r1
        obtain ⟨a, zs, rfl, h, rs⟩ := rrep_lst le r2
        rw [asStrs_some hy] at rs
        rw [reps_strs rs] at h
        exact mt_join pins s σ H _ _ v us Q I rx rxs ⟨_, a, ys, rfl, rfl, .inl (.inl (.inl h)), hb.1, str_new le hb.2 q⟩
      · cases hp
    · cases hp
  · cases hp
end M
/-! MPF: containers changed in place, displays of dicts. -/
namespace M
open PySem L2

section
variable {A : Act} {G H : Hp} {σ : L2.St} {r : Env} {i : Nat} {v v' : Val} {a : Addr}
/-- slot i's container is rewritten -/
theorem Ok.mut {u : HO} (k : Ok A G H σ r) (h : r[i]? = some (some (true, v))) (hσ : σ[i]? = some (some (.ref a))) (hr : Root A.w G (upd H a u) v' a) : Ok A G (upd H a u) σ (r.set i (some (true, v'))) := by
  obtain ⟨a', e, ro, n, l⟩ := k.ow i v h
  rw [hσ] at e; cases e
  have il : i < r.length := (List.getElem?_eq_some_iff.mp h).1
  refine ⟨k.ex0, k.gr0, fun b o hb nl => ?_, fun b o hb => ?_, by rw [List.length_set]; exact k.len, fun j w h1 => ?_, fun j w h1 => ?_, fun p q v1 v2 b h1 h2 h3 h4 => ?_, k.fx⟩
  · have ne : b ≠ a := fun z => by
      subst z
      rcases l with l | l
      · exact nl l
      · rw [l] at hb; cases hb
    rw [upd_ne ne]; exact k.fr0 b o hb nl
  · have ne : b ≠ a := ne_of_none hb n
    rw [upd_ne ne]; exact k.sub b o hb
  · rcases set_some h1 rfl with ⟨e1, e2⟩ | ⟨e1, e2⟩
    · cases e2
    · exact k.fz j w e2
  · rcases set_some h1 rfl with ⟨e1, e2⟩ | ⟨e1, e2⟩
    · subst e1; cases e2; exact ⟨a, hσ, hr, n, l⟩
    · obtain ⟨b, e, q, nb, lb⟩ := k.ow j w e2
      have ne : b ≠ a := fun z => e1 (k.sep j i w v a e2 h (by rw [e, z]) hσ)
      exact ⟨b, e, q.mono (Le.refl _) (fun o ho => by rw [upd_ne ne]; exact ho), nb, lb⟩
  · have own : ∀ {j : Nat} {w : Val}, (r.set i (some (true, v')))[j]? = some (some (true, w)) → ∃ w', r[j]? = some (some (true, w')) := fun {j w} h1 => by
      rcases set_some h1 rfl with ⟨e1, e2⟩ | ⟨e1, e2⟩
      · subst e1; exact ⟨v, h⟩
      · exact ⟨w, e2⟩
    obtain ⟨w1, o1⟩ := own h1
    obtain ⟨w2, o2⟩ := own h2
    exact k.sep p q w1 w2 b o1 o2 h3 h4
theorem step_mut {u : HO} (h : r[i]? = some (some (true, v))) (hσ : σ[i]? = some (some (.ref a))) : Step σ r G H (r.set i (some (true, v'))) G (upd H a u) :=
  ⟨Le.refl _, fun b o hb nb => by
    have ne : b ≠ a := fun z => nb (by subst z; exact ⟨i, v, h, hσ⟩)
    rw [upd_ne ne]; exact hb, fun b hb hb' => absurd hb hb', fun b ⟨j, w, h1, h2⟩ => by
    rcases set_some h1 rfl with ⟨e1, e2⟩ | ⟨e1, e2⟩
    · subst e1; exact ⟨j, v, h, h2⟩
    · exact ⟨j, w, e2, h2⟩⟩
end

/-! ### x.m(e, ..) that changes x -/
/-- by values: the container v, the arguments, then the container and the answer (frozen) -/
abbrev MutF := Val → List Val → Option (Val × Val)
def mutE (T : String) (i : Nat) (P : MutF) (g : AF) : EF := fun r => match r[i]? with
  | some (some (true, v0)) => if tyOf v0 = some T then match g r with
      | .ok vs r1 => match r1[i]? with
        | some (some (true, v)) => match P v vs with
          | some (v', z) => .ok false z (r1.set i (some (true, v')))
          | none => .bad
        | _ => .bad
      | .ex e r1 => .ex e r1
      | .bad => .bad
    else .bad
  | _ => .bad
def rMut (w : Wd) (P : MutF) : V → List V → Hp → VK → Prop := fun x xs H Q => ∃ a v vs v' z G, x = .ref a ∧ Le G H ∧ G a = none ∧ Root w G H v a ∧ Reps w G vs xs ∧ P v vs = some (v', z) ∧ ∀ u y, Root w G (upd H a u) v' a → Rep w G z y → Q y (upd H a u)
def MutP (X : Cx) (w : Wd) (id : String) (P : MutF) : Prop := MtR X id (rMut w P)
theorem root_ty {X : Cx} {w : Wd} {G H : Hp} {v : Val} {a : Addr} {T : String} (r : Root w G H v a) (h : tyOf v = some T) : tyV X.K T (.ref a) H := by
  cases v with
  | lst ds => cases h; obtain ⟨xs, e, _⟩ := r; exact .inl ⟨rfl, xs, .inl (.inl e)⟩
  | dct t ds =>
    cases h
    obtain ⟨_, kvs, e, _⟩ | ⟨_, kvs, e, _⟩ := r
    · exact .inr (.inr (.inl ⟨rfl, .inl ⟨kvs, e⟩⟩))
    · exact .inr (.inr (.inl ⟨rfl, .inr ⟨kvs, e⟩⟩))
  | obj c fs => cases h
  | _ => exact r.elim
section
variable {X : Cx} {A : Act} {W : WX} {o e : Expr} {es : List Expr} {g : AF} {P : MutF} {cpos apos : Pos} {T id : String} {name : Str} {i : Nat}
theorem mut_of {σ : L2.St} {H : Hp} {Q : VK} (h : tE A W (mutE T i P g) σ H Q) : tVar i σ H fun x H1 => tyV X.K T x H1 ∧ tAs A W g σ H1 fun xs H2 => rMut A.w P x xs H2 Q := by
  obtain ⟨r, G, k, m⟩ := h
  rcases q : r[i]? with _ | _ | ⟨_ | _, v0⟩
  · simp only [mutE, q] at m
  · simp only [mutE, q] at m
  · simp only [mutE, q] at m
  · simp only [mutE, q] at m
    by_cases ht : tyOf v0 = some T
    · simp only [if_pos ht] at m
      obtain ⟨a, e1, ro, n, l⟩ := k.ow i v0 q
      refine ⟨.ref a, e1, root_ty ro ht, r, G, k, ?_⟩
      cases hg : g r with
      | bad => simp only [hg] at m
      | ex e r1 => simp only [hg] at m ⊢; exact m
      | ok vs r1 =>
        simp only [hg] at m ⊢
        intro xs G1 H1 k1 st1 rs
        rcases q1 : r1[i]? with _ | _ | ⟨_ | _, v⟩
        · simp only [q1] at m
        · simp only [q1] at m
        · simp only [q1] at m
        · simp only [q1] at m
          cases hp : P v vs with
          | none => simp only [hp] at m
          | some vz =>
            obtain ⟨v', z⟩ := vz
            simp only [hp] at m
            obtain ⟨b, e2, ro1, n1, l1⟩ := k1.ow i v q1
            rw [e1] at e2; cases e2
            exact ⟨a, v, vs, v', z, G1, rfl, k1.sub, n1, ro1, rs, hp, fun u y hr hy => m y G1 _ ⟨k1.mut q1 e1 hr, st1.trans (step_mut q1 e1), trep_f hy, no_own⟩⟩
    · simp only [if_neg ht] at m
theorem pe_mut (pa : PlainAttrs T) (slot : PySem.Slot T name id) (hty : typeOf (.builtin id) = pure (.type "method_descriptor")) (hm : MutP X A.w id P) (ho : PE X o (tVar i)) (ha : PA X (e :: es) (tAs A W g))
    (hbase : attributeBase o name X.env (eval o X.env) = eval o X.env := by rfl)
    (hfew : ((backTo cpos (starEach (e :: es) X.env)).all (fun x => !x.1) && (backToKw cpos (keywordEach [] X.env)).all (fun x => x.1.isSome)
      && decide ((e :: es).length + ([] : List Keyword).length + (if ([] : List Keyword).isEmpty then 0 else 1) < 30)) = true := by rfl)
    (hline : (apos.endLine == cpos.line) = true := by rfl) (hs : starEach (e :: es) X.env = (false, eval e X.env) :: starEach es X.env := by rfl) (hplain : (backTo cpos (starEach es X.env)).any (·.1) = false := by rfl) :
    PE X (.Call (.Attribute o name apos) (e :: es) [] cpos) (tE A W (mutE T i P g)) := PE.imp (pe_bm pa slot hty hm ho ha hbase hfew hline hs hplain) fun _ _ _ q => mut_of q
theorem pe_mut0 (pa : PlainAttrs T) (slot : PySem.Slot T name id) (hty : typeOf (.builtin id) = pure (.type "method_descriptor")) (hm : MutP X A.w id P) (ho : PE X o (tVar i))
    (hbase : attributeBase o name X.env (eval o X.env) = eval o X.env := by rfl) (hline : (apos.endLine == cpos.line) = true := by rfl) : PE X (.Call (.Attribute o name apos) [] [] cpos) (tE A W (mutE T i P asNil)) :=
  PE.imp (pe_bm0 pa slot hty hm ho hbase hline) fun _ _ _ q => by
    obtain ⟨x, e, t, r, G, k, m⟩ := mut_of (X := X) q
    exact ⟨x, e, t, m [] G _ k Step.refl (reps_nil.mpr rfl)⟩
end
def Mappend : MutF
  | .lst ds, [v] => if ds.length < 100000 then some (.lst (ds ++ [v]), .non) else none
  | _, _ => none
def Mextend : MutF
  | .lst ds, [.lst es] => if ds.length + es.length ≤ 100000 then some (.lst (ds ++ es), .non) else none
  | _, _ => none
def Mpop : MutF
  | .lst ds, [] => match ds[ds.length - 1]? with
    | some d => some (.lst ds.dropLast, d)
    | none => none
  | _, _ => none
def MpopAt : MutF
  | .lst ds, [.int i] => match ixN ds.length i with
    | some j => match ds[j]? with
      | some d => if ds.length ≤ 100000 then some (.lst (ds.eraseIdx j), d) else none
      | none => none
    | none => none
  | _, _ => none
theorem reps_dropLast {w : Wd} {G : Hp} {ds : List Val} {xs : List V} (r : Reps w G ds xs) : Reps w G ds.dropLast xs.dropLast := by
  rw [List.dropLast_eq_take, List.dropLast_eq_take, reps_length r]
  exact reps_take _ r
section
variable {X : Cx} {w : Wd}
theorem root_l {G H : Hp} {ds : List Val} {a : Addr} {xs : List V} (r : Reps w G ds xs) : Root w G (upd H a (.lst xs)) (.lst ds) a := ⟨xs, upd_same, r⟩
theorem mutp_append : MutP X w "list.append" Mappend := by
  intro pins s σ H x xs v us Q I rx rxs ⟨a, d, vs, d', z, G, ex, le, n, ro, rs, hp, q⟩
  subst ex
  unfold Mappend at hp
  split at hp
  · split at hp
    · rename_i hl
      cases hp
      obtain ⟨ys, e, r⟩ := ro
      obtain ⟨y, _, rfl, r1, r2⟩ := reps_cons.mp rs
      rw [reps_nil] at r2; subst r2
      exact mt_append pins s σ H _ _ v us Q I rx rxs ⟨a, ys, y, rfl, rfl, e, by rw [← reps_length r]; exact Nat.lt_of_lt_of_le hl (by decide), q _ _ (root_l (reps_append r (reps_one r1))) (rep_non.mpr rfl)⟩
    · cases hp
  · cases hp
theorem mutp_extend : MutP X w "list.extend" Mextend := by
  intro pins s σ H x xs v us Q I rx rxs ⟨a, d, vs, d', z, G, ex, le, n, ro, rs, hp, q⟩
  subst ex
  unfold Mextend at hp
  split at hp
  · split at hp
    · rename_i hl
      cases hp
      obtain ⟨ys, e, r⟩ := ro
      obtain ⟨y, _, rfl, r1, r2⟩ := reps_cons.mp rs
      rw [reps_nil] at r2; subst r2
      obtain ⟨b, zs, rfl, hb, rz⟩ := rep_lst.mp r1
      exact mt_extend pins s σ H _ _ v us Q I rx rxs ⟨a, b, ys, zs, rfl, rfl, e, le _ _ hb, by rw [← reps_length r, ← reps_length rz]; exact Nat.le_trans hl (by decide), q _ _ (root_l (reps_append r rz)) (rep_non.mpr rfl)⟩
    · cases hp
  · cases hp
theorem mutp_pop : MutP X w "list.pop" Mpop := by
  intro pins s σ H x xs v us Q I rx rxs ⟨a, d, vs, d', z, G, ex, le, n, ro, rs, hp, q⟩
  subst ex
  unfold Mpop at hp
  split at hp
  · split at hp
    · rename_i d0 hd
      cases hp
      obtain ⟨ys, e, r⟩ := ro
      rw [reps_nil] at rs; subst rs
      obtain ⟨y, hy, ry⟩ := reps_get r hd
      rw [reps_length r] at hy
      exact mt_pop pins s σ H _ _ v us Q I rx rxs ⟨a, ys, y, rfl, rfl, e, hy, q _ _ (root_l (reps_dropLast r)) ry⟩
    · cases hp
  · cases hp
theorem mutp_popAt : MutP X w "list.pop" MpopAt := by
  intro pins s σ H x xs v us Q I rx rxs ⟨a, d, vs, d', z, G, ex, le, n, ro, rs, hp, q⟩
  subst ex
  unfold MpopAt at hp
  split at hp
  · split at hp
    · rename_i j hj
      split at hp
      · rename_i d0 hd
        split at hp
        · rename_i hl
          cases hp
          obtain ⟨ys, e, r⟩ := ro
          have ei := reps_ints (ns := [_]) rs
          subst ei
          obtain ⟨y, hy, ry⟩ := reps_get r hd
          obtain ⟨h1, h2, h3, h4⟩ := ixN_seq hj
          have hlen := reps_length r
          exact mt_popAt pins s σ H _ _ v us Q I rx rxs ⟨a, ys, _, j, y, rfl, rfl, e, by omega, by omega, by rw [← hlen]; exact h1, hy, q _ _ (root_l (reps_erase j r)) ry⟩
        · cases hp
      · cases hp
    · cases hp
  · cases hp
end

/-! ### x[i] = e, del x[i] -/
def putIx : Val → Val → Val → Option Val
  | .lst ds, .int k, v => (ixN ds.length k).map fun j => .lst (ds.set j v)
  | .dct false kvs, k, v => match keyOf k with
    | some q => if kvs.length < 100000 then some (.dct false (dPut kvs q v)) else none
    | none => none
  | _, _, _ => none
def setIx (i : Nat) (fk fe : EF) : SF := fun r => match frz fe r with
  | .ok _ v r1 => match r1[i]? with
    | some (some (true, _)) => match frz fk r1 with
      | .ok _ k r2 => match r2[i]? with
        | some (some (true, d)) => match putIx d k v with
          | some d' => .nx (r2.set i (some (true, d')))
          | none => .bad
        | _ => .bad
      | .ex e r2 => .ex e r2
      | .bad => .bad
    | _ => .bad
  | .ex e r1 => .ex e r1
  | .bad => .bad
def rPut (w : Wd) : V → V → V → Hp → (Hp → Prop) → Prop := fun o k x H Q => ∃ a d kd v d' G, o = .ref a ∧ Le G H ∧ G a = none ∧ Root w G H d a ∧ Rep w G kd k ∧ Rep w G v x ∧ putIx d kd v = some d' ∧ ∀ u, Root w G (upd H a u) d' a → Q (upd H a u)
theorem set_put {X : Cx} {w : Wd} (c : Cal X w) : PSet X (rPut w) := by
  intro pins s σ H o k x ov kvv u Q I ro rk rx ⟨a, d, kd, v, d', G, eo, le, n, rt, rpk, rpx, hp, q⟩
  subst eo
  unfold putIx at hp
  split at hp
  · rw [Option.map_eq_some_iff] at hp
    obtain ⟨j, hj, e⟩ := hp
    subst e
    obtain ⟨ys, e, r⟩ := rt
    obtain rfl := rep_int.mp rpk
    exact set_list pins s σ H _ _ _ ov kvv u Q I ro rk rx ⟨a, ys, _, j, rfl, rfl, e, by rw [← reps_length r]; exact hj, q _ (root_l (reps_set rpx j r))⟩
  · split at hp
    · rename_i qk hk
      split at hp
      · rename_i hl
        cases hp
        obtain ⟨_, kvs, e, r⟩ | ⟨ht, _⟩ := rt
        · obtain ⟨rfl, hb⟩ := rrep_key (H := H) (.inl rpk) hk
          have g : DPut H a (kV qk) x (upd H a (.dK (putK kvs qk x))) := DPut.k e (by rw [← repK_length r]; exact Nat.lt_of_lt_of_le hl (by decide))
          cases (show ov = Value.ref a from ro)
          exact d_setItem (by have := c.un; omega) I g rk rx fun s' I' => ⟨_, I', q _ (.inl ⟨rfl, _, upd_same, repK_put r hb rpx⟩)⟩
        · cases ht
      · cases hp
    · cases hp
  · cases hp
theorem ps_setIx {X : Cx} {A : Act} {W : WX} {o ke e : Expr} {i : Nat} {fk fe : EF} {pos pos' : Pos} (c : Cal X A.w) (ho : PE X o (tVar i)) (hk : PE X ke (tE A W fk)) (he : PE X e (tE A W fe))
    (hs : swapsWithSole [.Subscript o ke pos'] e pos.line X.env = pure false := by rfl) (hw : swappedStores [.Subscript o ke pos'] e X.env = pure none := by rfl)
    (h1 : (assignEach [.Subscript o ke pos'] X.env).map (·.2) = [assign (.Subscript o ke pos') X.env] := by rfl)
    (ha : ∀ v, assign (.Subscript o ke pos') X.env v = (do
      let ov ← holding [v] (eval o X.env)
      let iv ← holding [v, ov] (eval ke X.env)
      standAt pos'
      holding [v, ov, iv] (setItem ov iv v)
      release [v, ov, iv] []) := by intro _; rfl) : PS X (.Assign [.Subscript o ke pos'] e pos) (tSt A W (setIx i fk fe)) := by
  refine PS.imp (ps_asg (pe_frz he) (pg_sub ho (pe_frz hk) (set_put c) ha) hs hw h1) fun D σ H h => ?_
  obtain ⟨r, G, k, m⟩ := tSt_iff.mp h
  refine ⟨r, G, k, ?_⟩
  unfold setIx at m
  cases hf : frz fe r with
  | bad => rw [hf] at m; exact m.elim
  | ex e r' => rw [hf] at m; exact m σ
  | ok o0 v r1 =>
    have eo := frz_false hf
    subst eo
    simp only [hf] at m ⊢
    intro x G1 H1 R1
    have k1 := R1.ok
    rcases q1 : r1[i]? with _ | _ | ⟨_ | _, d0⟩
    · simp only [q1] at m; exact m.elim
    · simp only [q1] at m; exact m.elim
    · simp only [q1] at m; exact m.elim
    · simp only [q1] at m
      obtain ⟨a, e1, ro, n, l⟩ := k1.ow i d0 q1
      refine ⟨.ref a, e1, r1, G1, k1, ?_⟩
      cases hk' : frz fk r1 with
      | bad => simp only [hk'] at m; exact m.elim
      | ex e r2 => simp only [hk'] at m ⊢; exact (show ExP A W G σ e r2 from m σ).mono R1.st.ex
      | ok o1 kd r2 =>
        have eo := frz_false hk'
        subst eo
        simp only [hk'] at m ⊢
        intro y G2 H2 R2
        have k2 := R2.ok
        rcases q2 : r2[i]? with _ | _ | ⟨_ | _, d⟩
        · simp only [q2] at m; exact m.elim
        · simp only [q2] at m; exact m.elim
        · simp only [q2] at m; exact m.elim
        · simp only [q2] at m
          cases hp : putIx d kd v with
          | none => simp only [hp] at m; exact m.elim
          | some d' =>
            simp only [hp] at m
            obtain ⟨b, e2, ro2, n2, l2⟩ := k2.ow i d q2
            rw [e1] at e2; cases e2
            exact ⟨a, d, kd, v, d', G2, rfl, k2.sub, n2, ro2, R2.tr, Rep.mono R2.st.ex R1.tr, hp, fun u hr => m σ G2 _ (k2.mut q2 e1 hr) (R1.st.ex.trans R2.st.ex)⟩

/-! ### displays of dicts -/
inductive DR where
  | ok (kvs : List (Val × Val)) (r : Env) | ex (e : Val) (r : Env) | bad
def dspL : List (EF × EF) → Env → DR
  | [], r => .ok [] r
  | (fk, fv) :: l, r => match frz fk r with
    | .ok _ k r1 => match frz fv r1 with
      | .ok _ v r2 => match dspL l r2 with
        | .ok kvs r3 => .ok ((k, v) :: kvs) r3
        | x => x
      | .ex e r2 => .ex e r2
      | .bad => .bad
    | .ex e r1 => .ex e r1
    | .bad => .bad
def putAll (acc : List (Val × Val)) : List (Val × Val) → Option (List (Val × Val))
  | [] => some acc
  | (k, v) :: kvs => match keyOf k with
    | some q => putAll (dPut acc q v) kvs
    | none => none
def dsp (l : List (EF × EF)) : EF := fun r => match dspL l r with
  | .ok kvs r1 => if kvs.length ≤ 15 then match putAll [] kvs with
      | some ds => .ok true (.dct false ds) r1
      | none => .bad
    else .bad
  | .ex e r1 => .ex e r1
  | .bad => .bad
def dNew (t : Bool) : EF := fun r => .ok true (.dct t []) r
theorem reps_pairs {w : Wd} {G : Hp} : ∀ {kvs ds : List (Val × Val)} {acc : List (Val × Val)} {ks : List (Key × V)} {ps : List (V × V)}, putAll acc kvs = some ds → RepK w G acc ks → (Paired (fun (p : Val × Val) (q : V × V) => Rep w G p.1 q.1 ∧ Rep w G p.2 q.2) kvs ps) →
    ∃ qs : List (Key × V), ps = qs.map (fun kv => (kV kv.1, kv.2)) ∧ qs.length = kvs.length ∧ RepK w G ds (mergeK ks qs)
  | [], ds, acc, ks, _, h, r, .nil => by
    simp only [putAll, Option.some.injEq] at h
    subst h
    exact ⟨[], rfl, rfl, r⟩
  | (k, v) :: kvs, ds, acc, ks, _ :: _, h, r, .cons (b := b) hb t => by
    simp only [putAll] at h
    split at h
    · rename_i q hq
      obtain ⟨e1, e2⟩ := rrep_key (H := G) (.inl hb.1) hq
      obtain ⟨qs, e3, e4, e5⟩ := reps_pairs h (repK_put r e2 hb.2) t
      refine ⟨(q, b.2) :: qs, ?_, by simp [e4], e5⟩
      rw [List.map_cons, e3, ← e1]
    · cases h
section
variable {X : Cx} {A : Act} {W : WX} {pos : Pos}
def trs (A : Act) (W : WX) (l : List (EF × EF)) : List (TE × TE) := l.map fun p => (tE A W (frz p.1), tE A W (frz p.2))
theorem pps_Nil : PPs X pos [] [] (trs A W []) := pps_nil
theorem pps_Cons {k v : Expr} {ks : List (Option Expr)} {vs : List Expr} {fk fv : EF} {l : List (EF × EF)} (hk : PE X k (tE A W fk)) (hv : PE X v (tE A W fv)) (hr : PPs X pos ks vs (trs A W l)) : PPs X pos (some k :: ks) (v :: vs) (trs A W ((fk, fv) :: l)) :=
  pps_cons (pe_frz hk) (pe_frz hv) hr
theorem dsp_pairs {σ : L2.St} : ∀ {l : List (EF × EF)} {r : Env} {G H : Hp} {Q : List (V × V) → Hp → Prop}, Ok A G H σ r →
    (match dspL l r with
      | .ok kvs r' => ∀ ps G' H', Ok A G' H' σ r' → Step σ r G H r' G' H' → Paired (fun (p : Val × Val) (q : V × V) => Rep A.w G' p.1 q.1 ∧ Rep A.w G' p.2 q.2) kvs ps → Q ps H'
      | .ex e r' => ExP A W G σ e r'
      | .bad => False) → tPairs (trs A W l) σ H Q
  | [], r, G, H, Q, k, m => m [] G H k Step.refl .nil
  | (fk, fv) :: l, r, G, H, Q, k, m => by
    show tE A W (frz fk) σ H fun x H1 => tE A W (frz fv) σ H1 fun y H2 => tPairs (trs A W l) σ H2 fun ps H3 => Q ((x, y) :: ps) H3
    refine ⟨r, G, k, ?_⟩
    simp only [dspL] at m
    cases h1 : frz fk r with
    | bad => simp only [h1] at m
    | ex e r1 => simp only [h1] at m ⊢; exact m
    | ok o1 kd r1 =>
      have eo := frz_false h1
      subst eo
      simp only [h1] at m ⊢
      intro x G1 H1 R1
      refine ⟨r1, G1, R1.ok, ?_⟩
      cases h2 : frz fv r1 with
      | bad => simp only [h2] at m
      | ex e r2 => simp only [h2] at m ⊢; exact m.mono R1.st.ex
      | ok o2 vd r2 =>
        have eo := frz_false h2
        subst eo
        simp only [h2] at m ⊢
        intro y G2 H2 R2
        refine dsp_pairs (l := l) R2.ok ?_
        have st := R1.st.trans R2.st
        cases h3 : dspL l r2 with
        | bad => simp only [h3] at m
        | ex e r3 => simp only [h3] at m ⊢; exact m.mono st.ex
        | ok kvs r3 =>
          simp only [h3] at m ⊢
          intro ps G3 H3 k3 st3 pr
          exact m _ G3 H3 k3 (st.trans st3) (.cons ⟨Rep.mono (R2.st.ex.trans st3.ex) R1.tr, Rep.mono st3.ex R2.tr⟩ pr)
theorem Ok.other {G H : Hp} {σ : L2.St} {r : Env} {p : Addr} {u : HO} (k : Ok A G H σ r) (n : G p = none) (nr : ¬ Rt r σ p) (l : A.L p ∨ A.H0 p = none) : Ok A G (upd H p u) σ r := by
  refine ⟨k.ex0, k.gr0, fun b o hb nl => ?_, fun b o hb => ?_, k.len, k.fz, fun j w h1 => ?_, k.sep, k.fx⟩
  · have ne : b ≠ p := fun z => by
      subst z
      rcases l with l | l
      · exact nl l
      · rw [l] at hb; cases hb
    rw [upd_ne ne]; exact k.fr0 b o hb nl
  · rw [upd_ne (ne_of_none hb n)]; exact k.sub b o hb
  · obtain ⟨b, e, q, nb, lb⟩ := k.ow j w h1
    have ne : b ≠ p := fun z => nr ⟨j, w, h1, by rw [e, z]⟩
    exact ⟨b, e, q.mono (Le.refl _) (fun o ho => by rw [upd_ne ne]; exact ho), nb, lb⟩
theorem pe_dsp {keys : List (Option Expr)} {values : List Expr} {l : List (EF × EF)} (h : PPs X pos keys values (trs A W l)) (hall : keys.all (·.isSome) = true := by rfl) (hl : keys.length = values.length := by rfl) (h0 : keys ≠ [] := by simp) (h15 : keys.length ≤ 15 := by decide) :
    PE X (.Dict keys values pos) (tE A W (dsp l)) := by
  refine PE.imp (pe_disp h hall hl h0 h15) fun σ H Q ⟨r, G, k, m⟩ p hp => ?_
  have gr0 := Grow.laidH (o := .dK []) k.sub hp
  have k0 := k.grow gr0
  refine dsp_pairs k0 ?_
  unfold dsp at m
  cases hd : dspL l r with
  | bad => simp only [hd] at m
  | ex e r1 => simp only [hd] at m ⊢; exact m
  | ok kvs r1 =>
    simp only [hd] at m ⊢
    intro ps G1 H1 k1 st1 pr
    by_cases hlen : kvs.length ≤ 15
    · simp only [if_pos hlen] at m
      cases hpa : putAll [] kvs with
      | none => simp only [hpa] at m
      | some ds =>
        simp only [hpa] at m
        have nr := k.notRt hp
        have there : H1 p = some (.dK []) := st1.keep p _ upd_same nr
        obtain ⟨qs, e1, e2, e3⟩ := reps_pairs (ks := []) hpa (by rw [RepK]) pr
        have n1 : G1 p = none := by
          cases z : G1 p with
          | none => rfl
          | some u =>
            rcases st1.grow p (k.sub.back hp) (by rw [z]; simp) with y | y
            · rw [upd_same] at y; cases y
            · exact absurd y nr
        have nr1 : ¬ Rt r1 σ p := fun z => nr (st1.rts p z)
        refine ⟨there, qs, e1, by rw [e2]; exact hlen, ?_⟩
        refine m _ G1 _ ⟨k1.other n1 nr1 (k.fresh hp), ⟨st1.ex, fun b o hb nb => ?_, fun b hb hb' => ?_, st1.rts⟩, trep_t (.inl ⟨rfl, _, upd_same, e3⟩) n1 nr1 (k.fresh hp), fun _ a e => by cases e; exact .inl hp⟩
        · have ne : b ≠ p := ne_of_none hb hp
          rw [upd_ne ne]
          exact st1.keep b o (by rw [upd_ne ne]; exact hb) nb
        · have ne : b ≠ p := fun z => hb' (by rw [z]; exact n1)
          have := st1.grow b hb hb'
          rw [upd_ne ne] at this
          exact this
    · simp only [if_neg hlen] at m
theorem pe_dNewK : PE X (.Dict [] [] pos) (tE A W (dNew false)) := PE.imp pe_dnewK fun σ H Q ⟨r, G, k, m⟩ p hp => by
  have gr := Grow.laidH (o := .dK []) k.sub hp
  exact m _ G _ ⟨k.grow gr, gr.step, trep_t (.inl ⟨rfl, _, upd_same, by rw [RepK]⟩) (k.sub.back hp) (k.notRt hp) (k.fresh hp), fun _ a e => by cases e; exact .inl hp⟩
end
end M
/-! MPS: set(t), t a tuple of texts, and how many it holds. -/
namespace M
open PySem PySem.Spec PyProof.Rows L2

/-! ### each text once, the first i looked at -/
def metS (ss : List Str) : Nat → List Str
  | 0 => []
  | i + 1 => match ss[i]? with
    | some x => if (metS ss i).any (· == x) = true then metS ss i else metS ss i ++ [x]
    | none => metS ss i
theorem metS_le (ss : List Str) : ∀ i, (metS ss i).length ≤ i
  | 0 => Nat.le_refl _
  | i + 1 => by
    have ih := metS_le ss i
    rw [metS]
    split
    · split
      · omega
      · simp; omega
    · omega
theorem metS_any {ss : List Str} {i : Nat} {x : Str} (h : ss[i]? = some x) (k : Str) : (metS ss (i + 1)).any (· == k) = ((metS ss i).any (· == k) || decide (k = x)) := by
  rw [metS, h]
  simp only
  by_cases hx : (metS ss i).any (· == x) = true
  · rw [if_pos hx]
    by_cases e : k = x
    · rw [e, hx]; simp
    · simp [e]
  · rw [if_neg hx, List.any_append]
    by_cases e : k = x
    · rw [e]; simp
    · have : (x == k) = false := beq_eq_false_iff_ne.mpr fun z => e z.symm
      simp [this, e]
theorem metS_len {ss : List Str} {i : Nat} {x : Str} (h : ss[i]? = some x) : (metS ss (i + 1)).length = if (metS ss i).any (· == x) = true then (metS ss i).length else (metS ss i).length + 1 := by
  rw [metS, h]
  simp only
  split <;> simp

section
variable {P : Program} {w : World} {A : Around} {J : Addr} {fp wr : List Addr} {G : Array GenState → Array GenState → Prop} {items : Array Value} {St : Nat → Shared → Prop} {ss : List Str}
theorem set_grow {R : Result → Shared → Prop} (W : WalksS P w A.in1 J fp wr G items.size (fun i v => items[i]? = some v) St) (S : Addr) (out : S ∉ fp) (hz : items.size = ss.length)
    (tx : ∀ (i : Nat) (v : Value), items[i]? = some v → ∃ x t, ss[i]? = some x ∧ v = .str x t) (few : ss.length + 1 < scanBound) :
    ∀ (left i : Nat) (s : Shared), items.size - i = left → i ≤ items.size → St i s → s.heap.SetOf (PySem.strKind P w) S (fun k => (metS ss i).any (· == k)) (metS ss i).length →
      (∀ s', Moved (S :: wr) G s s' → s'.heap.SetOf (PySem.strKind P w) S (fun k => (metS ss ss.length).any (· == k)) (metS ss ss.length).length → R (.ok (.ret .none)) s') →
      codeAny (model P w) A (.builtin "set.update.loop" ⟨[.ref S, .ref J], []⟩) R s := by
  have sw : S ∉ wr := fun z => out (W.sub _ z)
  have wide : ∀ b ∈ wr, b ∈ S :: wr := fun b z => List.mem_cons_of_mem _ z
  have same : ∀ {s1 s2 : Shared} {T : Str → Bool} {n : Nat}, Moved wr G s1 s2 → s1.heap.SetOf (PySem.strKind P w) S T n → s2.heap.SetOf (PySem.strKind P w) S T n := by
    rintro s1 s2 T n mv ⟨o, es, ep, tb, ho, rest⟩
    exact ⟨o, es, ep, tb, mv.heap S _ sw ho, rest⟩
  intro left
  induction left with
  | zero =>
    intro i s hk hi st hS fin
    have hin : i = items.size := by omega
    subst hin
    refine codeAny_builtin F.entry_set_update_loop ?_
    rw [Around.under_plainId F.plain_set_update_loop _]
    show wpAny _ A.in1 (pyNext (.ref J) >>= _) _ _ s
    refine wpAny_bind (W.done s _ _ st fun s' mv => ?_)
    show wpAny _ A.in1 (PySem.ret Value.none) _ _ s'
    rw [hz] at hS
    exact wpAny_pure (fin s' (mv.mono wide) (same mv hS))
  | succ left ih =>
    intro i s hk hi st hS fin
    have lt : i < items.size := by omega
    refine codeAny_builtin F.entry_set_update_loop ?_
    rw [Around.under_plainId F.plain_set_update_loop _]
    show wpAny _ A.in1 (pyNext (.ref J) >>= _) _ _ s
    refine wpAny_bind (W.item i s _ _ lt st fun v s' hv st' mv => ?_)
    obtain ⟨x, t, hx, rfl⟩ := tx i v hv
    have hS' := same mv hS
    show wpAny _ A.in1 (holding [Value.str x t] (setAdd S (.str x t)) >>= _) _ _ s'
    refine wpAny_bind (wpAny_holding ?_)
    unfold setAdd
    refine wpAny_holding ?_
    refine wpAny_bind ((PySem.strKind P w).pyHash (k := x) (strKind_is _ _ _ _) ?_)
    have room : (metS ss i).length + 1 < scanBound := by
      have := metS_le ss i
      omega
    refine wpAny_setAddHashed_of (knd := PySem.strKind P w) (s := { s' with toks := s'.toks + 1 }) (strKind_is _ _ _ _) rfl hS' room fun h' sb hS2 => ?_
    have hS3 : h'.SetOf (PySem.strKind P w) S (fun k => (metS ss (i + 1)).any (· == k)) (metS ss (i + 1)).length :=
      SetOf_congr hS2 (fun k => (metS_any hx k).symm) (metS_len hx).symm
    refine wpAny_pure ⟨plainId_quiet F.plain_set_update_loop _, ih (i + 1) _ (by omega) lt (W.frame _ s' _ _ st' (Nat.le_succ _) fun b hb o e => ?_) hS3 fun s2 mv2 hS4 => ?_⟩
    · rw [sb.2 b (fun z : b = S => out (by rw [← z]; exact hb))]
      exact e
    · refine fin s2 (Moved.trans W.gtrans ((mv.mono wide).then_heap (Nat.le_succ _) fun b o hb e => ?_) mv2) hS4
      rw [sb.2 b (fun z : b = S => hb (by rw [z]; exact List.mem_cons_self))]
      exact e
end
end M
namespace PySem
set_option maxHeartbeats 8000000 in
/-- set(t) -/
theorem set_tupTexts {prog : Program} {w : World} {A : Around} {E : Value → Shared → Prop} {s : Shared} {t : Addr} {items : Array Value} {ss : List Str} {Q : Value → Shared → Prop}
    (calm : A.handled = none) (ht : s.heap.IsTuple t items) (hz : items.size = ss.length) (tx : ∀ (i : Nat) (v : Value), items[i]? = some v → ∃ x k, ss[i]? = some x ∧ v = .str x k) (few : ss.length + 1 < scanBound)
    (fin : ∀ (h' : Heap) (tk : Nat), h'.SetOf (PySem.strKind prog w) s.heap.objs.size (fun k => (M.metS ss ss.length).any (· == k)) (M.metS ss ss.length).length →
      (∀ b o, b < s.heap.objs.size → s.heap.get? b = some o → h'.get? b = some o) → Q (.ref s.heap.objs.size) { s with heap := h', toks := tk }) :
    wpAny (model prog w) A (call (.type "set") [.ref t]) Q E s := by
  obtain ⟨c, tl, hmro⟩ := F.called_set.mro
  have made := F.called_set.made
  have subs := F.called_set.sub
  refine wpAny_call (codeAny_of_tree ?_)
  show wpAny _ _ (callAny (.type "set") _) _ _ _
  refine wpAny_pure ⟨Code.quiet_builtin _ (by decide +kernel), codeAny_builtin F.entry_type_call ?_⟩
  rw [Around.under_plain (weight_type_call_type "set" [.ref t] []) rfl]
  have nt := F.called_set.notType
  have cc := F.called_set.canCreate
  have tc := F.typeCall_set_1 (.ref t)
  repeat (any_goals (first | assumption | wp_step))
  let fresh : Bool → Obj := fun led => { cls := .type "set", dict := none, data := .set #[] 0 (.fresh 0 0 led) }
  refine codeAny_mono (code_set_new_1 (.ref t) (E := E) (Q₁ := fun ob s₁ => ∃ led : Bool, ob = .ref s.heap.objs.size ∧ s₁ = { s with heap := s.heap.push (fresh led) }) fun led => ⟨led, rfl, rfl⟩) fun r s₁ hr => ?_
  cases r with
  | error e => exact hr
  | ok fl =>
    cases fl with
    | ret ob =>
      obtain ⟨led, rfl, rfl⟩ := hr
      have hS : (s.heap.push (fresh led)).get? s.heap.objs.size = some (fresh led) := Heap.get?_push_size _ rfl
      have hT : Shared.TypeIs { s with heap := s.heap.push (fresh led) } (.ref s.heap.objs.size) "set" := ⟨_, hS, rfl⟩
      have il := F.called_set.init.lookup
      have ib := F.called_set.init.bind (.ref s.heap.objs.size)
      repeat (any_goals (first | assumption | wp_step))
      refine codeAny_mono (codeAny_call_builtin (R := wants (fun r s₂ => r = .none ∧ ∃ h' tk, s₂ = { s with heap := h', toks := tk } ∧
          h'.SetOf (PySem.strKind prog w) s.heap.objs.size (fun k => (M.metS ss ss.length).any (· == k)) (M.metS ss ss.length).length ∧
          (∀ b o, b < s.heap.objs.size → s.heap.get? b = some o → h'.get? b = some o)) E) F.called_set.init.plain F.entry_set_init (check_set_init_1 hT ?_)) fun r₂ s₂ hr₂ => ?_
      · obtain ⟨ot, hot, hct, nt', hdt⟩ := ht
        obtain ⟨ocls, odict, odata, oslots⟩ := ot
        simp only at hct hdt
        subst hct; subst hdt
        have tt : (s.heap.push (fresh led)).get? t = some { cls := .type "tuple", dict := odict, data := .seq items nt', slots := oslots } := Heap.get?_push_of_some _ hot
        have u1 := F.sub_tuple_set
        have u2 := F.sub_tuple_frozenset
        have ne : (Value.type "tuple" == Value.type "dict") = false := by decide
        have tup1 : (s.heap.push (fresh led)).IsTuple t items := ⟨_, tt, rfl, nt', rfl⟩
        unfold Builtin.«set.__init__» noKeywords Builtin.Frozenset.updateFrom
        generalize hPI : pyIter = PI
        wp_walk
        subst hPI
        refine wpAny_pyIter_tuple tup1 ?_
        refine wpAny_bind (wpAny_runValue ?_)
        have below : t < s.heap.objs.size := Heap.lt_size hot
        have calm3 : A.in1.in1.in1.handled = none := by simp [calm]
        have z1 : (s.heap.push (fresh led)).objs.size = s.heap.objs.size + 1 := Heap.size_push ..
        have away : t ≠ (s.heap.push (fresh led)).objs.size := by
          rw [z1]
          exact Nat.ne_of_lt (Nat.lt_succ_of_lt below)
        have out : s.heap.objs.size ∉ [(s.heap.push (fresh led)).objs.size, t] := by
          rw [z1]
          simp only [List.mem_cons, List.not_mem_nil, or_false, not_or]
          exact ⟨Nat.ne_of_lt (Nat.lt_succ_self _), Nat.ne_of_gt below⟩
        refine M.set_grow ((Walks.tuple calm3 _ t away items).toS) s.heap.objs.size out hz tx few (items.size - 0) 0 _ (by omega) (Nat.zero_le _) ⟨⟨_, Heap.get?_push_size _ rfl, rfl, rfl⟩, (tup1.push _)⟩ ?start ?stop
        case start =>
          have got : ((s.heap.push (fresh led)).push { cls := .type "tuple_iterator", data := .fields #[.ref t, .int 0 0] }).get? s.heap.objs.size = some (fresh led) := Heap.get?_push_of_some _ hS
          exact PyProof.Rows.SetOf_congr ((PyProof.Rows.setObjOf_fresh (knd := PySem.strKind prog w) led).setOf got (by unfold scanBound; omega)) (fun _ => rfl) rfl
        case stop =>
          intro s' mv hS'
          obtain ⟨h', g', d', tk', os'⟩ := s'
          have e1 : g' = s.gens := mv.gens
          have e2 : d' = s.drawn := mv.drawn
          have e3 : os' = s.os := mv.os
          subst e1 e2 e3
          show wpAny _ _ _ _ _ _
          refine wpAny_pure ?_
          show wpAny _ _ (ret Value.none) _ _ _
          refine wpAny_pure ⟨rfl, h', tk', rfl, hS', fun b o hb e => ?_⟩
          refine mv.heap b o ?_ (Heap.get?_push_of_some _ (Heap.get?_push_of_some _ e))
          simp only [List.mem_cons, List.not_mem_nil, or_false, not_or]
          rw [z1]
          exact ⟨Nat.ne_of_lt hb, Nat.ne_of_lt (Nat.lt_succ_of_lt hb)⟩
      · cases r₂ with
        | error e => exact hr₂
        | ok fl₂ =>
          cases fl₂ with
          | ret r =>
            obtain ⟨rfl, h', tk, rfl, hS', hk'⟩ := hr₂
            repeat (any_goals (first | assumption | wp_step))
            exact fin _ _ hS' hk'
          | _ => exact hr₂.elim
    | _ => exact hr.elim
end PySem
namespace M
open PySem L2
/-! ### len(set(t)) as one operation -/
def lenSet (f : EF) : EF := fun r => match frz f r with
  | .ok _ v r' => match v with
    | .tup ds => match asStrs ds with
      | some ss => if ss.length ≤ 1000 then .ok false (.int (metS ss ss.length).length) r' else .bad
      | none => .bad
    | _ => .bad
  | .ex e r' => .ex e r'
  | .bad => .bad
section
variable {X : Cx} {A : Act} {W : WX} {a : Expr} {f : EF} {p p2 q pos : Pos}
theorem vals_texts : ∀ {ss : List Str} {us : List Value}, Vals (ss.map V.str) us → ∀ (i : Nat) (v : Value), us[i]? = some v → ∃ x k, ss[i]? = some x ∧ v = .str x k
  | [], _, .nil, i, v, h => by simp at h
  | s :: ss, _ :: _, .cons r rs, 0, v, h => by
    obtain ⟨t, rfl⟩ := r
    simp at h
    exact ⟨s, t, rfl, h.symm⟩
  | s :: ss, _ :: _, .cons r rs, i + 1, v, h => by
    obtain ⟨x, k, h1, h2⟩ := vals_texts rs i v (by simpa using h)
    exact ⟨x, k, by simpa using h1, h2⟩
theorem pe_lenSet (c : Cal X A.w) (hg : Gl X "len") (hm : X.mg "len" = none) (hg2 : Gl X "set") (hm2 : X.mg "set" = none) (ha : PE X a (tE A W f)) (na : starEach [a] X.env = (false, eval a X.env) :: starEach [] X.env := by rfl) :
    PE X (.Call (.Name "len" p) [.Call (.Name "set" p2) [a] [] q] [] pos) (tE A W (lenSet f)) := by
  refine ⟨fun pins s σ H Q I h => ?_⟩
  have h2 : tE A W (frz f) σ H fun x H1 => ∃ (t : Addr) (ss : List Str), x = .ref t ∧ SqT X.K H1 t (ss.map V.str) ∧ ss.length ≤ 1000 ∧ Q (.int ((metS ss ss.length).length : Nat)) H1 := by
    obtain ⟨r, G, k, m⟩ := h
    refine ⟨r, G, k, ?_⟩
    unfold lenSet at m
    cases hf : frz f r with
    | bad => simp only [hf] at m
    | ex e r' => simp only [hf] at m ⊢; exact m
    | ok o v r' =>
      have eo := frz_false hf
      subst eo
      simp only [hf] at m ⊢
      intro x G1 H1 R
      cases v with
      | tup ds =>
        simp only at m
        cases hs : asStrs ds with
        | none => simp only [hs] at m
        | some ss =>
          simp only [hs] at m
          by_cases hl : ss.length ≤ 1000
          · simp only [if_pos hl] at m
            obtain ⟨t, xs, rfl, sq, rs⟩ := rep_tup.mp (show Rep A.w G1 (.tup ds) x from R.tr)
            rw [asStrs_some hs] at rs
            rw [reps_strs rs, c.K] at sq
            exact ⟨t, ss, rfl, sqt_mono R.ok.sub sq, hl, m _ G1 H1 ⟨R.ok, R.st, trep_f (rep_int.mpr rfl), no_own⟩⟩
          · simp only [if_neg hl] at m
      | _ => exact m.elim
  refine PyProof.Rows.Call_ (ld_blt I hg hm PySem.boot_len ?_)
  refine PyProof.Rows.callWith_builtin1 (PyProof.Rows.args_cons ?_ rfl) rfl rfl
  refine PyProof.Rows.Call_ (ld_blt I hg2 hm2 PyProof.Rows.boot_set ?_)
  refine PyProof.Rows.callWith_type1 (PyProof.Rows.args_cons (wpAny_mono ((pe_frz ha).run pins s σ H _ I h2) (fun v s1 ⟨x, H1, I1, r1, t, ss, ex, sq, hl, q1⟩ => PyProof.Rows.args_nil ?_) fun _ _ z => z) na) na rfl
  subst ex
  cases r1
  obtain ⟨its, rv, pl, _⟩ := I1.tuple sq
  have hz : its.toArray.size = ss.length := by
    rw [List.size_toArray, ← rv.length, List.length_map]
  refine PySem.set_tupTexts (ss := ss) (I1.ok.hd c.calm) (show s1.heap.IsTuple t its.toArray from pl) hz (fun i v hv => vals_texts rv i v (by simpa using hv)) (by unfold scanBound; omega) fun h' tk hS hk => ?_
  refine PyProof.Rows.args_nil ?_
  obtain ⟨o, es, ep, tb, ho, hex, hd, _, _, _, hfr, hn⟩ := hS
  have I2 : Inv X pins σ H1 { s1 with heap := h', toks := tk } := I1.kept fun b o e => hk b o (Heap.lt_size e) e
  have le := metS_le ss ss.length
  exact call_len_set ho hex hd hfr (by rw [hn]; omega) ⟨.int _, H1, I2.tok _, ⟨_, by rw [hn]⟩, q1⟩
end
end M
/-! MPI: in of a dict, index, reversed lists, several targets, zip, star, repr of a dict. -/
namespace M
open PySem L2

/-! ### one operation or another -/
def orP (P P' : List Val → Option (Bool × Val)) : List Val → Option (Bool × Val) := fun vs => match P vs with
  | some r => some r
  | none => P' vs
theorem rOf_or {w : Wd} {P P' : List Val → Option (Bool × Val)} {xs : List V} {H : Hp} {Q : VK} (h : rOf w (orP P P') xs H Q) : rOf w P xs H Q ∨ rOf w P' xs H Q := by
  obtain ⟨G, vs, o, z, le, rr, hp, q⟩ := h
  unfold orP at hp
  cases e : P vs with
  | none => rw [e] at hp; exact .inr ⟨G, vs, o, z, le, rr, hp, q⟩
  | some r => rw [e] at hp; exact .inl ⟨G, vs, o, z, le, rr, by rw [e]; exact hp, q⟩
section
variable {X : Cx} {w : Wd}
theorem opr_or {f : Value → Value → Sem Value} {P P' : List Val → Option (Bool × Val)} (h : OpR X f (r2Of w P)) (h' : OpR X f (r2Of w P')) : OpR X f (r2Of w (orP P P')) := fun pins s σ H x y v u Q I rx ry q =>
  (rOf_or (xs := [x, y]) q).elim (fun q => h pins s σ H x y v u Q I rx ry q) fun q => h' pins s σ H x y v u Q I rx ry q
theorem cr_or {f : Value} {P P' : List Val → Option (Bool × Val)} (h : CallR X f (rOf w P)) (h' : CallR X f (rOf w P')) : CallR X f (rOf w (orP P P')) := fun pins s σ H xs us Q I r q =>
  (rOf_or q).elim (fun q => h pins s σ H xs us Q I r q) fun q => h' pins s σ H xs us Q I r q

/-! ### k in d -/
def PinD : List Val → Option (Bool × Val)
  | [k, .dct false kvs] => match keyOf k with
    | some q => some (false, .bl (dGet kvs q).isSome)
    | none => none
  | _ => none
def PnotInD : List Val → Option (Bool × Val)
  | [k, .dct false kvs] => match keyOf k with
    | some q => some (false, .bl (!(dGet kvs q).isSome))
    | none => none
  | _ => none
theorem dget_rel {G H : Hp} {a : Addr} {q : Key} {ds : List (Val × Val)} {kvs : List (Key × V)} (h : Rd H a (.dK kvs)) (rk : RepK w G ds kvs) : ∃ o, DGet H a (kV q) o ∧ o.isSome = (dGet ds q).isSome := by
  obtain ⟨g1, g2⟩ := repK_get (w := w) (G := G) q rk
  refine ⟨valV kvs q, .inl ⟨kvs, q, h, rfl, rfl⟩, ?_⟩
  cases e : dGet ds q with
  | none => rw [g2 e]; rfl
  | some d => obtain ⟨x, e1, _⟩ := g1 d e; rw [e1]; rfl
theorem opr_inD (c : Cal X w) : OpR X (compareOp .In) (r2Of w PinD) := by
  intro pins s σ H x y v u Q I rx ry ⟨G, vs, o, z, le, rr, hp, q⟩
  unfold PinD at hp
  split at hp
  · obtain ⟨_, _, e, r1, r2⟩ := rreps_two rr
    cases e
    split at hp
    · rename_i qk hk
      cases hp
      obtain ⟨rfl, _⟩ := rrep_key r1 hk
      obtain ⟨a, rfl, ⟨_, kvs, h, rk⟩ | ⟨ht, _⟩⟩ := rrep_dct le r2
      · obtain ⟨ov, g, e⟩ := dget_rel (q := qk) h rk
        cases (show u = Value.ref a from ry)
        exact d_in (by have := c.un; omega) I g rx fun s3 I3 => ⟨.bl ov.isSome, H, I3, rfl, by rw [e]; exact bl_new le q⟩
      · cases ht
    · cases hp
  · cases hp
theorem opr_notInD (c : Cal X w) : OpR X (compareOp .NotIn) (r2Of w PnotInD) := by
  intro pins s σ H x y v u Q I rx ry ⟨G, vs, o, z, le, rr, hp, q⟩
  unfold PnotInD at hp
  split at hp
  · obtain ⟨_, _, e, r1, r2⟩ := rreps_two rr
    cases e
    split at hp
    · rename_i qk hk
      cases hp
      obtain ⟨rfl, _⟩ := rrep_key r1 hk
      obtain ⟨a, rfl, ⟨_, kvs, h, rk⟩ | ⟨ht, _⟩⟩ := rrep_dct le r2
      · obtain ⟨ov, g, e⟩ := dget_rel (q := qk) h rk
        cases (show u = Value.ref a from ry)
        exact d_notIn (by have := c.un; omega) I g rx fun s3 I3 => ⟨.bl (!ov.isSome), H, I3, rfl, by rw [e]; exact bl_new le q⟩
      · cases ht
    · cases hp
  · cases hp
def PinX := orP PinD Pin
def PnotInX := orP PnotInD PnotIn
theorem opr_inX (c : Cal X w) : OpR X (compareOp .In) (r2Of w PinX) := opr_or (opr_inD c) (opr_in c)
theorem opr_notInX (c : Cal X w) : OpR X (compareOp .NotIn) (r2Of w PnotInX) := opr_or (opr_notInD c) (opr_notIn c)

/-! ### xs.index(v) -/
def Pindex : List Val → Option (Bool × Val)
  | [.lst ds, v] => match toDs ds, toD v with
    | some es, some d => if shp (.list es) = true ∧ shp d = true then (es.findIdx? fun z => PyData.eqv z d).map fun j => (false, .int (j : Nat)) else none
    | _, _ => none
  | _ => none
theorem mtp_index (c : Cal X w) : MtP X w "list.index" Pindex := by
  intro pins s σ H x xs v us Q I rx rxs ⟨G, vs, o, z, le, rr, hp, q⟩
  unfold Pindex at hp
  split at hp
  · obtain ⟨_, _, e, r1, r2⟩ := rreps_two rr
    cases e
    split at hp
    · rename_i es d h1 h2
      split at hp
      · rename_i hs
        rw [Option.map_eq_some_iff] at hp
        obtain ⟨j, hj, e⟩ := hp
        cases e
        obtain ⟨a, ys, rfl, h, rs⟩ := rrep_lst le r1
        have hl : Dp X.K H (.ref a) (.list es) := .lst (.inl (.inl h)) (dps_of c.K le rs h1)
        obtain ⟨jl, e1, e2⟩ := List.findIdx?_eq_some_iff_getElem.mp hj
        exact mt_indexD (by have := c.un; omega) pins s σ H _ _ v us Q I rx rxs ⟨a, _, d, es, j, es[j], rfl, rfl, hl, dp_rrep c.K le r2 h2, hs.1, hs.2, by simp [jl], e1, fun m z' hm hz => by
          have hm' : m < es.length := Nat.lt_trans hm jl
          rw [List.getElem?_eq_getElem hm'] at hz
          cases hz
          exact Bool.eq_false_iff.mpr (e2 m hm), int_new le q⟩
      · cases hp
    · cases hp
  · cases hp
end

/-! ### xs[::-1] -/
def Prev : List Val → Option (Bool × Val)
  | [.lst ds] => some (true, .lst ds.reverse)
  | _ => none
section
variable {X : Cx} {A : Act} {W : WX} {x : Expr} {fo : OF} {k0 : Nat} {p1 p2 p3 pos : Pos}
theorem pe_rev (c : Cal X A.w) (h : PE X x (tO A W fo)) : PE X (.Subscript x (.Slice none none (some (.UnaryOp .USub (.Constant (.int 1) k0 p1) p2)) p3) pos) (tE A W (prim Prev (osCons fo osNil))) :=
  PE.imp (pe_revL h) fun σ H Q q => by
    obtain ⟨r, G, k, m⟩ := prim_os1 q
    refine ⟨r, G, k, ?_⟩
    cases hf : fo r with
    | bad => simp only [hf] at m
    | ex e r' => simp only [hf] at m ⊢; exact m
    | ok h r1 =>
      simp only [hf] at m ⊢
      intro x G1 H1 k1 st1 t1
      obtain ⟨G2, vs, o, z, le, rr, hp, q2⟩ := m x G1 H1 k1 st1 t1
      unfold Prev at hp
      split at hp
      · obtain ⟨y, e, r1⟩ := rreps_one rr
        cases e; cases hp
        obtain ⟨a, xs, rfl, h, rs⟩ := rrep_lst le r1
        exact ⟨a, xs, rfl, .inl (.inl h), fun p hp => new_lst le hp (reps_reverse rs) q2⟩
      · cases hp
end

/-! ### a, b = x, y; a, b = e -/
def asg2 (i j : Nat) (g : AF) : SF := fun r => match g r with
  | .ok [v, u] r1 => .nx ((r1.set i (some (false, v))).set j (some (false, u)))
  | .ok _ _ => .bad
  | .ex e r1 => .ex e r1
  | .bad => .bad
def asgT (t : TF) (f : EF) : SF := fun r => match frz f r with
  | .ok _ v r1 => match t v r1 with
    | some r2 => .nx r2
    | none => .bad
  | .ex e r1 => .ex e r1
  | .bad => .bad
section
variable {X : Cx} {A : Act} {W : WX} {e tg a b : Expr} {f : EF} {g : AF} {t : TF} {sl : List Nat} {pos px py pt : Pos} {i j : Nat} {x y : Str} {kt k2 : Nat} {pt2 : Pos}
theorem ps_asgT (he : PE X e (tE A W f)) (hg : PG X tg (tTg A sl t)) (hs : swapsWithSole [tg] e pos.line X.env = pure false := by rfl) (hw : swappedStores [tg] e X.env = pure none := by rfl) (h1 : (assignEach [tg] X.env).map (·.2) = [assign tg X.env] := by rfl) :
    PS X (.Assign [tg] e pos) (tSt A W (asgT t f)) :=
  PS.imp (ps_asg (pe_frz he) hg hs hw h1) fun D σ H h => by
    obtain ⟨r, G, k, m⟩ := tSt_iff.mp h
    refine ⟨r, G, k, ?_⟩
    unfold asgT at m
    cases hf : frz f r with
    | bad => rw [hf] at m; exact m.elim
    | ex e r' => rw [hf] at m; exact m σ
    | ok o v r1 =>
      have eo := frz_false hf
      subst eo
      simp only [hf] at m ⊢
      intro x G1 H1 R
      refine ⟨r1, G1, v, R.ok, R.tr, ?_⟩
      cases ht : t v r1 with
      | none => simp only [ht] at m; exact m.elim
      | some r2 => simp only [ht] at m ⊢; exact fun σ' k' _ _ => m σ' G1 H1 k' R.st.ex
theorem ps_asg2 (hc : X.calm = true) (hN : X.N.Nodup) (hi : X.N[i]? = some x) (hj : X.N[j]? = some y) (hij : i ≠ j) (hx : X.env.scope.names.lookup x = some .local) (hy : X.env.scope.names.lookup y = some .local) (hii : i ∉ A.io) (hjj : j ∉ A.io) (ha : PA X [a, b] (tAs A W g))
    (hw : swappedStores [.Tuple [.Name x px, .Name y py] kt pt] (.Tuple [a, b] k2 pt2) X.env = pure (some [x, y]) := by rfl)
    (hs : swapsWithSole [.Tuple [.Name x px, .Name y py] kt pt] (.Tuple [a, b] k2 pt2) pos.line X.env = pure false := by rfl) :
    PS X (.Assign [.Tuple [.Name x px, .Name y py] kt pt] (.Tuple [a, b] k2 pt2) pos) (tSt A W (asg2 i j g)) :=
  PS.imp (ps_par hc hN hi hj hij hx hy ha hw hs) fun D σ H h => by
    obtain ⟨r, G, k, m⟩ := tSt_iff.mp h
    refine ⟨r, G, k, ?_⟩
    unfold asg2 at m
    cases hf : g r with
    | bad => simp only [hf] at m; exact m.elim
    | ex e r' => simp only [hf] at m ⊢; exact m σ
    | ok vs r1 =>
      simp only [hf] at m ⊢
      intro xs G1 H1 k1 st1 rs
      split at m
      · rename_i v u r2 e
        cases e
        obtain ⟨x1, ys, rfl, q1, rs⟩ := reps_cons.mp rs
        obtain ⟨x2, zs, rfl, q2, rs⟩ := reps_cons.mp rs
        rw [reps_nil] at rs; subst rs
        refine ⟨x1, x2, rfl, m _ G1 H1 ?_ st1.ex⟩
        exact (k1.store (o := false) q1 hii).store (o := false) q2 hjj
      · exact m.elim
      · rename_i e; cases e
      · exact m.elim
end

/-! ### *xs in a display -/
def asStar (f : EF) (g : AF) : AF := fun r => match frz f r with
  | .ok _ v r1 => match Plist [v] with
    | some (true, .lst ds) => match g r1 with
      | .ok vs r2 => .ok (ds ++ vs) r2
      | .ex e r2 => .ex e r2
      | .bad => .bad
    | _ => .bad
  | .ex e r1 => .ex e r1
  | .bad => .bad
section
variable {X : Cx} {A : Act} {W : WX} {e : Expr} {es : List Expr} {f : EF} {g : AF} {p : Pos}
theorem pa_asStar (c : Cal X A.w) (he : PE X e (tE A W f)) (hr : PA X es (tAs A W g)) (hs : starEach (.Starred e p :: es) X.env = (true, eval e X.env) :: starEach es X.env := by rfl) : PA X (.Starred e p :: es) (tAs A W (asStar f g)) :=
  PA.imp (StX.pa_star (pe_frz he) hr hs) fun σ H Q ⟨r, G, k, m⟩ => ⟨r, G, k, by
    unfold asStar at m
    cases hf : frz f r with
    | bad => simp only [hf] at m
    | ex e r' => simp only [hf] at m ⊢; exact m
    | ok o v r1 =>
      have eo := frz_false hf
      subst eo
      simp only [hf] at m ⊢
      intro x G1 H1 R1
      cases hp : Plist [v] with
      | none => simp only [hp] at m
      | some oz =>
        obtain ⟨o, z⟩ := oz
        cases o with
        | false => simp only [hp] at m
        | true =>
          cases z with
          | lst ds =>
            simp only [hp] at m
            obtain ⟨a, xs, rfl, hsq, rs⟩ := rrep_seq c R1.ok.sub (.inl R1.tr) hp
            refine ⟨a, xs, rfl, hsq.symm, r1, G1, R1.ok, ?_⟩
            cases hg : g r1 with
            | bad => simp only [hg] at m
            | ex e r2 => simp only [hg] at m ⊢; exact m.mono R1.st.ex
            | ok vs r2 =>
              simp only [hg] at m ⊢
              intro ys G2 H2 k2 st2 rs2
              exact m (xs ++ ys) G2 H2 k2 (R1.st.trans st2) (reps_append (rs.mono st2.ex) rs2)
          | _ => simp only [hp] at m⟩
end

/-! ### zip -/
def zipV : List Val → List Val → List Val
  | u :: us, v :: vs => .tup [u, v] :: zipV us vs
  | _, _ => []
def zipOf : List Val → Option (List Val)
  | [.tup us, .tup vs] => some (zipV us vs)
  | [.lst us, .lst vs] => some (zipV us vs)
  | _ => none
def itZip (g : AF) : IF := itR zipOf g
theorem zipV_length : ∀ us vs : List Val, (zipV us vs).length = min us.length vs.length
  | [], vs => by simp [zipV]
  | u :: us, [] => by simp [zipV]
  | u :: us, v :: vs => by simp [zipV, zipV_length us vs]
theorem zipV_get : ∀ {us vs : List Val} {i : Nat} {z : Val}, (zipV us vs)[i]? = some z → ∃ u v, us[i]? = some u ∧ vs[i]? = some v ∧ z = .tup [u, v]
  | [], vs, i, z, h => by simp [zipV] at h
  | u :: us, [], i, z, h => by simp [zipV] at h
  | u :: us, v :: vs, 0, z, h => by simp [zipV] at h; exact ⟨u, v, rfl, rfl, h.symm⟩
  | u :: us, v :: vs, i + 1, z, h => by
    obtain ⟨u', v', e1, e2, e3⟩ := zipV_get (us := us) (vs := vs) (i := i) (by simpa [zipV] using h)
    exact ⟨u', v', by simpa using e1, by simpa using e2, e3⟩
section
variable {w : Wd} {K : PySem.W.Frag} {G : Hp} {us vs : List Val} {xs ys : List V} {a b : Addr}
theorem pair_laid {G' H : Hp} {T : Addr} {u v : Val} {x y : V} (le : Le G' H) (hT : H T = none) (r1 : Rep w G' u x) (r2 : Rep w G' v y) : Grow G' H (upd G' T (.tup [x, y])) (upd H T (.tup [x, y])) ∧ Rep w (upd G' T (.tup [x, y])) (.tup [u, v]) (.ref T) := by
  have gr := Grow.laidG (o := .tup [x, y]) le hT
  exact ⟨gr, rep_tup.mpr ⟨T, _, rfl, SqT.of upd_same, reps_cons.mpr ⟨_, _, rfl, r1.mono gr.g, reps_one (r2.mono gr.g)⟩⟩⟩
theorem itok_zipT (ha : SqT K G a xs) (hb : SqT K G b ys) (r1 : Reps w G us xs) (r2 : Reps w G vs ys) : ItOk w (RZ.ItzT K a b) G (zipV us vs) where
  go := fun G' H i le le' hi => by
    rw [zipV_length] at hi
    have l1 : i < xs.length := by rw [← reps_length r1]; omega
    have l2 : i < ys.length := by rw [← reps_length r2]; omega
    exact ⟨xs, ys, xs[i], ys[i], sqt_mono (le.trans le') ha, sqt_mono (le.trans le') hb, by simp [l1], by simp [l2]⟩
  stop := fun G' H i le le' hi => by
    rw [zipV_length, reps_length r1, reps_length r2] at hi
    exact ⟨xs, ys, sqt_mono (le.trans le') ha, sqt_mono (le.trans le') hb, by omega⟩
  yld := fun G' H i z x H' le le' hv ⟨T, p, q, ex, hT, eH, f1, f2⟩ => by
    obtain ⟨u, v, e1, e2, rfl⟩ := zipV_get hv
    obtain ⟨p', g1, g2⟩ := reps_get r1 e1
    obtain ⟨q', g3, g4⟩ := reps_get r2 e2
    rw [f1 xs (sqt_mono (le.trans le') ha)] at g1
    rw [f2 ys (sqt_mono (le.trans le') hb)] at g3
    cases g1; cases g3
    subst ex eH
    exact ⟨_, pair_laid le' hT (g2.mono le) (g4.mono le)⟩
theorem itok_zipL (ha : SqL K G a xs) (hb : SqL K G b ys) (r1 : Reps w G us xs) (r2 : Reps w G vs ys) : ItOk w (Itz K a b) G (zipV us vs) where
  go := fun G' H i le le' hi => by
    rw [zipV_length] at hi
    have l1 : i < xs.length := by rw [← reps_length r1]; omega
    have l2 : i < ys.length := by rw [← reps_length r2]; omega
    exact ⟨xs, ys, xs[i], ys[i], sql_mono (le.trans le') ha, sql_mono (le.trans le') hb, by simp [l1], by simp [l2]⟩
  stop := fun G' H i le le' hi => by
    rw [zipV_length, reps_length r1, reps_length r2] at hi
    exact ⟨xs, ys, sql_mono (le.trans le') ha, sql_mono (le.trans le') hb, by omega⟩
  yld := fun G' H i z x H' le le' hv ⟨T, p, q, ex, hT, eH, f1, f2⟩ => by
    obtain ⟨u, v, e1, e2, rfl⟩ := zipV_get hv
    obtain ⟨p', g1, g2⟩ := reps_get r1 e1
    obtain ⟨q', g3, g4⟩ := reps_get r2 e2
    rw [f1 xs (sql_mono (le.trans le') ha)] at g1
    rw [f2 ys (sql_mono (le.trans le') hb)] at g3
    cases g1; cases g3
    subst ex eH
    exact ⟨_, pair_laid le' hT (g2.mono le) (g4.mono le)⟩
end
section
variable {X : Cx} {A : Act} {W : WX} {e e2 : Expr} {g : AF} {p pos tpos : Pos} {elts : List Expr} {kk : Nat}
theorem pi_zip2 (hw : A.w.K = X.K) (hg : Gl X "zip") (hm : X.mg "zip" = none) (ha : PA X [e, e2] (tAs A W g)) (hs : starEach [e, e2] X.env = (false, eval e X.env) :: starEach [e2] X.env := by rfl) (hpl : (backTo pos (starEach [e2] X.env)).any (·.1) = false := by rfl) :
    PI X (.Tuple elts kk tpos) (.Call (.Name "zip" p) [e, e2] [] pos) (tIt A W (itZip g)) :=
  PI.imp (RZ.pi_zipA hg hm ha hs hpl) fun σ H R ⟨r, G, k, m⟩ => ⟨r, G, k, by
    unfold itZip itR at m
    cases hf : g r with
    | bad => simp only [hf] at m
    | ex e r' => simp only [hf] at m ⊢; exact m
    | ok vs r' =>
      simp only [hf] at m ⊢
      intro xs G1 H1 k1 st1 rs
      have le := k1.sub
      cases hz : zipOf vs with
      | none => simp only [hz] at m
      | some zs =>
        simp only [hz] at m
        unfold zipOf at hz
        split at hz
        · cases hz
          obtain ⟨x1, ys, rfl, q1, rs⟩ := reps_cons.mp rs
          obtain ⟨x2, zs, rfl, q2, rs⟩ := reps_cons.mp rs
          rw [reps_nil] at rs; subst rs
          obtain ⟨a, xs, rfl, sa, ra⟩ := rep_tup.mp q1
          obtain ⟨b, ys, rfl, sb, rb⟩ := rep_tup.mp q2
          rw [hw] at sa sb
          exact ⟨a, b, xs, ys, rfl, .inr ⟨sqt_mono le sa, sqt_mono le sb, m _ G1 H1 k1 st1 (itok_zipT sa sb ra rb)⟩⟩
        · cases hz
          obtain ⟨x1, ys, rfl, q1, rs⟩ := reps_cons.mp rs
          obtain ⟨x2, zs, rfl, q2, rs⟩ := reps_cons.mp rs
          rw [reps_nil] at rs; subst rs
          obtain ⟨a, xs, rfl, sa, ra⟩ := rep_lst.mp q1
          obtain ⟨b, ys, rfl, sb, rb⟩ := rep_lst.mp q2
          exact ⟨a, b, xs, ys, rfl, .inl ⟨.inl (.inl (le _ _ sa)), .inl (.inl (le _ _ sb)), m _ G1 H1 k1 st1 (itok_zipL (K := X.K) (.inl (.inl sa)) (.inl (.inl sb)) ra rb)⟩⟩
        · cases hz⟩
end

/-! ### repr of a dict of scalars and tuples of them -/
mutual
def noLst : PyData → Bool
  | .none => true
  | .bool _ => true
  | .int _ => true
  | .str _ => true
  | .tuple xs => noLsts xs
  | _ => false
def noLsts : List PyData → Bool
  | [] => true
  | x :: xs => noLst x && noLsts xs
end
mutual
theorem reads_free {h : Heap} : ∀ {d : PyData} {u : Value} {as : List Addr}, noLst d = true → Reads h u d as → as = []
  | .none, _, _, _, r => by cases r; rfl
  | .bool _, _, _, _, r => by cases r; rfl
  | .int _, _, _, _, r => by cases r; rfl
  | .str _, _, _, _, r => by cases r; rfl
  | .tuple xs, _, _, f, r => by
    cases r with
    | tuple _ _ _ ra => exact reads_frees (by simpa [noLst] using f) ra
  | .list _, _, _, f, _ => by simp [noLst] at f
  | .dict _, _, _, f, _ => by simp [noLst] at f
theorem reads_frees {h : Heap} : ∀ {ds : List PyData} {us : List Value} {as : List Addr}, noLsts ds = true → ReadsAll h us ds as → as = []
  | [], _, _, _, r => by cases r; rfl
  | d :: ds, _, _, f, r => by
    rw [noLsts, Bool.and_eq_true] at f
    cases r with
    | cons r1 r2 => rw [reads_free f.1 r1, reads_frees f.2 r2]; rfl
end
def keyD : Val → Option PyData
  | .int i => some (.int i)
  | .str s => some (.str s)
  | _ => none
def toDkv : List (Val × Val) → Option (List (PyData × PyData))
  | [] => some []
  | (k, v) :: kvs => match keyD k, toD v, toDkv kvs with
    | some a, some b, some r => some ((a, b) :: r)
    | _, _, _ => none
def PreprD : List Val → Option (Bool × Val)
  | [.dct false kvs] => match toDkv kvs with
    | some ds => if (ds.all fun p => noLst p.2) = true ∧ PyData.showable (.dict ds) = true ∧ (PyData.dict ds).depth ≤ 60 ∧ (PyData.dict ds).shown.length ≤ sizeLine then some (false, .str (PyData.dict ds).shown) else none
    | none => none
  | _ => none
theorem kv_reads {X : Cx} {w : Wd} (c : Cal X w) {pins : List (Addr × Obj)} {s : Shared} {σ : L2.St} {G H : Hp} (I : Inv X pins σ H s) (le : Le G H) : ∀ {kvs : List (Val × Val)} {ds : List (PyData × PyData)} {ks : List (Key × V)} {vs : List (Key × Value)} {es : List DictEntry},
    toDkv kvs = some ds → (ds.all fun p => noLst p.2) = true → RepK w G kvs ks → KV ks vs → PySem.Pairs (mixKind X.prog X.w) es vs → ReadsAll s.heap (es.map (·.key)) (ds.map (·.1)) [] ∧ ReadsAll s.heap (es.map (·.val)) (ds.map (·.2)) []
  | [], ds, ks, vs, es, h, _, r, rel, pr => by
    simp only [toDkv, Option.some.injEq] at h
    subst h
    rw [RepK] at r
    subst r
    cases rel
    cases pr
    exact ⟨.nil, .nil⟩
  | (k, v) :: kvs, ds, ks, vs, es, h, f, r, rel, pr => by
    simp only [toDkv] at h
    split at h
    · rename_i a b rest h1 h2 h3
      cases h
      rw [RepK] at r
      obtain ⟨q, y, ys, rfl, ⟨rfl, _⟩, r1, r2⟩ := r
      rw [List.all_cons, Bool.and_eq_true] at f
      cases rel with
      | @cons _ kvp _ vs' h4 t =>
        cases pr with
        | @cons e _ es' _ hk hv pr' =>
          obtain ⟨i1, i2⟩ := kv_reads c I le h3 f.2 r2 t pr'
          obtain ⟨e4, e5⟩ := h4
          have hk' : L2.keyIs kvp.1 e.key = true := hk
          have rk : Reads s.heap e.key a [] := by
            have e4' : q = kvp.1 := e4
            rw [← e4'] at hk'
            rcases keyIs_shape hk' with ⟨i, t, rfl, e6⟩ | ⟨x, t, rfl, e6⟩
            · rw [e6]
              simp only [kv, keyD, Option.some.injEq] at h1
              subst h1
              exact .int i t
            · rw [e6]
              simp only [kv, keyD, Option.some.injEq] at h1
              subst h1
              exact .str x t
          obtain ⟨as, rv⟩ := Dp.reads I b y e.val (dp_of c.K le r1 h2) (by rw [hv]; exact e5)
          have ea := reads_free f.1 rv
          subst ea
          exact ⟨.cons rk i1, .cons rv i2⟩
    · cases h
theorem bi_reprD {X : Cx} {w : Wd} (c : Cal X w) : CallR X (.builtin "repr") (rOf w PreprD) := by
  intro pins s σ H xs us Q I r ⟨G, vs, o, z, le, rr, hp, q⟩
  unfold PreprD at hp
  split at hp
  · obtain ⟨x, e, r1⟩ := rreps_one rr
    subst e
    split at hp
    · rename_i ds hd
      split at hp
      · rename_i hc
        cases hp
        obtain ⟨h1, h2, h3, h4⟩ := hc
        obtain ⟨a, rfl, ⟨_, ks, hks, rk⟩ | ⟨ht, _⟩⟩ := rrep_dct le r1
        · obtain ⟨u, rfl, ru⟩ := vals1 r
          cases (show u = Value.ref a from ru)
          obtain ⟨_, hsys, vs, rel, ob, es, ep, ho, hx, hdat, _, pr, _⟩ := dk_rd I.hok hks
          obtain ⟨i1, i2⟩ := kv_reads c I le hd h1 rk rel pr
          have rd : Reads s.heap (.ref a) (.dict ds) (a :: [] ++ []) := .dict ho hx.1 hdat i1 i2
          refine PySem.repr_of_reads' rd h2 (fun _ hm => ?_) c.gs (by have := c.un; omega) (fun b o e => e) (fun h' u tk hk => ⟨.str _, H, I.kept (t' := tk) hk, ⟨_, rfl⟩, str_new le h4 q⟩) h4
          have e : sysModules = a := by simpa using hm
          subst e
          simp at hsys
        · cases ht
      · cases hp
    · cases hp
  · cases hp
def PreprX := orP PreprD Prepr
theorem bi_reprX {X : Cx} {w : Wd} (c : Cal X w) : CallR X (.builtin "repr") (rOf w PreprX) := cr_or (bi_reprD c) (bi_repr c)

/-! ### == of two texts, of two numbers: no condition -/
def PeqS : List Val → Option (Bool × Val)
  | [.str a, .str b] => some (false, .bl (a == b))
  | [.int a, .int b] => some (false, .bl (a == b))
  | _ => none
def PneS : List Val → Option (Bool × Val)
  | [.str a, .str b] => some (false, .bl (!(a == b)))
  | [.int a, .int b] => some (false, .bl (!(a == b)))
  | _ => none
section
variable {X : Cx} {w : Wd}
theorem opr_eqS : OpR X (compareOp .Eq) (r2Of w PeqS) := by
  intro pins s σ H x y v u Q I rx ry ⟨G, vs, o, z, le, rr, hp, q⟩
  unfold PeqS at hp
  split at hp
  · obtain ⟨_, _, e, r1, r2⟩ := rreps_two rr
    cases e; cases hp
    obtain ⟨rfl, _⟩ := rrep_str r1; obtain ⟨rfl, _⟩ := rrep_str r2
    exact op_eq pins s σ H _ _ v u Q I rx ry ⟨rfl, by rw [dec_str]; exact bl_new le q⟩
  · obtain ⟨_, _, e, r1, r2⟩ := rreps_two rr
    cases e; cases hp
    obtain rfl := rrep_int r1; obtain rfl := rrep_int r2
    exact op_eq pins s σ H _ _ v u Q I rx ry ⟨rfl, by rw [dec_int]; exact bl_new le q⟩
  · cases hp
theorem opr_neS : OpR X (compareOp .NotEq) (r2Of w PneS) := by
  intro pins s σ H x y v u Q I rx ry ⟨G, vs, o, z, le, rr, hp, q⟩
  unfold PneS at hp
  split at hp
  · obtain ⟨_, _, e, r1, r2⟩ := rreps_two rr
    cases e; cases hp
    obtain ⟨rfl, _⟩ := rrep_str r1; obtain ⟨rfl, _⟩ := rrep_str r2
    exact op_ne pins s σ H _ _ v u Q I rx ry ⟨rfl, by rw [dec_str]; exact bl_new le q⟩
  · obtain ⟨_, _, e, r1, r2⟩ := rreps_two rr
    cases e; cases hp
    obtain rfl := rrep_int r1; obtain rfl := rrep_int r2
    exact op_ne pins s σ H _ _ v u Q I rx ry ⟨rfl, by rw [dec_int]; exact bl_new le q⟩
  · cases hp
def PeqX := orP PeqS Peq
def PneX := orP PneS Pne
theorem opr_eqX (c : Cal X w) : OpR X (compareOp .Eq) (r2Of w PeqX) := opr_or opr_eqS (opr_eq c)
theorem opr_neX (c : Cal X w) : OpR X (compareOp .NotEq) (r2Of w PneX) := opr_or opr_neS (opr_ne c)
end
end M
/-! MPL: plain lemmas over values. -/
namespace M
open PySem L2
theorem toDs_ints : ∀ cs : List Int, toDs (cs.map .int) = some (cs.map .int)
  | [] => rfl
  | c :: cs => by rw [List.map_cons, toDs, toDs_ints cs]; rfl
theorem shp_ints (cs : List Int) : shp (.list (cs.map .int)) = true := by
  have h1 : ∀ cs : List Int, PyData.canLayAll0 (cs.map .int) = true := fun cs => by
    induction cs with
    | nil => simp [PyData.canLayAll0]
    | cons c cs ih => simp [PyData.canLayAll0, PyData.canLay0]; simpa using ih
  have h2 : ∀ cs : List Int, PyData.depthAll (cs.map .int) = 0 := fun cs => by
    induction cs with
    | nil => simp [PyData.depthAll]
    | cons c cs ih => simp [PyData.depthAll, PyData.depth]; simpa using ih
  show SeqAt.shaped _ = true
  unfold SeqAt.shaped
  simp only [PyData.canLay0, PyData.depth, h1, h2]
  decide
theorem pne_nil (cs : List Int) : Pne [.lst (cs.map .int), .lst []] = some (false, .bl (decide (cs ≠ []))) := by
  have h1 := shp_ints cs
  have h2 := shp_ints []
  simp only [List.map_nil] at h2
  cases cs with
  | nil => simp [Pne, toD, toDs, h2, PyData.eqv, PyData.eqvAll]
  | cons c cs =>
    simp only [List.map_cons] at h1
    simp [Pne, toD, toDs, toDs_ints, h1, h2, PyData.eqv, PyData.eqvAll]
theorem ix_mod (cs : List Int) (t : Int) (h : cs ≠ []) (ht : 0 ≤ t) : ∃ c, Pix [.lst (cs.map .int), .int (t % (cs.length : Int))] = some (false, .int c) := by
  have hl : 0 < cs.length := List.length_pos_iff.mpr h
  have h1 : 0 ≤ t % (cs.length : Int) := Int.emod_nonneg _ (by omega)
  have h2 : t % (cs.length : Int) < cs.length := Int.emod_lt_of_pos _ (by omega)
  have h3 : (t % (cs.length : Int)).toNat < cs.length := by omega
  exact ⟨cs[(t % (cs.length : Int)).toNat], by simp [Pix, atI, ixN, h1, h2, h3]⟩
theorem mul_ok {i j : Int} (h0 : 0 ≤ j) (h : j < 2 ^ 64 - 1) : mulOk i j = true := mulOk_iff.mpr (.inr ⟨by omega, h⟩)
theorem mul_okL {i j : Int} (h0 : 0 ≤ i) (h : i < 2 ^ 64 - 1) : mulOk i j = true := mulOk_iff.mpr (.inl ⟨by omega, h⟩)
theorem small_ok {n : Nat} {j : Int} (h0 : 0 ≤ j) (h : j ≤ (n : Int)) : smallI n j = true := smallI_iff.mpr ⟨by omega, h⟩
def good (s : Str) : Prop := s.length ≤ 100000 ∧ ∀ c ∈ s.cps.toList, c < 0x110000
def one (c : Nat) : Str := ⟨#[c]⟩
theorem len_list (s : Str) : s.cps.toList.length = s.length := by rw [Array.length_toList]; rfl
/-- a comprehension whose turns leave the slots as they were -/
theorem lcL_map {α : Type} {t : TF} {c : BF} {f : EF} {sl : List Nat} {env : M.Env} (y z : α → Val) (p : α → Bool) : ∀ (xs : List α) (acc : List Val),
    (∀ x ∈ xs, ∃ r1, t (y x) env = some r1 ∧ c r1 = .ok (p x) r1 ∧ wipeR r1 sl = env ∧ (p x = true → ∃ o r3, frz f r1 = .ok o (z x) r3 ∧ wipeR r3 sl = env)) → acc.length + xs.length ≤ 100000 →
    lcL t c f sl (xs.map y) acc env = .ok (acc ++ (xs.filter p).map z) env
  | [], acc, _, _ => by simp [lcL]
  | x :: xs, acc, h, hl => by
    obtain ⟨r1, e1, e2, e3, e4⟩ := h x (by simp)
    have hx := fun x' hx' => h x' (List.mem_cons_of_mem _ hx')
    rw [List.length_cons] at hl
    rw [List.map_cons, lcL]
    cases hp : p x with
    | false =>
      rw [hp] at e2
      simp only [e1, e2, e3]
      rw [lcL_map y z p xs acc hx (by omega), List.filter_cons_of_neg (by simp [hp])]
    | true =>
      rw [hp] at e2
      obtain ⟨o, r3, e5, e6⟩ := e4 hp
      have ha : acc.length < 100000 := by omega
      simp only [e1, e2, e5, e6, if_pos ha]
      rw [lcL_map y z p xs (acc ++ [z x]) hx (by simp; omega), List.filter_cons_of_pos (by simp [hp])]
      simp
theorem asBls_map : ∀ bs : List Bool, asBls (bs.map Val.bl) = some bs
  | [] => rfl
  | b :: bs => by simp [asBls, asBls_map bs]
theorem asBls_comp {α : Type} (f : α → Bool) (xs : List α) : asBls (xs.map (Val.bl ∘ f)) = some (xs.map f) := by
  rw [← List.map_map, asBls_map]
theorem toDs_strs : ∀ ss : List Str, toDs (ss.map Val.str) = some (ss.map PyData.str)
  | [] => rfl
  | s :: ss => by simp [toDs, toD, toDs_strs ss]
theorem shp_strs (ss : List Str) (h : ∀ s ∈ ss, ∀ c ∈ s.cps.toList, c < 0x110000) : shp (.list (ss.map .str)) = true := by
  have h1 : ∀ ss : List Str, (∀ s ∈ ss, ∀ c ∈ s.cps.toList, c < 0x110000) → PyData.canLayAll0 (ss.map .str) = true := fun ss => by
    induction ss with
    | nil => intro _; simp [PyData.canLayAll0]
    | cons s ss ih =>
      intro h
      have hs : PyData.strOk s = true := by
        unfold PyData.strOk
        rw [Array.all_eq_true_iff_forall_mem]
        intro c hc
        exact decide_eq_true (h s (by simp) c (by simpa using hc))
      simp [PyData.canLayAll0, PyData.canLay0, hs, ih fun s' hs' => h s' (by simp [hs'])]
  have h2 : ∀ ss : List Str, PyData.depthAll (ss.map .str) = 0 := fun ss => by
    induction ss with
    | nil => simp [PyData.depthAll]
    | cons s ss ih => simp [PyData.depthAll, PyData.depth, ih]
  show SeqAt.shaped _ = true
  unfold SeqAt.shaped
  simp only [PyData.canLay0, PyData.depth, h1 ss h, h2]
  decide
theorem peq_nil (ss : List Str) (h : ∀ s ∈ ss, ∀ c ∈ s.cps.toList, c < 0x110000) : Peq [.lst (ss.map .str), .lst []] = some (false, .bl (decide (ss = []))) := by
  have h1 := shp_strs ss h
  have h2 := shp_strs [] (by simp)
  simp only [List.map_nil] at h2
  cases ss with
  | nil => simp [Peq, toD, toDs, h2, PyData.eqv, PyData.eqvAll]
  | cons c cs =>
    simp only [List.map_cons] at h1
    simp [Peq, toD, toDs, toDs_strs, h1, h2, PyData.eqv, PyData.eqvAll]
theorem shp_int (i : Int) : shp (.int i) = true := by
  show SeqAt.shaped _ = true
  simp [SeqAt.shaped, PyData.canLay0, PyData.depth]
theorem peq_int (i j : Int) : Peq [.int i, .int j] = some (false, .bl (i == j)) := by simp [Peq, toD, shp_int, PyData.eqv]
theorem signs_one (s : Str) : signs s = s.cps.toList.map fun c => .str (one c) := rfl
theorem toDs_strsC {α : Type} (f : α → Str) (xs : List α) : toDs (xs.map (Val.str ∘ f)) = some (xs.map (PyData.str ∘ f)) := by
  rw [← List.map_map, toDs_strs, List.map_map]
theorem good_of {s : Str} (h : (decide (s.length ≤ 100000) && s.cps.toList.all fun c => decide (c < 0x110000)) = true) : good s := by
  rw [Bool.and_eq_true, List.all_eq_true] at h
  exact ⟨of_decide_eq_true h.1, fun c hc => of_decide_eq_true (h.2 c hc)⟩
theorem good_app {s t : Str} (hs : good s) (ht : good t) (h : s.length + t.length ≤ 100000) : good (s ++ t) := by
  refine ⟨by rw [str_len_app]; exact h, fun c hc => ?_⟩
  have : (s ++ t).cps.toList = s.cps.toList ++ t.cps.toList := by
    show (s.cps ++ t.cps).toList = _
    simp
  rw [this, List.mem_append] at hc
  exact hc.elim (hs.2 c) (ht.2 c)
theorem good_cut {s : Str} (lo hi : Option Int) (hs : good s) : good (cutS s lo hi) := by
  refine ⟨Nat.le_trans (cutS_length s lo hi) hs.1, fun c hc => hs.2 c ?_⟩
  have hc' : c ∈ (s.cps.toList.drop (HT.sIx s.length 0 lo)).take (HT.sIx s.length s.length hi - HT.sIx s.length 0 lo) := hc
  exact List.mem_of_mem_drop (List.mem_of_mem_take hc')
theorem good_one {c : Nat} (h : c < 0x110000) : good (one c) := ⟨by show 1 ≤ 100000; decide, fun d hd => by
  have : d = c := by simpa [one] using hd
  rw [this]; exact h⟩
theorem good_rep {s : Str} (n : Nat) (hs : good s) (h : s.length * n ≤ 100000) : good (repS s n) := by
  refine ⟨by rw [repS_length]; exact h, fun c hc => ?_⟩
  have hc' : c ∈ (List.replicate n s.cps.toList).flatten := by simpa [repS] using hc
  obtain ⟨l, hl, hcl⟩ := List.mem_flatten.mp hc'
  rw [List.eq_of_mem_replicate hl] at hcl
  exact hs.2 c hcl
theorem joinL_nil : ∀ l : List (List Nat), TL.joinL [] l = l.flatten
  | [] => rfl
  | [p] => by simp [TL.joinL]
  | p :: q :: r => by
    have ih := joinL_nil (q :: r)
    rw [TL.joinL, ih]; simp
theorem join_tl (ys : List Str) : (Txt.join "" ys).cps.toList = (ys.map fun y => y.cps.toList).flatten := by
  have e : Txt.join "" ys = Str.join "" ys := PySem.StrLaws.glued_eq_join "" ys
  rw [e]
  have := TL.tl_join "" ys
  rw [← joinL_nil]
  exact this

theorem pix_str (A : Str) (d : Int) (h0 : 0 ≤ d) (h1 : d < A.length) (hA : ∀ c ∈ A.cps.toList, c < 0x110000) : ∃ c, Pix [.str A, .int d] = some (false, .str (one c)) ∧ c < 0x110000 := by
  have hl := len_list A
  have h2 : d.toNat < A.cps.toList.length := by omega
  have h3 : d < (A.cps.toList.length : Int) := by omega
  refine ⟨A.cps.toList[d.toNat], ?_, hA _ (List.getElem_mem h2)⟩
  show Option.map _ (atI A.cps.toList d) = _
  unfold atI ixN
  rw [if_pos h0, if_pos h3]
  simp only [Option.bind_some, List.getElem?_eq_getElem h2, Option.map_some]
  rfl
theorem shown_bl (b : Bool) : ∃ x : Str, Prepr [.bl b] = some (false, .str x) ∧ Pne [.str x, .str x] = some (false, .bl false) := by
  have key : ∀ x : Str, PyData.strOk x = true → Pne [.str x, .str x] = some (false, .bl false) := fun x hx => by
    have : shp (.str x) = true := by
      show SeqAt.shaped _ = true
      simp [SeqAt.shaped, PyData.canLay0, PyData.depth, hx]
    simp [Pne, toD, this, PyData.eqv]
  cases b with
  | true => exact ⟨"True", by simp [Prepr, toD, PyData.showable, PyData.hasDict, PyData.depth, PyData.shown]; decide +kernel, key _ (by decide +kernel)⟩
  | false => exact ⟨"False", by simp [Prepr, toD, PyData.showable, PyData.hasDict, PyData.depth, PyData.shown]; decide +kernel, key _ (by decide +kernel)⟩
theorem asStrs_one (ys : List Nat) : asStrs (ys.map fun c => .str (one c)) = some (ys.map one) := by
  induction ys with
  | nil => rfl
  | cons c ys ih => rw [List.map_cons, asStrs, ih]; rfl
theorem flat_one (ys : List Nat) : ((ys.map one).map fun y => y.cps.toList).flatten = ys := by
  induction ys with
  | nil => rfl
  | cons c ys ih => simp only [List.map_cons, List.flatten_cons, ih]; rfl
theorem pjoin_ok (ys : List Nat) (h : ys.length ≤ 10) (hc : ∀ c ∈ ys, c < 0x110000) : ∃ w : Str, Pjoin [.str "", .lst (ys.map fun c => .str (one c))] = some (false, .str w) ∧ w.length = ys.length ∧ good w := by
  have e := join_tl (ys.map one)
  rw [flat_one] at e
  have l1 : (Txt.join "" (ys.map one)).length = ys.length := by rw [← len_list, e]
  have l2 : ((ys.map one).map (·.length)).sum = ys.length := by
    clear e l1 h hc
    induction ys with
    | nil => rfl
    | cons c ys ih => simp only [List.map_cons, List.sum_cons, ih, List.length_cons]; show 1 + ys.length = _; omega
  have l3 : ("" : Str).length = 0 := by decide
  refine ⟨_, ?_, l1, by rw [l1]; omega, fun c hc' => hc c (by rw [e] at hc'; exact hc')⟩
  unfold Pjoin
  simp only [asStrs_one]
  rw [if_pos]
  refine ⟨by rw [l2, l3]; omega, by rw [l1]; exact Nat.le_trans h (by decide)⟩
theorem padd_str (a b : Str) (h : a.length + b.length ≤ 100000) : Padd [.str a, .str b] = some (false, .str (a ++ b)) := by
  have : a.length + b.length ≤ sizeLine := line_of h
  simp [Padd, this]
end M
/-! MPC: calls of the program's own defs, with keywords too. -/
namespace M
open PySem L2

/-! ### operands behind operands, in another order -/
def osApp (f g : OsF) : OsF := fun r => match f r with
  | .ok hs r1 => match g r1 with
    | .ok ks r2 => .ok (hs ++ ks) r2
    | .ex e r2 => .ex e r2
    | .bad => .bad
  | .ex e r1 => .ex e r1
  | .bad => .bad
/-- the places ix of a list -/
def pick {α : Type} (ix : List Nat) (l : List α) : Option (List α) := match ix with
  | [] => some []
  | i :: ix => match l[i]?, pick ix l with
    | some x, some xs => some (x :: xs)
    | _, _ => none
def osN (n : Nat) (f : OsF) : OsF := fun r => match f r with
  | .ok hs r1 => if hs.length = n then .ok hs r1 else .bad
  | .ex e r1 => .ex e r1
  | .bad => .bad
def osPick (ix : List Nat) (f : OsF) : OsF := fun r => match f r with
  | .ok hs r1 => match pick ix hs with
    | some ks => .ok ks r1
    | none => .bad
  | .ex e r1 => .ex e r1
  | .bad => .bad
section
variable {A : Act} {W : WX} {G H : Hp} {σ : L2.St} {r : Env} {f g : OsF}
theorem hreps_app : ∀ {hs ks : List Hd} {xs ys : List V}, HReps A G H σ r hs xs → HReps A G H σ r ks ys → HReps A G H σ r (hs ++ ks) (xs ++ ys)
  | [], _, _, _, h, q => by have h' : _ = [] := h; subst h'; exact q
  | h :: hs, ks, _, ys, ⟨y, zs, e, a, b⟩, q => by subst e; exact ⟨y, zs ++ ys, rfl, a, hreps_app b q⟩
theorem hreps_get : ∀ {hs : List Hd} {xs : List V} {i : Nat} {h : Hd}, HReps A G H σ r hs xs → hs[i]? = some h → ∃ x, xs[i]? = some x ∧ HRep A G H σ r h x
  | [], _, _, _, _, e => by simp at e
  | h :: hs, _, 0, _, ⟨y, zs, e, a, b⟩, q => by subst e; simp at q; subst q; exact ⟨y, rfl, a⟩
  | h :: hs, _, i + 1, _, ⟨y, zs, e, a, b⟩, q => by subst e; obtain ⟨x, h1, h2⟩ := hreps_get b (i := i) (by simpa using q); exact ⟨x, by simpa using h1, h2⟩
theorem hreps_pick {hs : List Hd} {xs : List V} (q : HReps A G H σ r hs xs) : ∀ {ix : List Nat} {ks : List Hd}, pick ix hs = some ks → ∃ ys, pick ix xs = some ys ∧ HReps A G H σ r ks ys
  | [], ks, e => by simp only [pick, Option.some.injEq] at e; subst e; exact ⟨[], rfl, rfl⟩
  | i :: ix, ks, e => by
    simp only [pick] at e
    split at e
    · rename_i h hs' h1 h2
      cases e
      obtain ⟨x, e1, e2⟩ := hreps_get q h1
      obtain ⟨ys, e3, e4⟩ := hreps_pick q h2
      exact ⟨x :: ys, by simp only [pick, e1, e3], x, ys, rfl, e2, e4⟩
    · cases e
theorem os_app {H : Hp} {Q : List V → Hp → Prop} (h : tOs A W (osApp f g) σ H Q) : tOs A W f σ H fun xs H1 => tOs A W g σ H1 fun ys H2 => Q (xs ++ ys) H2 := by
  obtain ⟨r, G, k, m⟩ := h
  refine ⟨r, G, k, ?_⟩
  unfold osApp at m
  cases hf : f r with
  | bad => rw [hf] at m; exact m.elim
  | ex e r' => rw [hf] at m; exact m
  | ok hs r1 =>
    simp only [hf] at m
    intro xs G1 H1 k1 st1 t1
    refine ⟨r1, G1, k1, ?_⟩
    cases hg : g r1 with
    | bad => simp only [hg] at m
    | ex e r2 => simp only [hg] at m ⊢; exact m.mono st1.ex
    | ok ks r2 =>
      simp only [hg] at m ⊢
      intro ys G2 H2 k2 st2 t2
      exact m (xs ++ ys) G2 H2 k2 (st1.trans st2) (hreps_app (t1.step st2) t2)
theorem hreps_len : ∀ {hs : List Hd} {xs : List V}, HReps A G H σ r hs xs → xs.length = hs.length
  | [], _, h => by have h' : _ = [] := h; subst h'; rfl
  | h :: hs, _, ⟨y, zs, e, a, b⟩ => by subst e; simp [hreps_len b]
theorem os_N {n : Nat} {H : Hp} {Q : List V → Hp → Prop} (h : tOs A W (osN n f) σ H Q) : tOs A W f σ H fun xs H1 => xs.length = n ∧ Q xs H1 := by
  obtain ⟨r, G, k, m⟩ := h
  refine ⟨r, G, k, ?_⟩
  unfold osN at m
  cases hf : f r with
  | bad => rw [hf] at m; exact m.elim
  | ex e r' => rw [hf] at m; exact m
  | ok hs r1 =>
    simp only [hf] at m
    by_cases hn : hs.length = n
    · simp only [if_pos hn] at m
      intro xs G1 H1 k1 st1 t1
      exact ⟨(hreps_len t1).trans hn, m xs G1 H1 k1 st1 t1⟩
    · simp only [if_neg hn] at m
theorem os_pick {ix : List Nat} {H : Hp} {Q : List V → Hp → Prop} (h : tOs A W (osPick ix f) σ H Q) : tOs A W f σ H fun xs H1 => ∃ ys, pick ix xs = some ys ∧ Q ys H1 := by
  obtain ⟨r, G, k, m⟩ := h
  refine ⟨r, G, k, ?_⟩
  unfold osPick at m
  cases hf : f r with
  | bad => rw [hf] at m; exact m.elim
  | ex e r' => rw [hf] at m; exact m
  | ok hs r1 =>
    simp only [hf] at m
    intro xs G1 H1 k1 st1 t1
    cases hp : pick ix hs with
    | none => simp only [hp] at m
    | some ks =>
      simp only [hp] at m
      obtain ⟨ys, e, q⟩ := hreps_pick t1 hp
      exact ⟨ys, e, m ys G1 H1 k1 st1 q⟩
end

/-- how the keywords ks go to the parameters: the values us of the positional ones and ws of the keywords, picked by ix -/
structure BindK (K : PySem.W.Frag) (fd : FuncData) (ps ks : List Str) (ix : List Nat) (n : Nat) : Prop where
  to : ∀ (s : Shared) (us ws zs : List Value), K.In s.heap → us.length = n → pick ix (us ++ ws) = some zs → zs.length = ps.length → ws.length = ks.length → BindsTo s fd ⟨us, ks.zip ws⟩ (ps.zip zs)

theorem vals_pick : ∀ {ix : List Nat} {xs ys : List V} {us : List Value}, Vals xs us → pick ix xs = some ys → ∃ zs, pick ix us = some zs ∧ Vals ys zs
  | [], _, _, _, _, e => by simp only [pick, Option.some.injEq] at e; subst e; exact ⟨[], rfl, .nil⟩
  | i :: ix, xs, ys, us, r, e => by
    simp only [pick] at e
    split at e
    · rename_i x xs' h1 h2
      cases e
      obtain ⟨zs, e1, e2⟩ := vals_pick r h2
      have : ∀ {xs : List V} {us : List Value} {i : Nat} {x : V}, Vals xs us → xs[i]? = some x → ∃ u, us[i]? = some u ∧ RelV x u := by
        intro xs
        induction xs with
        | nil => intro us i x _ h; simp at h
        | cons y ys ih =>
          intro us i x r h
          cases r with
          | cons a b =>
            cases i with
            | zero => simp at h; subst h; exact ⟨_, rfl, a⟩
            | succ i => obtain ⟨u, e, q⟩ := ih b (i := i) (by simpa using h); exact ⟨u, by simpa using e, q⟩
      obtain ⟨u, e3, e4⟩ := this r h1
      exact ⟨u :: zs, by simp only [pick, e3, e1], .cons e4 e2⟩
    · cases e

section
variable {X : Cx} {A : Act} {W : WX} {k n : Nat} {f : Addr} {fd : FuncData} {ps ks : List Str} {g : GF} {x : Str} {p pos kpos : Pos} {e : Expr} {es : List Expr} {kws : List Keyword} {fo fk : OsF} {fe : OF} {nm : Option Str}
theorem pk_osNil : PK X [] (tOs A W osNil) := ⟨fun pos pins s σ H Q I ⟨r, G, kk, m⟩ => pk_nil.run pos pins s σ H Q I (m [] G H kk Step.refl rfl)⟩
theorem pk_osCons (he : PE X e (tO A W fe)) (hr : PK X kws (tOs A W fk)) : PK X (⟨nm, e, kpos⟩ :: kws) (tOs A W (osCons fe fk)) :=
  ⟨fun pos pins s σ H Q I h => (pk_cons he hr).run pos pins s σ H Q I (os_cons h)⟩
/-- f(e, ..) -/
theorem pe_cG (F : FnG X.prog X.w X.K X.mg X.base (L2.CX X.prog X.w) k f fd ps (spF A.w n g)) (hr : RoomG k X.A) (hg : Gl X x) (hm : X.mg x = some (.ref f)) (hk : PySem.W.keepIn X.K (.ref f) = true) (hb : Binds X.K fd ps []) (tk : Takes X W)
    (ha : PA X (e :: es) (tOs A W fo)) (hdb : (x == ("__debug__" : Str)) = false := by decide) (he : starEach (e :: es) X.env = (false, eval e X.env) :: starEach es X.env := by rfl) (hpl : (backTo pos (starEach es X.env)).any (·.1) = false := by rfl) :
    PE X (.Call (.Name x p) (e :: es) [] pos) (tE A W (callG n g fo)) := by
  refine ⟨fun pins s σ H Q I h => ?_⟩
  have h2 := call_of h
  refine wpAny_Call_Name_kw (ld_glob I hg hm ?_ hdb)
  refine PySem.W.callWith_K (h₀ := X.base) I.ok.mod.kin hk (wpAny_mono (ha.run pos pins s σ H _ I h2) (fun us s1 ⟨vs, H1, I1, r, q⟩ => ⟨I1.kIn, ?_⟩) fun _ _ z => z) he hpl
  have hl : us.length = ps.length := by rw [← r.length]; exact F.len _ _ _ _ q
  have b0 := hb s1 us I1.kIn (by simpa using hl)
  simp only [List.append_nil] at b0
  exact run_G F hr (fun e s' z => tk e s' (XE.of_call I1 (fun _ _ _ y => y) z)) I1 (args := ⟨us, []⟩) b0 r q
/-- f() -/
theorem pe_cG0 (F : FnG X.prog X.w X.K X.mg X.base (L2.CX X.prog X.w) k f fd ps (spF A.w n g)) (hr : RoomG k X.A) (hg : Gl X x) (hm : X.mg x = some (.ref f)) (hk : PySem.W.keepIn X.K (.ref f) = true) (hb : Binds X.K fd ps []) (tk : Takes X W)
    (hdb : (x == ("__debug__" : Str)) = false := by decide) : PE X (.Call (.Name x p) [] [] pos) (tE A W (callG n g osNil)) := by
  refine ⟨fun pins s σ H Q I h => ?_⟩
  obtain ⟨r, G, kk, m⟩ := call_of h
  have q := m [] G H kk Step.refl rfl
  refine wpAny_Call_Name_kw (ld_glob I hg hm ?_ hdb)
  have b0 := hb s [] I.kIn (by have := F.len _ _ _ _ q; simpa using this)
  exact PySem.W.callWith_K0 I.kIn hk (run_G F hr (fun e s' z => tk e s' (XE.of_call I (fun _ _ _ y => y) z)) I (args := ⟨[], []⟩) b0 .nil q)
/-- the values of positional arguments and of keywords, bound -/
theorem run_GK {pins : List (Addr × Obj)} {σ : L2.St} {H : Hp} {s : Shared} {Q : VK} {us ws : List Value} {vs zs ys : List V} {ix : List Nat} {m : Nat} (F : FnG X.prog X.w X.K X.mg X.base (L2.CX X.prog X.w) k f fd ps (spF A.w n g)) (hr : RoomG k X.A)
    (hb : BindK X.K fd ps ks ix m) (tk : Takes X W) (I : Inv X pins σ H s) (r : Vals vs us) (rz : Vals zs ws) (hm : us.length = m) (hw : ws.length = ks.length) (hp : pick ix (vs ++ zs) = some ys) (h : spF A.w n g ys H Q fun cls d H2 => W cls d σ H2) :
    wpAny (model X.prog X.w) X.A (call (.ref f) us (ks.zip ws)) (EP X pins σ Q) X.xe s := by
  obtain ⟨us', e, rv⟩ := vals_pick (r.append rz) hp
  have hl : us'.length = ps.length := by rw [← rv.length]; exact F.len _ _ _ _ h
  exact run_G F hr (fun e s' z => tk e s' (XE.of_call I (fun _ _ _ y => y) z)) I (args := ⟨us, ks.zip ws⟩) (hb.to s us ws us' I.kIn hm e hl hw) rv h
/-- f(e, .., k = v, ..) -/
theorem pe_cGK {ix : List Nat} (F : FnG X.prog X.w X.K X.mg X.base (L2.CX X.prog X.w) k f fd ps (spF A.w n g)) (hr : RoomG k X.A) (hg : Gl X x) (hm : X.mg x = some (.ref f)) (hk : PySem.W.keepIn X.K (.ref f) = true)
    (hb : BindK X.K fd ps ks ix (es.length + 1)) (tk : Takes X W)
    (ha : PA X (e :: es) (tOs A W fo)) (hkw : PK X kws (tOs A W fk)) (hall : (backToKw pos (keywordEach kws X.env)).all (·.1.isSome) = true := by rfl) (hks : (backToKw pos (keywordEach kws X.env)).filterMap (·.1) = ks := by rfl)
    (hdb : (x == ("__debug__" : Str)) = false := by decide) (he : starEach (e :: es) X.env = (false, eval e X.env) :: starEach es X.env := by rfl)
    (hpl : ((backTo pos (starEach (e :: es) X.env)).any (·.1) || (backToKw pos (keywordEach kws X.env)).any (·.1.isNone)) = false := by rfl) :
    PE X (.Call (.Name x p) (e :: es) kws pos) (tE A W (callG n g (osPick ix (osApp (osN (es.length + 1) fo) (osN ks.length fk))))) := by
  refine ⟨fun pins s σ H Q I h => ?_⟩
  have h2 := os_N (os_app (os_pick (call_of h)))
  refine wpAny_Call_Name_kw (ld_glob I hg hm ?_ hdb)
  refine PySem.W.callWith_KW (h₀ := X.base) I.ok.mod.kin hk hall (wpAny_mono (ha.run pos pins s σ H _ I h2) (fun us s1 ⟨vs, H1, I1, r, l1, q⟩ => ?_) fun _ _ z => z) hpl he
  refine wpAny_mono (hkw.run pos pins s1 σ H1 _ I1 (os_N q)) (fun ws s2 ⟨zs, H2, I2, rz, l2, ys, hp, q2⟩ => ⟨I2.kIn, ?_⟩) fun _ _ z => z
  rw [hks]
  exact run_GK (us := us) F hr hb tk I2 r rz (by rw [← r.length]; exact l1) (by rw [← rz.length]; exact l2) hp q2
/-- f(k = v, ..) -/
theorem pe_cGK0 {ix : List Nat} (F : FnG X.prog X.w X.K X.mg X.base (L2.CX X.prog X.w) k f fd ps (spF A.w n g)) (hr : RoomG k X.A) (hg : Gl X x) (hm : X.mg x = some (.ref f)) (hk : PySem.W.keepIn X.K (.ref f) = true)
    (hb : BindK X.K fd ps ks ix 0) (tk : Takes X W)
    (hkw : PK X kws (tOs A W fk)) (hall : (backToKw pos (keywordEach kws X.env)).all (·.1.isSome) = true := by rfl) (hks : (backToKw pos (keywordEach kws X.env)).filterMap (·.1) = ks := by rfl)
    (hdb : (x == ("__debug__" : Str)) = false := by decide)
    (hpl : ((backTo pos (starEach [] X.env)).any (·.1) || (backToKw pos (keywordEach kws X.env)).any (·.1.isNone)) = false := by rfl) (hne : eval (.Call (.Name x p) [] kws pos) X.env = (do
      let f ← eval (.Name x p) X.env
      callWith pos f [] (backTo pos (starEach [] X.env)) (backToKw pos (keywordEach kws X.env))) := by rfl) :
    PE X (.Call (.Name x p) [] kws pos) (tE A W (callG n g (osPick ix (osN ks.length fk)))) := by
  refine ⟨fun pins s σ H Q I h => ?_⟩
  have h2 := os_N (os_pick (call_of h))
  rw [hne]
  refine wpAny_bind (ld_glob I hg hm ?_ hdb)
  refine PySem.W.callWith_KW0 (h₀ := X.base) I.ok.mod.kin hk hall (wpAny_mono (hkw.run pos pins s σ H _ I h2) (fun ws s2 ⟨zs, H2, I2, rz, l2, ys, hp, q2⟩ => ⟨I2.kIn, ?_⟩) fun _ _ z => z) hpl
  rw [hks]
  exact run_GK F hr hb tk I2 .nil rz rfl (by rw [← rz.length]; exact l2) hp q2
end
end M
/-! MPH: a law's end: what stands behind the top, the call of the law with its script. -/
namespace M
open PySem L2 PyProof.Rows

/-- the heap that tracks the script at a, where the written part doesn't hold it -/
def onlyAt (K : PySem.W.Frag) (a : Addr) (o : Obj) (xs : List V) : Hp := fun b => if b = a ∧ K.lookup a = none then some (.frz o (.lst xs)) else none
theorem onlyAt_some {K : PySem.W.Frag} {a b : Addr} {o : Obj} {xs : List V} {u : HO} (h : onlyAt K a o xs b = some u) : b = a ∧ K.lookup a = none ∧ u = .frz o (.lst xs) := by
  unfold onlyAt at h
  split at h
  · rename_i c; cases h; exact ⟨c.1, c.2, rfl⟩
  · cases h
theorem onlyAt_none {K : PySem.W.Frag} {a b : Addr} {o : Obj} {xs : List V} (h : b ≠ a ∨ K.lookup a ≠ none) : onlyAt K a o xs b = none := by
  unfold onlyAt
  rw [if_neg]
  rintro ⟨h1, h2⟩
  exact h.elim (fun z => z h1) fun z => z h2

section
variable {P : Program} {w : World} {K : PySem.W.Frag} {mg mb : Str → Option Value} {CM : Str → Option Addr} {k : Nat} {fa a : Addr} {fd : FuncData} {x : Str} {g : GF} {st : Shared} {us : List Value} {ns : List Int}
theorem law_run (kin : K.In st.heap) (gl : st.heap.Ns mainGlobals mg) (bl : st.heap.Ns builtinsNs mb) (bb : ∀ y : Str, y ≠ "__name__" → mb y = bootBuiltins y) (nl : st.heap.NoLimit) (hg : st.gens = #[])
    (ha : st.heap.get? a = some { cls := .type "list", data := .seq us.toArray }) (hi : IntsAre us ns) (sz : ns.length ≤ sizeLine) (hr : RoomG k callerA)
    (F : ∀ base : Heap, K.In base → base.Ns mainGlobals mg → FnG P w K mg base (L2.CX P w) k fa fd [x] (spF ⟨K, CM⟩ 1 g)) (hbind : ∀ (s : Shared) (u : Value), BindsTo s fd ⟨[u], []⟩ [(x, u)])
    (hv : g [(false, .scr ns)] = .ok false (.bl true) none) :
    codeAny (model P w) callerA (.call (.ref fa) ⟨[.ref a], []⟩) (fun r s' => r = .ok (.ret (.bool true)) ∧ OldK st.heap s'.heap ∧ s'.os = st.os ∧ AllBare s'.gens) st := by
  have ln := hi.length
  have rv := vals_ints hi
  obtain ⟨ob, hob⟩ : ∃ ob : Obj, ob = { cls := .type "list", data := .seq us.toArray } := ⟨_, rfl⟩
  obtain ⟨H, hH⟩ : ∃ H : Hp, H = onlyAt K a ob (ns.map V.int) := ⟨_, rfl⟩
  have tracked : ∀ {b : Addr} {u : HO}, H b = some u → b = a ∧ K.lookup a = none ∧ u = .frz ob (.lst (ns.map V.int)) := fun {b u} e => by rw [hH] at e; exact onlyAt_some e
  have untracked : ∀ {b : Addr}, (b ≠ a ∨ K.lookup a ≠ none) → H b = none := fun {b} e => by rw [hH]; exact onlyAt_none e
  have hok : HOk P w H st.heap := fun b u e => by
    obtain ⟨rfl, _, rfl⟩ := tracked e
    rw [hob]
    exact ⟨ha, by rw [List.length_map]; exact sz, us, _, rv, ha⟩
  have sq : SqL K H a (ns.map V.int) := by
    cases hk : K.lookup a with
    | none => exact .inl (.inr ⟨ob, by rw [hH]; unfold onlyAt; rw [if_pos ⟨rfl, hk⟩]⟩)
    | some o =>
      have e := kin a o hk
      rw [ha] at e
      cases e
      exact .inr ⟨_, us.toArray, _, hk, rfl, rfl, rfl, by rw [List.size_toArray, ln]; exact sz, by simpa using rv⟩
  -- what isn't tracked stands in the base
  have nodict : ∀ {b : Addr} {o : Obj} {es : Array DictEntry} {ep : Nat}, st.heap.get? b = some o → o.data = .dict es ep → H b = none := fun {b o es ep} e d => by
    cases q : H b with
    | none => rfl
    | some u =>
      obtain ⟨rfl, _, _⟩ := tracked q
      rw [ha] at e; cases e
      have d' : Data.seq us.toArray _ = Data.dict es ep := d
      cases d'
  have ns' : ∀ {b : Addr} {m : Str → Option Value}, st.heap.Ns b m → (hidT st.heap H).Ns b m := fun {b m} ⟨o, es, ep, e, d, r⟩ => ⟨o, es, ep, hidT_get e (nodict e d), d, r⟩
  have kb : K.In (hidT st.heap H) := fun b o e => hidT_get (kin b o e) (by
    cases q : H b with
    | none => rfl
    | some u =>
      obtain ⟨rfl, z, _⟩ := tracked q
      rw [z] at e; cases e)
  have md : Mod K mg (hidT st.heap H) := ⟨kb, ns' gl, ⟨mb, ns' bl, bb⟩, let ⟨mc, h1, h2⟩ := nl; ⟨mc, ns' h1, h2⟩⟩
  have nof : ∀ {b : Addr}, b ∉ frs [] := fun {b} z => absurd (show b ∈ ([] : List Addr) from z) (by simp)
  have e0 : Env0 P w K mg (hidT st.heap H) callerA [] st H := ⟨rfl, md, fun b o e => of_hidT e, Nat.le_of_eq (hidT_size _ _), trivial, fun b hb => absurd hb nof, hok, .of_eq hg⟩
  have pre : spF ⟨K, CM⟩ 1 g [.ref a] H (fun v _ => v = .bl true) (fun _ _ _ => False) := by
    refine ⟨H, [(false, .scr ns)], rfl, Le.refl _, ⟨_, [], rfl, ?_, rfl⟩, by simp [lents], ?_⟩
    · rw [Rep]; exact ⟨a, rfl, sq⟩
    · rw [hv]; exact fun u G' H' _ nr => rep_bl.mp (show Rep ⟨K, CM⟩ G' (.bl true) u from nr)
  refine codeAny_mono ((F _ kb (ns' gl)).go callerA [] st H ⟨[.ref a], []⟩ [.ref a] [.ref a] _ _ hr e0 (hbind st (.ref a)) (.cons rfl .nil) pre) fun r s' h => ?_
  match r, h with
  | .error e, h =>
    obtain ⟨_, _, _, _, _, _, _, _, _, _, _, _, z⟩ := h
    exact z.elim
  | .ok .next, h => exact False.elim h
  | .ok .brk, h => exact False.elim h
  | .ok .cont, h => exact False.elim h
  | .ok (.ret u), h =>
    obtain ⟨v, H', os, bare, un, hok', r', q⟩ := h
    obtain rfl : v = .bl true := q
    obtain rfl : u = Value.bool true := r'
    refine ⟨rfl, OldK.of_keep fun b o e => ?_, os, bare⟩
    cases q : H b with
    | none => exact un.keep b o e q nof (by simp)
    | some t =>
      obtain ⟨rfl, _, rfl⟩ := tracked q
      have z := (hok b _ q).1
      rw [e] at z; cases z
      exact (hok' b _ (un.frzs b ob _ q)).1
end

/-- the goal that a head leaves, from the law's promise -/
theorem walk_end {l : PySem.W.OpenLaw} {n k : Nat} {q : Program} {loose : List Str} {XP : (Str → Option Value) → Heap → Prop} {YP : World → Heap → Prop} {d : DefRec} {x : Str}
    (hn : l.most = some n) (hn2 : n ≤ sizeLine) (hdf : d.params.defaults = []) (hr : RoomG k callerA)
    (F : ∀ (w : World) (mg : Str → Option Value) (fa : Addr) (h : Heap), YP w h → h.Ns mainGlobals mg → mg d.name = some (.ref fa) →
      ∃ (K : PySem.W.Frag) (CM : Str → Option Addr) (fd : FuncData) (g : GF), K.In h ∧ (∀ (s : Shared) (u : Value), BindsTo s fd ⟨[u], []⟩ [(x, u)]) ∧ (∀ ns : List Int, ns.length ≤ n → g [(false, .scr ns)] = .ok false (.bl true) none) ∧
        ∀ base : Heap, K.In base → base.Ns mainGlobals mg → FnG l.prog w K mg base (L2.CX l.prog w) k fa fd [x] (spF ⟨K, CM⟩ 1 g)) :
    PySem.W.WalkO q loose XP YP l.row.toRowW d [] (fun f vs => PySem.call f vs) := by
  refine Att.attach_call hn hdf fun w s₀ st mg mb fa o pm cd doc a us ns G Y ho hd hcd hmg hobj hints hlen hg => ?_
  obtain ⟨K, CM, fd, g, kin, hb, hv, hF⟩ := F w mg fa _ Y G.T.g hmg
  exact law_run kin G.T.g G.T.b G.T.builtins G.T.nolimit hg hobj hints (Nat.le_trans hlen hn2) hr hF hb (hv ns hlen)
theorem roomG_top : RoomG 12 callerA := ⟨⟨rfl, by decide, by decide⟩, rfl⟩
end M
/-! MPX: comprehensions in short, defs as they stand behind the top. -/
namespace M
open PySem L2

section
variable {X : Cx} {A : Act} {W : WX} {elt tg iter : Expr} {ifs : List Expr} {scope : Scope} {own : List (Str × Nat)} {pos spos : Pos} {fi : IF} {t : TF} {c : BF} {f : EF} {st' sl : List Nat}
abbrev W0 : WX := fun _ _ _ _ => False
theorem PTs.imp {ifs : List Expr} {t t' : TT} (h : PTs X ifs t) (hi : ∀ σ H Q, t' σ H Q → t σ H Q) : PTs X ifs t' := ⟨fun pins s σ H Q I q => h.run pins s σ H Q I (hi _ _ _ q)⟩
theorem pts_no : PTs X [] (tBo A W yesB) := PTs.imp pts_nil fun σ H Q ⟨r, G, k, m⟩ => m G H k Step.refl
theorem pts_1 {x : Expr} (h : PT X x (tBo A W c)) : PTs X [x] (tBo A W c) := pts_one h
theorem pe_lcM (hc : X.calm = true) (hN : X.N.Nodup) (hi : PI X tg iter (tIt A W fi)) (ok : BlkOk X.N X.env.scope scope own)
    (hg : ∀ (s : Shared) (H : Hp) (C : Addr) (cl : List (Str × Addr)) (fp : List Addr), PG (X.blk s H scope (compEnvC scope cl C X.env) fp) tg (tTg A st' t))
    (ht : ∀ (s : Shared) (H : Hp) (C : Addr) (cl : List (Str × Addr)) (fp : List Addr), PTs (X.blk s H scope (compEnvC scope cl C X.env) fp) ifs (tBo A W0 c))
    (he : ∀ (s : Shared) (H : Hp) (C : Addr) (cl : List (Str × Addr)) (fp : List Addr), PE (X.blk s H scope (compEnvC scope cl C X.env) fp) elt (tE A W0 f))
    (tok : TOk st' t) (hs' : ∀ j ∈ st', j ∈ sl) (hio : ∀ i ∈ A.io, i ∉ sl) (hsl : own.map (·.2) = sl := by rfl) (hs : ∀ x, foldedSetIterable iter X.env x = pure x := by intro _; rfl) :
    PE X (.ListComp elt [⟨tg, iter, ifs, 0⟩] scope pos) (tE A W (lc fi t c f sl)) := by
  subst hsl
  exact PE.imp (pe_lc hc hN hi ok hg ht (fun s H C cl fp => pe_frz (he s H C cl fp)) hs) fun _ _ _ q => lc_of tok hs' hio q
/-- name = [..] on one line -/
theorem ps_asgLc {i : Nat} {y : Str} {py : Pos} (hc : X.calm = true) (hN : X.N.Nodup) (hy : X.N[i]? = some y) (hyl : X.env.scope.names.lookup y = some .local) (hyi : i ∉ A.io)
    (hsw : swapsWith (.ListComp elt [⟨tg, iter, ifs, 0⟩] scope pos) (some (.Name y py)) spos.line X.env = pure true) (hi : PI X tg iter (tIt A W fi)) (ok : BlkOk X.N X.env.scope scope own)
    (hg : ∀ (s : Shared) (H : Hp) (C : Addr) (cl : List (Str × Addr)) (fp : List Addr), PG (X.blk s H scope (compEnvC scope cl C X.env) fp) tg (tTg A st' t))
    (ht : ∀ (s : Shared) (H : Hp) (C : Addr) (cl : List (Str × Addr)) (fp : List Addr), PTs (X.blk s H scope (compEnvC scope cl C X.env) fp) ifs (tBo A W0 c))
    (he : ∀ (s : Shared) (H : Hp) (C : Addr) (cl : List (Str × Addr)) (fp : List Addr), PE (X.blk s H scope (compEnvC scope cl C X.env) fp) elt (tE A W0 f))
    (tok : TOk st' t) (hs' : ∀ j ∈ st', j ∈ sl) (hio : ∀ i ∈ A.io, i ∉ sl) (hsl : own.map (·.2) = sl := by rfl) (hs : ∀ x, foldedSetIterable iter X.env x = pure x := by intro _; rfl) :
    PS X (.Assign [.Name y py] (.ListComp elt [⟨tg, iter, ifs, 0⟩] scope pos) spos) (tSt A W (asg i (lc fi t c f sl))) := by
  subst hsl
  exact PS.imp (ps_setLc hc hN hy hyl hsw hi ok hg ht (fun s H C cl fp => pe_frz (he s H C cl fp)) hs) fun D σ H h => by
    obtain ⟨r, G, k, m⟩ := tSt_iff.mp h
    refine lc_of tok hs' hio ⟨r, G, k, ?_⟩
    unfold asg at m
    cases hf : lc fi t c f (own.map (·.2)) r with
    | bad => rw [hf] at m; exact m.elim
    | ex e r' => simp only [hf] at m ⊢; exact m σ
    | ok o v r' => simp only [hf] at m ⊢; exact fun x G' H' R => m _ G' H' (R.ok.store R.tr hyi) R.st.ex
end

/-! ### defs -/
section
variable {P : Program} {w : World} {K : PySem.W.Frag} {mg : Str → Option Value} {base : Heap}
abbrev FunP (K : PySem.W.Frag) (x : Str) (st : Stmt) (f : Addr) (fd : FuncData) : Prop := FunD K x x (defArgs st) (defBody st) (defScope st) [] [] f fd
/-- the def of the module named x keeps its promise g -/
structure DefP (P : Program) (w : World) (K : PySem.W.Frag) (mg : Str → Option Value) (base : Heap) (wd : Wd) (lvl : Nat) (x : Str) (st : Stmt) (ps : List Str) (g : GF) : Prop where
  ex : ∃ f fd, mg x = some (.ref f) ∧ FunP K x st f fd ∧ Binds K fd ps [] ∧ FnG P w K mg base (L2.CX P w) lvl f fd ps (spF wd ps.length g)
theorem def_mk {x : Str} {st : Stmt} {f : Addr} {fd : FuncData} {N ps : List Str} {k : Nat} {wd : Wd} {ios : List Nat} {body : SF} (hm : mg x = some (.ref f)) (F : FunP K x st f fd) (S : FnScope N ps (defScope st))
    (hb : ∀ (cdv : Value) (A : Around) (outer : List PySem.Env) (s : Shared) (H : Hp) (E : XK), RoomG k (A.deeper (PyProof.Rows.envOfC x (defScope st) s.heap.objs.size f cdv)) →
      SV (cxOf (L2.CX P w) P w K mg base N x (defScope st) f cdv A outer s H E) wd ios (defBody st) body)
    (hbind : ∀ (kV doc pm : Value) (an : Option Addr) (cdv ct : Value) (us : List Value), us.length = ps.length → bindArgs (PySem.W.fnOf x x (defArgs st) (defBody st) (defScope st) .none kV doc pm an cdv ct) ⟨us, []⟩ = pure (ps.zip us)) :
    DefP P w K mg base wd (k + 1) x st ps (runDef ios ps.length N.length body) := by
  refine ⟨f, fd, hm, F, FunD.bindsN F hbind, ?_⟩
  obtain ⟨oc, od, dV, kV, doc, pm, an, cdv, ct, osl, e, lk, hcd, hD, _⟩ := F.ex
  have F' : Fun K x x st f fd := by
    refine ⟨⟨oc, od, kV, doc, pm, an, cdv, ct, osl, ?_, lk, hcd⟩, F.kp⟩
    rcases hD with ⟨_, rfl⟩ | ⟨z, _⟩
    · exact e
    · exact absurd rfl z
  exact def_ok F' S hb fun as => .inr rfl
theorem DefP.eqg {wd : Wd} {lvl : Nat} {x : Str} {st : Stmt} {ps : List Str} {g g' : GF} (d : DefP P w K mg base wd lvl x st ps g) (h : ∀ as, g' as = .bad ∨ g' as = g as) : DefP P w K mg base wd lvl x st ps g' := by
  obtain ⟨f, fd, h1, h2, h3, F⟩ := d.ex
  refine ⟨f, fd, h1, h2, h3, F.weak fun vs H Q E ⟨G, as, a1, a2, a3, a4, m⟩ => ⟨G, as, a1, a2, a3, a4, ?_⟩⟩
  rcases h as with e | e
  · rw [e] at m; exact m.elim
  · rw [e] at m; exact m
end
section
variable {X : Cx} {A : Act} {W : WX} {lvl : Nat} {x : Str} {st : Stmt} {ps ks : List Str} {g : GF} {p pos : Pos} {e : Expr} {es : List Expr} {kws : List Keyword} {fo fk : OsF}
theorem pe_cD {n : Nat} (d : DefP X.prog X.w X.K X.mg X.base A.w lvl x st ps g) (hr : RoomG lvl X.A) (hg : Gl X x) (tk : Takes X W) (ha : PA X (e :: es) (tOs A W fo)) (hn : ps.length = n := by rfl) (hdb : (x == ("__debug__" : Str)) = false := by decide)
    (he : starEach (e :: es) X.env = (false, eval e X.env) :: starEach es X.env := by rfl) (hpl : (backTo pos (starEach es X.env)).any (·.1) = false := by rfl) : PE X (.Call (.Name x p) (e :: es) [] pos) (tE A W (callG n g fo)) := by
  subst hn
  obtain ⟨f, fd, hm, F, hb, G⟩ := d.ex
  exact pe_cG G hr hg hm F.kp hb tk ha hdb he hpl
theorem pe_cD0 {n : Nat} (d : DefP X.prog X.w X.K X.mg X.base A.w lvl x st ps g) (hr : RoomG lvl X.A) (hg : Gl X x) (tk : Takes X W) (hn : ps.length = n := by rfl) (hdb : (x == ("__debug__" : Str)) = false := by decide) : PE X (.Call (.Name x p) [] [] pos) (tE A W (callG n g osNil)) := by
  subst hn
  obtain ⟨f, fd, hm, F, hb, G⟩ := d.ex
  exact pe_cG0 G hr hg hm F.kp hb tk hdb
/-- how a call with keywords binds: seen of the text -/
def KwB (x : Str) (st : Stmt) (ps ks : List Str) (ix : List Nat) (n : Nat) : Prop := ∀ (kV doc pm : Value) (an : Option Addr) (cdv ct : Value) (us ws zs : List Value), us.length = n → ws.length = ks.length → pick ix (us ++ ws) = some zs → zs.length = ps.length →
  bindArgs (PySem.W.fnOf x x (defArgs st) (defBody st) (defScope st) .none kV doc pm an cdv ct) ⟨us, ks.zip ws⟩ = pure (ps.zip zs)
theorem bindK_of {K : PySem.W.Frag} {f : Addr} {fd : FuncData} {ix : List Nat} {n : Nat} (F : FunP K x st f fd) (h : KwB x st ps ks ix n) : BindK K fd ps ks ix n := by
  obtain ⟨oc, od, dV, kV, doc, pm, an, cdv, ct, osl, rfl, lk, hcd, hD, _⟩ := F.ex
  rcases hD with ⟨_, rfl⟩ | ⟨z, _⟩
  · exact ⟨fun s us ws zs _ h1 h2 h3 h4 => .of_eq (h kV doc pm an cdv ct us ws zs h1 h4 h2 h3)⟩
  · exact absurd rfl z
theorem pe_cDK {n n1 n2 : Nat} {ix : List Nat} (d : DefP X.prog X.w X.K X.mg X.base A.w lvl x st ps g) (hr : RoomG lvl X.A) (hg : Gl X x) (tk : Takes X W) (hb : KwB x st ps ks ix (es.length + 1)) (ha : PA X (e :: es) (tOs A W fo)) (hkw : PK X kws (tOs A W fk)) (hn : ps.length = n := by rfl) (hn1 : es.length + 1 = n1 := by rfl) (hn2 : ks.length = n2 := by rfl)
    (hall : (backToKw pos (keywordEach kws X.env)).all (·.1.isSome) = true := by rfl) (hks : (backToKw pos (keywordEach kws X.env)).filterMap (·.1) = ks := by rfl)
    (hdb : (x == ("__debug__" : Str)) = false := by decide) (he : starEach (e :: es) X.env = (false, eval e X.env) :: starEach es X.env := by rfl)
    (hpl : ((backTo pos (starEach (e :: es) X.env)).any (·.1) || (backToKw pos (keywordEach kws X.env)).any (·.1.isNone)) = false := by rfl) :
    PE X (.Call (.Name x p) (e :: es) kws pos) (tE A W (callG n g (osPick ix (osApp (osN n1 fo) (osN n2 fk))))) := by
  subst hn hn1 hn2
  obtain ⟨f, fd, hm, F, _, G⟩ := d.ex
  exact pe_cGK G hr hg hm F.kp (bindK_of F hb) tk ha hkw hall hks hdb he hpl
theorem pe_cDK0 {n n2 : Nat} {ix : List Nat} (d : DefP X.prog X.w X.K X.mg X.base A.w lvl x st ps g) (hr : RoomG lvl X.A) (hg : Gl X x) (tk : Takes X W) (hb : KwB x st ps ks ix 0) (hkw : PK X kws (tOs A W fk)) (hn : ps.length = n := by rfl) (hn2 : ks.length = n2 := by rfl)
    (hall : (backToKw pos (keywordEach kws X.env)).all (·.1.isSome) = true := by rfl) (hks : (backToKw pos (keywordEach kws X.env)).filterMap (·.1) = ks := by rfl)
    (hdb : (x == ("__debug__" : Str)) = false := by decide)
    (hpl : ((backTo pos (starEach [] X.env)).any (·.1) || (backToKw pos (keywordEach kws X.env)).any (·.1.isNone)) = false := by rfl) (hne : eval (.Call (.Name x p) [] kws pos) X.env = (do
      let f ← eval (.Name x p) X.env
      callWith pos f [] (backTo pos (starEach [] X.env)) (backToKw pos (keywordEach kws X.env))) := by rfl) :
    PE X (.Call (.Name x p) [] kws pos) (tE A W (callG n g (osPick ix (osN n2 fk)))) := by
  subst hn hn2
  obtain ⟨f, fd, hm, F, _, G⟩ := d.ex
  exact pe_cGK0 G hr hg hm F.kp (bindK_of F hb) tk hkw hall hks hdb hpl hne
end
/-- constants of the text and of the module -/
theorem pe_ci {X : Cx} {A : Act} {W : WX} {i : Int} {j : Nat} {pos : Pos} : PE X (.Constant (.int i) j pos) (tE A W (cst (.int i))) := pe_cst pe_int fun _ => rep_int.mpr rfl
theorem pe_cs {X : Cx} {A : Act} {W : WX} {x : Str} {j : Nat} {pos : Pos} (hx : x.length ≤ sizeLine := by decide +kernel) : PE X (.Constant (.str x) j pos) (tE A W (cst (.str x))) := pe_cst pe_str fun _ => rep_str.mpr ⟨rfl, hx⟩
theorem pe_gs {X : Cx} {A : Act} {W : WX} {x z : Str} {pos : Pos} (hg : Gl X x) (hm : ∃ t, X.mg x = some (.str z t)) (hz : z.length ≤ sizeLine := by decide +kernel) (hd : (x == ("__debug__" : Str)) = false := by decide) : PE X (.Name x pos) (tE A W (cst (.str z))) := by
  obtain ⟨t, h⟩ := hm
  exact pe_cst (pe_glob (v := .str z) hg h ⟨t, rfl⟩ hd) fun _ => rep_str.mpr ⟨rfl, hz⟩
theorem pe_gi {X : Cx} {A : Act} {W : WX} {x : Str} {z : Int} {pos : Pos} (hg : Gl X x) (hm : ∃ t, X.mg x = some (.int z t)) (hd : (x == ("__debug__" : Str)) = false := by decide) : PE X (.Name x pos) (tE A W (cst (.int z))) := by
  obtain ⟨t, h⟩ := hm
  exact pe_cst (pe_glob (v := .int z) hg h ⟨t, rfl⟩ hd) fun _ => rep_int.mpr rfl
theorem pe_tyN {X : Cx} {A : Act} {W : WX} {x : Str} {T : String} {pos : Pos} (hg : Gl X x) (hm : X.mg x = none) (hv : bootBuiltins x = some (.type T)) (hn : x ≠ "__name__" := by decide) (hd : (x == ("__debug__" : Str)) = false := by decide) : PE X (.Name x pos) (tE A W (cst (.ty T))) :=
  pe_cst (pe_bltn hg hm hv (v := .ty T) rfl hn hd) fun _ => rep_ty.mpr rfl
/-- a name as an operand that is lent -/
theorem po_N {X : Cx} {A : Act} {W : WX} {e : Expr} {i : Nat} (h : PE X e (tVar i)) : PE X e (tO A W (oS i)) := po_S h

theorem Cal.blk {X : Cx} {w : Wd} {s : Shared} {H : Hp} {scope : Scope} {ce : PySem.Env} {fp : List Addr} (c : Cal X w) : Cal (X.blk s H scope ce fp) w := ⟨c.K, c.calm, c.un, c.gs⟩
theorem cal_of {P : Program} {w : World} {K : PySem.W.Frag} {mg : Str → Option Value} {base : Heap} {N : List Str} {qual : Str} {scope : Scope} {f : Addr} {cdv : Value} {A : Around} {outer : List PySem.Env} {s : Shared} {H : Hp} {E : XK} {k : Nat} {CM : Str → Option Addr}
    (hr : RoomG k (A.deeper (PyProof.Rows.envOfC qual scope s.heap.objs.size f cdv))) : Cal (cxOf (L2.CX P w) P w K mg base N qual scope f cdv A outer s H E) ⟨K, CM⟩ :=
  ⟨rfl, rfl, by have := hr.room.un; show (A.deeper (PyProof.Rows.envOfC qual scope s.heap.objs.size f cdv)).units + 100 < cLine; omega, hr.gs⟩
theorem tl_nil : ∀ (vs : List Val) (r r' : Env), tgNil vs r = some r' → vs.length = 0 := fun vs r r' h => by
  cases vs with
  | nil => rfl
  | cons _ _ => cases h
theorem tl_cons {n : Nat} {t : TF} {u : List Val → Env → Option Env} (hu : ∀ (vs : List Val) (r r' : Env), u vs r = some r' → vs.length = n) : ∀ (vs : List Val) (r r' : Env), tgCons t u vs r = some r' → vs.length = n + 1 := fun vs r r' h => by
  cases vs with
  | nil => cases h
  | cons v vs =>
    simp only [tgCons] at h
    cases ht : t v r with
    | none => simp only [ht] at h; cases h
    | some r1 => simp only [ht] at h; simp [hu vs r1 r' h]
theorem bt_str : bootBuiltins "str" = some (.type "str") := by decide +kernel
theorem bt_int : bootBuiltins "int" = some (.type "int") := by decide +kernel
theorem bt_list : bootBuiltins "list" = some (.type "list") := by decide +kernel
theorem bt_tuple : bootBuiltins "tuple" = some (.type "tuple") := by decide +kernel
theorem bt_dict : bootBuiltins "dict" = some (.type "dict") := by decide +kernel
theorem bt_bool : bootBuiltins "bool" = some (.type "bool") := by decide +kernel
theorem bf_isinstance : bootBuiltins "isinstance" = some (.builtin "isinstance") := by decide +kernel
theorem bf_len : bootBuiltins "len" = some (.builtin "len") := by decide +kernel
theorem bf_abs : bootBuiltins "abs" = some (.builtin "abs") := by decide +kernel
theorem bf_repr : bootBuiltins "repr" = some (.builtin "repr") := by decide +kernel
theorem bf_all : bootBuiltins "all" = some (.builtin "all") := by decide +kernel
theorem bf_any : bootBuiltins "any" = some (.builtin "any") := by decide +kernel
theorem bf_max : bootBuiltins "max" = some (.builtin "max") := by decide +kernel
theorem bf_min : bootBuiltins "min" = some (.builtin "min") := by decide +kernel
def Pneg : List Val → Option (Bool × Val)
  | [.int i] => some (false, .int (-i))
  | _ => none
theorem pe_neg {X : Cx} {A : Act} {W : WX} {x : Expr} {fo : OF} {pos : Pos} (h : PE X x (tO A W fo)) : PE X (.UnaryOp .USub x pos) (tE A W (prim Pneg (osCons fo osNil))) :=
  PE.imp (pe_un un_neg h) fun σ H Q q => by
    have q1 := prim_os1 q
    obtain ⟨r, G, k, m⟩ := q1
    refine ⟨r, G, k, ?_⟩
    cases hf : fo r with
    | bad => simp only [hf] at m
    | ex e r' => simp only [hf] at m ⊢; exact m
    | ok h r1 =>
      simp only [hf] at m ⊢
      intro x G1 H1 k1 st1 t1
      obtain ⟨G2, vs, o, z, le, rr, hp, q2⟩ := m x G1 H1 k1 st1 t1
      unfold Pneg at hp
      split at hp
      · obtain ⟨y, e, r1⟩ := rreps_one rr
        cases e; cases hp
        obtain rfl := rrep_int r1
        exact ⟨_, rfl, int_new le q2⟩
      · cases hp
/-- the promise of the def at f, found by its name -/
theorem DefP.at {P : Program} {w : World} {K : PySem.W.Frag} {mg : Str → Option Value} {base : Heap} {wd : Wd} {lvl k : Nat} {x : Str} {st : Stmt} {ps : List Str} {g : GF} {f : Addr} {fd : FuncData} (d : DefP P w K mg base wd lvl x st ps g) (hm : mg x = some (.ref f)) (F : FunP K x st f fd) (hk : lvl ≤ k) :
    FnG P w K mg base (L2.CX P w) k f fd ps (spF wd ps.length g) := by
  obtain ⟨f', fd', hm', F', _, G⟩ := d.ex
  rw [hm] at hm'
  cases hm'
  obtain ⟨_, _, _, _, _, _, _, _, _, _, _, l1, _⟩ := F.ex
  obtain ⟨_, _, _, _, _, _, _, _, _, _, _, l2, _⟩ := F'.ex
  rw [l1] at l2
  cases l2
  exact G.up hk
end M
/-! MPW: what comes behind: the combinators read from the left, each with what is wished behind it. -/
namespace M
open PySem L2

def wE (f : EF) (r : Env) (Q : ER → Prop) : Prop := Q (f r)
def wO (f : OF) (r : Env) (Q : OR → Prop) : Prop := Q (f r)
def wOs (f : OsF) (r : Env) (Q : OsR → Prop) : Prop := Q (f r)
def wB (f : BF) (r : Env) (Q : BR → Prop) : Prop := Q (f r)
def wA (f : AF) (r : Env) (Q : AR → Prop) : Prop := Q (f r)
def wI (f : IF) (r : Env) (Q : IR → Prop) : Prop := Q (f r)
def wP (f : PF) (r : Env) (Q : PR → Prop) : Prop := Q (f r)
def wS (f : SF) (r : Env) (Q : SR → Prop) : Prop := Q (f r)
def wD (l : List (EF × EF)) (r : Env) (Q : DR → Prop) : Prop := Q (dspL l r)
def wG (g : GF) (as : List (Bool × Val)) (Q : GR → Prop) : Prop := Q (g as)
def wL (t : TF) (b : SF) (vs : List Val) (r : Env) (Q : SR → Prop) : Prop := Q (forL t b vs r)
def wC (t : TF) (c : BF) (f : EF) (sl : List Nat) (vs acc : List Val) (r : Env) (Q : AR → Prop) : Prop := Q (lcL t c f sl vs acc r)
def wT (t : Option Env) (Q : Option Env → Prop) : Prop := Q t
theorem of_wE {f : EF} {r : Env} {Q : ER → Prop} (h : wE f r Q) : Q (f r) := h

section
variable {r : Env} {i j n : Nat} {v : Val} {f f' : EF} {fo fo' : OF} {fs fs' : OsF} {c c' : BF} {g : AF} {b b' : SF} {t : TF}
/-! expressions -/
theorem wE_cst {Q : ER → Prop} : wE (cst v) r Q = Q (.ok false v r) := rfl
def kvar (i : Nat) (r : Env) (Q : ER → Prop) : Option Slot → Prop
  | some (some (false, v)) => Q (.ok false v r)
  | some (some (true, v)) => Q (.ok false v (r.set i (some (false, v))))
  | _ => Q .bad
theorem wE_var {Q : ER → Prop} : wE (var i) r Q = kvar i r Q r[i]? := by
  unfold wE var
  rcases r[i]? with _ | _ | ⟨_ | _, v⟩ <;> rfl
def kmv (i : Nat) (r : Env) (Q : ER → Prop) : Option Slot → Prop
  | some (some (o, v)) => Q (.ok o v (r.set i none))
  | _ => Q .bad
theorem wE_mv {Q : ER → Prop} : wE (mv i) r Q = kmv i r Q r[i]? := by
  unfold wE mv
  rcases r[i]? with _ | _ | ⟨o, v⟩ <;> rfl
def kfrz (Q : ER → Prop) : ER → Prop
  | .ok _ v r' => Q (.ok false v r')
  | .ex e r' => Q (.ex e r')
  | .bad => Q .bad
theorem wE_frz {Q : ER → Prop} : wE (frz f) r Q = wE f r (kfrz Q) := by unfold wE frz; cases f r <;> rfl
def koV (Q : OR → Prop) : ER → Prop
  | .ok o v r' => Q (.ok (.tmp o v) r')
  | .ex e r' => Q (.ex e r')
  | .bad => Q .bad
theorem wO_V {Q : OR → Prop} : wO (oV f) r Q = wE f r (koV Q) := by unfold wO wE oV; cases f r <;> rfl
def koS (i : Nat) (r : Env) (Q : OR → Prop) : Option Slot → Prop
  | some (some _) => Q (.ok (.sl i) r)
  | _ => Q .bad
theorem wO_S {Q : OR → Prop} : wO (oS i) r Q = koS i r Q r[i]? := by
  unfold wO oS
  rcases r[i]? with _ | _ | _ <;> rfl
theorem wOs_nil {Q : OsR → Prop} : wOs osNil r Q = Q (.ok [] r) := rfl
def kcons2 (h : Hd) (Q : OsR → Prop) : OsR → Prop
  | .ok hs r2 => Q (.ok (h :: hs) r2)
  | .ex e r2 => Q (.ex e r2)
  | .bad => Q .bad
def kcons (fs : OsF) (Q : OsR → Prop) : OR → Prop
  | .ok h r1 => wOs fs r1 (kcons2 h Q)
  | .ex e r1 => Q (.ex e r1)
  | .bad => Q .bad
theorem wOs_cons {Q : OsR → Prop} : wOs (osCons fo fs) r Q = wO fo r (kcons fs Q) := by
  unfold wOs wO osCons
  cases fo r with
  | ok h r1 => simp only [kcons, wOs]; cases fs r1 <;> rfl
  | _ => rfl
def kp2 (Q : ER → Prop) (r : Env) : Option (Bool × Val) → Prop
  | some (o, z) => Q (.ok o z r)
  | none => Q .bad
def kp1 (P : List Val → Option (Bool × Val)) (Q : ER → Prop) (r : Env) : Option (List Val) → Prop
  | some vs => kp2 Q r (P vs)
  | none => Q .bad
def kprim (P : List Val → Option (Bool × Val)) (Q : ER → Prop) : OsR → Prop
  | .ok hs r1 => kp1 P Q r1 (getAll r1 hs)
  | .ex e r1 => Q (.ex e r1)
  | .bad => Q .bad
theorem wE_prim {P : List Val → Option (Bool × Val)} {Q : ER → Prop} : wE (prim P fs) r Q = wOs fs r (kprim P Q) := by
  unfold wE wOs prim
  cases fs r with
  | ok hs r1 =>
    simp only [kprim]
    cases getAll r1 hs with
    | none => rfl
    | some vs => simp only [kp1]; rcases P vs with _ | ⟨o, z⟩ <;> rfl
  | _ => rfl
/-! tests -/
def ktst (Q : BR → Prop) : ER → Prop
  | .ok _ (.bl b) r' => Q (.ok b r')
  | .ok _ _ _ => Q .bad
  | .ex e r' => Q (.ex e r')
  | .bad => Q .bad
theorem wB_tst {Q : BR → Prop} : wB (tst f) r Q = wE f r (ktst Q) := by
  unfold wB wE tst
  cases f r with
  | ok o v r' => cases v <;> rfl
  | _ => rfl
def kand (c' : BF) (Q : BR → Prop) : BR → Prop
  | .ok true r' => wB c' r' Q
  | x => Q x
theorem wB_and {Q : BR → Prop} : wB (andB c c') r Q = wB c r (kand c' Q) := by
  unfold wB andB
  rcases c r with ⟨_ | _, r'⟩ | _ | _ <;> rfl
def kor (c' : BF) (Q : BR → Prop) : BR → Prop
  | .ok false r' => wB c' r' Q
  | x => Q x
theorem wB_or {Q : BR → Prop} : wB (orB c c') r Q = wB c r (kor c' Q) := by
  unfold wB orB
  rcases c r with ⟨_ | _, r'⟩ | _ | _ <;> rfl
def knot (Q : BR → Prop) : BR → Prop
  | .ok b r' => Q (.ok (!b) r')
  | x => Q x
theorem wB_not {Q : BR → Prop} : wB (notB c) r Q = wB c r (knot Q) := by
  unfold wB notB
  cases c r <;> rfl
theorem wB_yes {Q : BR → Prop} : wB yesB r Q = Q (.ok true r) := rfl
def kandV (f' : EF) (Q : ER → Prop) : ER → Prop
  | .ok _ (.bl true) r' => wE f' r' Q
  | .ok _ (.bl false) r' => Q (.ok false (.bl false) r')
  | .ok _ _ _ => Q .bad
  | x => Q x
theorem wE_andV {Q : ER → Prop} : wE (andV f f') r Q = wE f r (kandV f' Q) := by
  unfold wE andV
  cases f r with
  | ok o v r' =>
    cases v with
    | bl b => cases b <;> rfl
    | _ => rfl
  | _ => rfl
def korV (f' : EF) (Q : ER → Prop) : ER → Prop
  | .ok _ (.bl true) r' => Q (.ok false (.bl true) r')
  | .ok _ (.bl false) r' => wE f' r' Q
  | .ok _ _ _ => Q .bad
  | x => Q x
theorem wE_orV {Q : ER → Prop} : wE (orV f f') r Q = wE f r (korV f' Q) := by
  unfold wE orV
  cases f r with
  | ok o v r' =>
    cases v with
    | bl b => cases b <;> rfl
    | _ => rfl
  | _ => rfl
def knotV (Q : ER → Prop) : ER → Prop
  | .ok _ (.bl b) r' => Q (.ok false (.bl (!b)) r')
  | .ok _ _ _ => Q .bad
  | x => Q x
theorem wE_notV {Q : ER → Prop} : wE (notV f) r Q = wE f r (knotV Q) := by
  unfold wE notV
  cases f r with
  | ok o v r' => cases v <;> rfl
  | _ => rfl
def kite (f f' : EF) (Q : ER → Prop) : BR → Prop
  | .ok true r' => wE f r' Q
  | .ok false r' => wE f' r' Q
  | .ex e r' => Q (.ex e r')
  | .bad => Q .bad
theorem wE_ite {Q : ER → Prop} : wE (ite c f f') r Q = wB c r (kite f f' Q) := by
  unfold wE wB ite
  rcases c r with ⟨_ | _, r'⟩ | _ | _ <;> rfl
/-! displays -/
theorem wA_nil {Q : AR → Prop} : wA asNil r Q = Q (.ok [] r) := rfl
def kac2 (v : Val) (Q : AR → Prop) : AR → Prop
  | .ok vs r2 => Q (.ok (v :: vs) r2)
  | .ex e r2 => Q (.ex e r2)
  | .bad => Q .bad
def kac (g : AF) (Q : AR → Prop) : ER → Prop
  | .ok _ v r1 => wA g r1 (kac2 v Q)
  | .ex e r1 => Q (.ex e r1)
  | .bad => Q .bad
theorem wA_cons {Q : AR → Prop} : wA (asCons f g) r Q = wE f r (kac g Q) := by
  unfold wA wE asCons frz
  cases f r with
  | ok o v r1 => simp only [kac, wA]; cases g r1 <;> rfl
  | _ => rfl
def kstar2 (ds : List Val) (Q : AR → Prop) : AR → Prop
  | .ok vs r2 => Q (.ok (ds ++ vs) r2)
  | .ex e r2 => Q (.ex e r2)
  | .bad => Q .bad
def kstar1 (g : AF) (r : Env) (Q : AR → Prop) : Option (Bool × Val) → Prop
  | some (true, .lst ds) => wA g r (kstar2 ds Q)
  | _ => Q .bad
def kstar (g : AF) (Q : AR → Prop) : ER → Prop
  | .ok _ v r1 => kstar1 g r1 Q (Plist [v])
  | .ex e r1 => Q (.ex e r1)
  | .bad => Q .bad
theorem wA_star {Q : AR → Prop} : wA (asStar f g) r Q = wE f r (kstar g Q) := by
  unfold wA wE asStar frz
  cases f r with
  | ok o v r1 =>
    simp only [kstar]
    rcases Plist [v] with _ | ⟨_ | _, w⟩
    · rfl
    · rfl
    · cases w <;> try rfl
      simp only [kstar1, wA]; cases g r1 <;> rfl
  | _ => rfl
def ktup (Q : ER → Prop) : AR → Prop
  | .ok vs r1 => (if vs.length ≤ 100000 then Q (.ok false (.tup vs) r1) else Q .bad)
  | .ex e r1 => Q (.ex e r1)
  | .bad => Q .bad
theorem wE_tup {Q : ER → Prop} : wE (tup g) r Q = wA g r (ktup Q) := by
  unfold wE wA tup
  cases g r with
  | ok vs r1 => simp only [ktup]; split <;> rfl
  | _ => rfl
def klst (Q : ER → Prop) : AR → Prop
  | .ok vs r1 => (if vs.length ≤ 100000 then Q (.ok true (.lst vs) r1) else Q .bad)
  | .ex e r1 => Q (.ex e r1)
  | .bad => Q .bad
theorem wE_lst {Q : ER → Prop} : wE (lst g) r Q = wA g r (klst Q) := by
  unfold wE wA lst
  cases g r with
  | ok vs r1 => simp only [klst]; split <;> rfl
  | _ => rfl
/-! calls -/
def kback (r : Env) (ix : Option Nat) (Q : ER → Prop) : GR → Prop
  | .ok o z out => Q (.ok o z (back r ix out))
  | .ex e out => Q (.ex e (back r ix out))
  | .bad => Q .bad
def kc1 (n : Nat) (g : GF) (Q : ER → Prop) (r : Env) (ix : Option Nat) : Option (List (Bool × Val)) → Prop
  | some as => (if lents as ≤ 1 ∧ as.length = n then wG g as (kback r ix Q) else Q .bad)
  | none => Q .bad
def kcall (n : Nat) (g : GF) (Q : ER → Prop) : OsR → Prop
  | .ok hs r1 => kc1 n g Q r1 (lentIx r1 hs) (lend r1 hs)
  | .ex e r1 => Q (.ex e r1)
  | .bad => Q .bad
theorem wE_call {g : GF} {Q : ER → Prop} : wE (callG n g fs) r Q = wOs fs r (kcall n g Q) := by
  unfold wE wOs callG
  cases fs r with
  | ok hs r1 =>
    simp only [kcall]
    cases lend r1 hs with
    | none => rfl
    | some as =>
      simp only [kc1, wG]
      split
      · cases g as <;> rfl
      · rfl
  | _ => rfl
def kd1 (Q : GR → Prop) : Option (Option (Bool × Val)) → Prop
  | some out => Q (.ok false .non out)
  | none => Q .bad
def kd2 (Q : GR → Prop) (o : Bool) (v : Val) : Option (Option (Bool × Val)) → Prop
  | some out => (if o = true ∧ out.map (·.1) = some false then Q .bad else Q (.ok o v out))
  | none => Q .bad
def kd3 (Q : GR → Prop) (e : Val) : Option (Option (Bool × Val)) → Prop
  | some out => Q (.ex e out)
  | none => Q .bad
def kdef (as : List (Bool × Val)) (Q : GR → Prop) : SR → Prop
  | .nx r => kd1 Q (outOf as r)
  | .rt o v r => kd2 Q o v (outOf as r)
  | .ex e r => kd3 Q e (outOf as r)
  | _ => Q .bad
theorem wG_run {ios : List Nat} {np N : Nat} {as : List (Bool × Val)} {Q : GR → Prop} (h1 : as.length = np) (h2 : ∀ i ∈ ownIx as, i ∈ ios) : wG (runDef ios np N b) as Q = wS b (as.map some ++ List.replicate (N - np) none) (kdef as Q) := by
  unfold wG wS runDef
  rw [if_pos ⟨h1, h2⟩]
  cases b (as.map some ++ List.replicate (N - np) none) with
  | nx r => simp only [kdef]; cases outOf as r <;> rfl
  | rt o v r =>
    simp only [kdef]
    cases outOf as r with
    | none => rfl
    | some out => simp only [kd2]; split <;> rfl
  | ex e r => simp only [kdef]; cases outOf as r <;> rfl
  | _ => rfl
/-! statements -/
def kseq (b' : SF) (Q : SR → Prop) : SR → Prop
  | .nx r' => wS b' r' Q
  | x => Q x
theorem wS_seq {Q : SR → Prop} : wS (seq b b') r Q = wS b r (kseq b' Q) := by
  unfold wS seq
  cases b r <;> rfl
theorem wS_skip {Q : SR → Prop} : wS skip r Q = Q (.nx r) := rfl
theorem wS_brk {Q : SR → Prop} : wS brk r Q = Q (.bk r) := rfl
theorem wS_cont {Q : SR → Prop} : wS cont r Q = Q (.ct r) := rfl
def kasg (i : Nat) (Q : SR → Prop) : ER → Prop
  | .ok o v r' => Q (.nx (r'.set i (some (o, v))))
  | .ex e r' => Q (.ex e r')
  | .bad => Q .bad
theorem wS_asg {Q : SR → Prop} : wS (asg i f) r Q = wE f r (kasg i Q) := by unfold wS wE asg; cases f r <;> rfl
def kdrop (Q : SR → Prop) : ER → Prop
  | .ok _ _ r' => Q (.nx r')
  | .ex e r' => Q (.ex e r')
  | .bad => Q .bad
theorem wS_drop {Q : SR → Prop} : wS (drop f) r Q = wE f r (kdrop Q) := by unfold wS wE drop; cases f r <;> rfl
def kret (Q : SR → Prop) : ER → Prop
  | .ok o v r' => Q (.rt o v r')
  | .ex e r' => Q (.ex e r')
  | .bad => Q .bad
theorem wS_ret {Q : SR → Prop} : wS (ret f) r Q = wE f r (kret Q) := by unfold wS wE ret; cases f r <;> rfl
def kif (b b' : SF) (Q : SR → Prop) : BR → Prop
  | .ok true r' => wS b r' Q
  | .ok false r' => wS b' r' Q
  | .ex e r' => Q (.ex e r')
  | .bad => Q .bad
theorem wS_if {Q : SR → Prop} : wS (ifS c b b') r Q = wB c r (kif b b' Q) := by
  unfold wS wB ifS
  rcases c r with ⟨_ | _, r'⟩ | _ | _ <;> rfl
def kaug2 (i : Nat) (P : Int → Int → Int) (a : Int) (Q : SR → Prop) : ER → Prop
  | .ok _ (.int b) r' => Q (.nx (r'.set i (some (false, .int (P a b)))))
  | .ok _ _ _ => Q .bad
  | .ex e r' => Q (.ex e r')
  | .bad => Q .bad
def kaug (i : Nat) (P : Int → Int → Int) (f : EF) (r : Env) (Q : SR → Prop) : Option Slot → Prop
  | some (some (false, .int a)) => wE f r (kaug2 i P a Q)
  | _ => Q .bad
theorem wS_aug {P : Int → Int → Int} {Q : SR → Prop} : wS (aug i P f) r Q = kaug i P f r Q r[i]? := by
  unfold wS aug
  rcases r[i]? with _ | _ | ⟨_ | _, v⟩
  · rfl
  · rfl
  · cases v with
    | int a =>
      simp only [kaug, wE]
      cases f r with
      | ok o v r' => cases v <;> rfl
      | _ => rfl
    | _ => rfl
  · rfl
/-! what is walked -/
def kitV1 (r : Env) (Q : IR → Prop) : Option (List Val) → Prop
  | some vs => Q (.ok vs r)
  | none => Q .bad
def kitV (Q : IR → Prop) : ER → Prop
  | .ok _ v r' => kitV1 r' Q (itemsOf v)
  | .ex e r' => Q (.ex e r')
  | .bad => Q .bad
theorem wI_V {Q : IR → Prop} : wI (itV f) r Q = wE f r (kitV Q) := by
  unfold wI wE itV frz
  cases f r with
  | ok o v r' => simp only [kitV]; cases itemsOf v <;> rfl
  | _ => rfl
def kitR (q : List Val → Option (List Val)) (Q : IR → Prop) : AR → Prop
  | .ok vs r' => kitV1 r' Q (q vs)
  | .ex e r' => Q (.ex e r')
  | .bad => Q .bad
theorem wI_R {q : List Val → Option (List Val)} {Q : IR → Prop} : wI (itR q g) r Q = wA g r (kitR q Q) := by
  unfold wI wA itR
  cases g r with
  | ok vs r' => simp only [kitR]; cases q vs <;> rfl
  | _ => rfl
theorem wI_zip {Q : IR → Prop} : wI (itZip g) r Q = wA g r (kitR zipOf Q) := wI_R
def kfor (t : TF) (b : SF) (Q : SR → Prop) : IR → Prop
  | .ok vs r1 => wL t b vs r1 Q
  | .ex e r1 => Q (.ex e r1)
  | .bad => Q .bad
theorem wS_for {fi : IF} {Q : SR → Prop} : wS (forS fi t b) r Q = wI fi r (kfor t b Q) := by
  unfold wS wI forS
  cases fi r <;> rfl
theorem wL_nil {Q : SR → Prop} : wL t b [] r Q = Q (.nx r) := rfl
def kL (t : TF) (b : SF) (vs : List Val) (Q : SR → Prop) : SR → Prop
  | .nx r2 => wL t b vs r2 Q
  | .ct r2 => wL t b vs r2 Q
  | .bk r2 => Q (.nx r2)
  | x => Q x
def kT (b : SF) (Q Q' : SR → Prop) : Option Env → Prop
  | some r1 => wS b r1 Q
  | none => Q' .bad
theorem wL_cons {vs : List Val} {Q : SR → Prop} : wL t b (v :: vs) r Q = kT b (kL t b vs Q) Q (t v r) := by
  unfold wL
  rw [forL]
  rcases ht : t v r with _ | r1
  · simp only [ht, kT]
  · simp only [ht, kT, wS]
    cases hb : b r1 <;> simp only [hb, kL] <;> rfl
/-- one turn of a loop: what is wished behind it -/
def kTurn (I : Env → Prop) (Q : SR → Prop) : SR → Prop
  | .nx r2 => I r2
  | .ct r2 => I r2
  | .bk r2 => Q (.nx r2)
  | x => Q x
theorem wL_inv {Q : SR → Prop} (I : List Val → Env → Prop) (hs : ∀ v vs r, I (v :: vs) r → kT b (kTurn (I vs) Q) Q (t v r)) (he : ∀ r, I [] r → Q (.nx r)) : ∀ vs r, I vs r → wL t b vs r Q
  | [], r, h => he r h
  | v :: vs, r, h => by
    rw [wL_cons]
    have := hs v vs r h
    cases ht : t v r with
    | none => rw [ht] at this; exact this
    | some r1 =>
      rw [ht] at this
      simp only [kT, wS] at this ⊢
      cases hb : b r1 with
      | nx r2 => rw [hb] at this; exact wL_inv I hs he vs r2 this
      | ct r2 => rw [hb] at this; exact wL_inv I hs he vs r2 this
      | bk r2 => rw [hb] at this; exact this
      | rt o v r2 => rw [hb] at this; exact this
      | ex e r2 => rw [hb] at this; exact this
      | bad => rw [hb] at this; exact this
def kW2 (c : BF) (b : SF) (n : Nat) (Q : SR → Prop) : SR → Prop
  | .nx r2 => wS (whl c b n) r2 Q
  | .ct r2 => wS (whl c b n) r2 Q
  | .bk r2 => Q (.nx r2)
  | x => Q x
def kW (c : BF) (b : SF) (n : Nat) (Q : SR → Prop) : BR → Prop
  | .ok true r1 => wS b r1 (kW2 c b n Q)
  | .ok false r1 => Q (.nx r1)
  | .ex e r1 => Q (.ex e r1)
  | .bad => Q .bad
theorem wS_whl {Q : SR → Prop} : wS (whl c b (n + 1)) r Q = wB c r (kW c b n Q) := by
  unfold wB wS
  rw [whl]
  rcases hc : c r with ⟨_ | _, r'⟩ | _ | _
  · simp only [hc, kW]
  · simp only [hc, kW, wS]; cases hb : b r' <;> simp only [hb, kW2] <;> rfl
  · simp only [hc, kW]
  · simp only [hc, kW]
/-- one turn of a while -/
def kTurnW (b : SF) (I : Env → Prop) (Q : SR → Prop) : BR → Prop
  | .ok true r1 => wS b r1 (kTurn I Q)
  | .ok false r1 => Q (.nx r1)
  | .ex e r1 => Q (.ex e r1)
  | .bad => Q .bad
theorem wW_inv {Q : SR → Prop} (I : Nat → Env → Prop) (hs : ∀ m r, I m r → wB c r (kTurnW b (fun r2 => ∃ k, k < m ∧ I k r2) Q)) : ∀ n m r, m < n → I m r → wS (whl c b n) r Q
  | 0, _, _, h, _ => absurd h (by omega)
  | n + 1, m, r, hm, h => by
    rw [wS_whl]
    have := hs m r h
    unfold wB at this ⊢
    rcases hc : c r with ⟨_ | _, r'⟩ | _ | _ <;> rw [hc] at this
    · exact this
    · simp only [kTurnW, kW, wS] at this ⊢
      cases hb : b r' with
      | nx r2 => rw [hb] at this; obtain ⟨k, hk, h2⟩ := this; exact wW_inv I hs n k r2 (by omega) h2
      | ct r2 => rw [hb] at this; obtain ⟨k, hk, h2⟩ := this; exact wW_inv I hs n k r2 (by omega) h2
      | bk r2 => rw [hb] at this; exact this
      | rt o v r2 => rw [hb] at this; exact this
      | ex e r2 => rw [hb] at this; exact this
      | bad => rw [hb] at this; exact this
    · exact this
    · exact this
/-! comprehensions -/
def klc2 (r1 : Env) (sl : List Nat) (Q : ER → Prop) : AR → Prop
  | .ok ys r2 => Q (.ok true (.lst ys) (restR r1 r2 sl))
  | _ => Q .bad
def klc (t : TF) (c : BF) (f : EF) (sl : List Nat) (Q : ER → Prop) : IR → Prop
  | .ok vs r1 => wC t c f sl vs [] (wipeR r1 sl) (klc2 r1 sl Q)
  | .ex e r1 => Q (.ex e r1)
  | .bad => Q .bad
theorem wE_lc {fi : IF} {sl : List Nat} {Q : ER → Prop} : wE (lc fi t c f sl) r Q = wI fi r (klc t c f sl Q) := by
  unfold wE wI lc
  cases fi r with
  | ok vs r1 => simp only [klc, wC]; cases lcL t c f sl vs [] (wipeR r1 sl) <;> rfl
  | _ => rfl
theorem wC_nil {sl : List Nat} {acc : List Val} {Q : AR → Prop} : wC t c f sl [] acc r Q = Q (.ok acc r) := rfl
def kC2 (t : TF) (c : BF) (f : EF) (sl : List Nat) (vs acc : List Val) (Q : AR → Prop) : ER → Prop
  | .ok _ y r3 => (if acc.length < 100000 then wC t c f sl vs (acc ++ [y]) (wipeR r3 sl) Q else Q .bad)
  | _ => Q .bad
def kC1 (t : TF) (c : BF) (f : EF) (sl : List Nat) (vs acc : List Val) (Q : AR → Prop) : BR → Prop
  | .ok true r2 => wE f r2 (kC2 t c f sl vs acc Q)
  | .ok false r2 => wC t c f sl vs acc (wipeR r2 sl) Q
  | _ => Q .bad
def kC0 (t : TF) (c : BF) (f : EF) (sl : List Nat) (vs acc : List Val) (Q : AR → Prop) : Option Env → Prop
  | some r1 => wB c r1 (kC1 t c f sl vs acc Q)
  | none => Q .bad
theorem wC_cons {sl : List Nat} {vs acc : List Val} {Q : AR → Prop} : wC t c f sl (v :: vs) acc r Q = kC0 t c f sl vs acc Q (t v r) := by
  unfold wC
  rw [lcL]
  rcases ht : t v r with _ | r1
  · simp only [ht, kC0]
  · simp only [ht, kC0, wB]
    rcases hc : c r1 with ⟨_ | _, r2⟩ | _ | _
    · simp only [hc, kC1, wC]
    · simp only [hc, kC1, wE, frz]
      cases hf : f r2 with
      | ok o y r3 => simp only [hf, kC2, wC]; split <;> rfl
      | _ => simp only [hf, kC2]
    · simp only [hc, kC1]
    · simp only [hc, kC1]
/-- one turn of a comprehension -/
def kU2 (sl : List Nat) (I : List Val → Env → Prop) (acc : List Val) : ER → Prop
  | .ok _ y r3 => acc.length < 100000 ∧ I (acc ++ [y]) (wipeR r3 sl)
  | _ => False
def kU1 (f : EF) (sl : List Nat) (I : List Val → Env → Prop) (acc : List Val) : BR → Prop
  | .ok true r2 => wE f r2 (kU2 sl I acc)
  | .ok false r2 => I acc (wipeR r2 sl)
  | _ => False
def kU0 (c : BF) (f : EF) (sl : List Nat) (I : List Val → Env → Prop) (acc : List Val) : Option Env → Prop
  | some r1 => wB c r1 (kU1 f sl I acc)
  | none => False
theorem wC_inv {sl : List Nat} {Q : AR → Prop} (I : List Val → List Val → Env → Prop) (hs : ∀ v vs acc r, I (v :: vs) acc r → kU0 c f sl (I vs) acc (t v r)) (he : ∀ acc r, I [] acc r → Q (.ok acc r)) : ∀ vs acc r, I vs acc r → wC t c f sl vs acc r Q
  | [], acc, r, h => he acc r h
  | v :: vs, acc, r, h => by
    rw [wC_cons]
    have := hs v vs acc r h
    cases ht : t v r with
    | none => rw [ht] at this; exact this.elim
    | some r1 =>
      rw [ht] at this
      simp only [kC0, kU0, wB] at this ⊢
      rcases hc : c r1 with ⟨_ | _, r2⟩ | _ | _ <;> rw [hc] at this
      · exact wC_inv I hs he vs acc _ this
      · simp only [kC1, kU1, wE] at this ⊢
        cases hf : f r2 with
        | ok o y r3 => rw [hf] at this; simp only [kC2, kU2] at this ⊢; rw [if_pos this.1]; exact wC_inv I hs he vs _ _ this.2
        | ex e r3 => rw [hf] at this; exact this.elim
        | bad => rw [hf] at this; exact this.elim
      · exact this.elim
      · exact this.elim
/-! the rest -/
theorem wP_no {Q : PR → Prop} : wP pNo r Q = Q (.ok none r) := rfl
def kpInt (Q : PR → Prop) : ER → Prop
  | .ok _ (.int i) r' => Q (.ok (some i) r')
  | .ok _ _ _ => Q .bad
  | .ex e r' => Q (.ex e r')
  | .bad => Q .bad
theorem wP_int {Q : PR → Prop} : wP (pInt f) r Q = wE f r (kpInt Q) := by
  unfold wP wE pInt
  cases f r with
  | ok o v r' => cases v <;> rfl
  | _ => rfl
def ksl4 (lo hi : Option Int) (r : Env) (Q : ER → Prop) : Option Val → Prop
  | some v => kp2 Q r (Psl v lo hi)
  | none => Q .bad
def ksl3 (h : Hd) (lo : Option Int) (Q : ER → Prop) : PR → Prop
  | .ok hi r3 => ksl4 lo hi r3 Q (h.get r3)
  | .ex e r3 => Q (.ex e r3)
  | .bad => Q .bad
def ksl2 (h : Hd) (fu : PF) (Q : ER → Prop) : PR → Prop
  | .ok lo r2 => wP fu r2 (ksl3 h lo Q)
  | .ex e r2 => Q (.ex e r2)
  | .bad => Q .bad
def ksl1 (fl fu : PF) (Q : ER → Prop) : OR → Prop
  | .ok h r1 => wP fl r1 (ksl2 h fu Q)
  | .ex e r1 => Q (.ex e r1)
  | .bad => Q .bad
theorem wE_slc {fl fu : PF} {Q : ER → Prop} : wE (slc fo fl fu) r Q = wO fo r (ksl1 fl fu Q) := by
  unfold wE wO slc
  cases fo r with
  | ok h r1 =>
    simp only [ksl1, wP]
    cases fl r1 with
    | ok lo r2 =>
      simp only [ksl2, wP]
      cases fu r2 with
      | ok hi r3 =>
        simp only [ksl3]
        cases h.get r3 with
        | none => rfl
        | some v => simp only [ksl4]; rcases Psl v lo hi with _ | ⟨o, z⟩ <;> rfl
      | _ => rfl
    | _ => rfl
  | _ => rfl
def kch5 (r : Env) (Q : ER → Prop) : Option (Bool × Val) → Prop
  | some (false, .bl b) => Q (.ok false (.bl b) r)
  | _ => Q .bad
def kch4 (P' : List Val → Option (Bool × Val)) (r : Env) (Q : ER → Prop) : Option (List Val) → Prop
  | some us => kch5 r Q (P' us)
  | none => Q .bad
def kch3b (P' : List Val → Option (Bool × Val)) (h2 : Hd) (Q : ER → Prop) : OR → Prop
  | .ok h3 r3 => kch4 P' r3 Q (getAll r3 [h2, h3])
  | .ex e r3 => Q (.ex e r3)
  | .bad => Q .bad
def kch3 (P' : List Val → Option (Bool × Val)) (fc : OF) (h2 : Hd) (r : Env) (Q : ER → Prop) : Option (Bool × Val) → Prop
  | some (false, .bl true) => wO fc r (kch3b P' h2 Q)
  | some (false, .bl false) => Q (.ok false (.bl false) r)
  | _ => Q .bad
def kch2 (P P' : List Val → Option (Bool × Val)) (fc : OF) (h2 : Hd) (r : Env) (Q : ER → Prop) : Option (List Val) → Prop
  | some vs => kch3 P' fc h2 r Q (P vs)
  | none => Q .bad
def kch1 (P P' : List Val → Option (Bool × Val)) (fc : OF) (h1 : Hd) (Q : ER → Prop) : OR → Prop
  | .ok h2 r2 => kch2 P P' fc h2 r2 Q (getAll r2 [h1, h2])
  | .ex e r2 => Q (.ex e r2)
  | .bad => Q .bad
def kch0 (P P' : List Val → Option (Bool × Val)) (fb fc : OF) (Q : ER → Prop) : OR → Prop
  | .ok h1 r1 => wO fb r1 (kch1 P P' fc h1 Q)
  | .ex e r1 => Q (.ex e r1)
  | .bad => Q .bad
theorem wE_chn {P P' : List Val → Option (Bool × Val)} {fb fc : OF} {Q : ER → Prop} : wE (chn P P' fo fb fc) r Q = wO fo r (kch0 P P' fb fc Q) := by
  unfold wE wO chn
  cases fo r with
  | ok h1 r1 =>
    simp only [kch0, wO]
    cases fb r1 with
    | ok h2 r2 =>
      simp only [kch1]
      cases getAll r2 [h1, h2] with
      | none => rfl
      | some vs =>
        simp only [kch2]
        rcases P vs with _ | ⟨_ | _, z⟩
        · rfl
        · cases z with
          | bl b =>
            cases b with
            | false => rfl
            | true =>
              simp only [kch3, wO]
              cases fc r2 with
              | ok h3 r3 =>
                simp only [kch3b]
                cases getAll r3 [h2, h3] with
                | none => rfl
                | some us =>
                  simp only [kch4]
                  rcases P' us with _ | ⟨_ | _, z⟩
                  · rfl
                  · cases z <;> rfl
                  · rfl
              | _ => rfl
          | _ => rfl
        · rfl
    | _ => rfl
  | _ => rfl
def koTy2 (T : String) (h : Hd) (r : Env) (Q : OR → Prop) : Option Val → Prop
  | some v => (if tyOf v = some T then Q (.ok h r) else Q .bad)
  | none => Q .bad
def koTy (T : String) (Q : OR → Prop) : OR → Prop
  | .ok h r1 => koTy2 T h r1 Q (h.get r1)
  | .ex e r1 => Q (.ex e r1)
  | .bad => Q .bad
theorem wO_Ty {T : String} {Q : OR → Prop} : wO (oTy T fo) r Q = wO fo r (koTy T Q) := by
  unfold wO oTy
  cases fo r with
  | ok h r1 =>
    simp only [koTy]
    cases h.get r1 with
    | none => rfl
    | some v => simp only [koTy2]; split <;> rfl
  | _ => rfl
def kmu3 (i : Nat) (r : Env) (Q : ER → Prop) : Option (Val × Val) → Prop
  | some (v', z) => Q (.ok false z (r.set i (some (true, v'))))
  | none => Q .bad
def kmu2 (P : MutF) (i : Nat) (vs : List Val) (r : Env) (Q : ER → Prop) : Option Slot → Prop
  | some (some (true, v)) => kmu3 i r Q (P v vs)
  | _ => Q .bad
def kmu1 (P : MutF) (i : Nat) (Q : ER → Prop) : AR → Prop
  | .ok vs r1 => kmu2 P i vs r1 Q r1[i]?
  | .ex e r1 => Q (.ex e r1)
  | .bad => Q .bad
def kmu (T : String) (P : MutF) (i : Nat) (g : AF) (r : Env) (Q : ER → Prop) : Option Slot → Prop
  | some (some (true, v0)) => (if tyOf v0 = some T then wA g r (kmu1 P i Q) else Q .bad)
  | _ => Q .bad
theorem wE_mut {T : String} {P : MutF} {Q : ER → Prop} : wE (mutE T i P g) r Q = kmu T P i g r Q r[i]? := by
  unfold wE mutE
  rcases r[i]? with _ | _ | ⟨_ | _, v0⟩
  · rfl
  · rfl
  · rfl
  · simp only [kmu]
    split
    · unfold wA
      cases g r with
      | ok vs r1 =>
        simp only [kmu1]
        rcases r1[i]? with _ | _ | ⟨_ | _, v⟩
        · rfl
        · rfl
        · rfl
        · simp only [kmu2]; rcases P v vs with _ | ⟨v', z⟩ <;> rfl
      | _ => rfl
    · rfl
def ksx4 (i : Nat) (r : Env) (Q : SR → Prop) : Option Val → Prop
  | some d' => Q (.nx (r.set i (some (true, d'))))
  | none => Q .bad
def ksx3 (i : Nat) (k v : Val) (r : Env) (Q : SR → Prop) : Option Slot → Prop
  | some (some (true, d)) => ksx4 i r Q (putIx d k v)
  | _ => Q .bad
def ksx2 (i : Nat) (v : Val) (Q : SR → Prop) : ER → Prop
  | .ok _ k r2 => ksx3 i k v r2 Q r2[i]?
  | .ex e r2 => Q (.ex e r2)
  | .bad => Q .bad
def ksx1 (i : Nat) (fk : EF) (v : Val) (r : Env) (Q : SR → Prop) : Option Slot → Prop
  | some (some (true, _)) => wE fk r (ksx2 i v Q)
  | _ => Q .bad
def ksx (i : Nat) (fk : EF) (Q : SR → Prop) : ER → Prop
  | .ok _ v r1 => ksx1 i fk v r1 Q r1[i]?
  | .ex e r1 => Q (.ex e r1)
  | .bad => Q .bad
theorem wS_setIx {fk : EF} {Q : SR → Prop} : wS (setIx i fk f) r Q = wE f r (ksx i fk Q) := by
  unfold wS wE setIx frz
  cases f r with
  | ok o v r1 =>
    simp only [ksx]
    rcases r1[i]? with _ | _ | ⟨_ | _, d0⟩
    · rfl
    · rfl
    · rfl
    · simp only [ksx1, wE]
      cases fk r1 with
      | ok o k r2 =>
        simp only [ksx2]
        rcases r2[i]? with _ | _ | ⟨_ | _, d⟩
        · rfl
        · rfl
        · rfl
        · simp only [ksx3]; cases putIx d k v <;> rfl
      | _ => rfl
  | _ => rfl
theorem wE_dNew {bb : Bool} {Q : ER → Prop} : wE (dNew bb) r Q = Q (.ok true (.dct bb []) r) := rfl
theorem wD_nil {Q : DR → Prop} : wD [] r Q = Q (.ok [] r) := rfl
def kdp3 (k v : Val) (Q : DR → Prop) : DR → Prop
  | .ok kvs r3 => Q (.ok ((k, v) :: kvs) r3)
  | x => Q x
def kdp2 (l : List (EF × EF)) (k : Val) (Q : DR → Prop) : ER → Prop
  | .ok _ v r2 => wD l r2 (kdp3 k v Q)
  | .ex e r2 => Q (.ex e r2)
  | .bad => Q .bad
def kdp1 (fv : EF) (l : List (EF × EF)) (Q : DR → Prop) : ER → Prop
  | .ok _ k r1 => wE fv r1 (kdp2 l k Q)
  | .ex e r1 => Q (.ex e r1)
  | .bad => Q .bad
theorem wD_cons {fk fv : EF} {l : List (EF × EF)} {Q : DR → Prop} : wD ((fk, fv) :: l) r Q = wE fk r (kdp1 fv l Q) := by
  unfold wD wE
  rw [dspL]
  unfold frz
  cases fk r with
  | ok o k r1 =>
    simp only [kdp1, wE]
    cases fv r1 with
    | ok o v r2 =>
      simp only [kdp2, wD]
      cases dspL l r2 <;> rfl
    | _ => rfl
  | _ => rfl
def kds2 (r : Env) (Q : ER → Prop) : Option (List (Val × Val)) → Prop
  | some ds => Q (.ok true (.dct false ds) r)
  | none => Q .bad
def kds (Q : ER → Prop) : DR → Prop
  | .ok kvs r1 => (if kvs.length ≤ 15 then kds2 r1 Q (putAll [] kvs) else Q .bad)
  | .ex e r1 => Q (.ex e r1)
  | .bad => Q .bad
theorem wE_dsp {l : List (EF × EF)} {Q : ER → Prop} : wE (dsp l) r Q = wD l r (kds Q) := by
  unfold wE wD dsp
  cases dspL l r with
  | ok kvs r1 =>
    simp only [kds]
    split
    · cases putAll [] kvs <;> rfl
    · rfl
  | _ => rfl
def kls2 (r : Env) (Q : ER → Prop) : Option (List Str) → Prop
  | some ss => (if ss.length ≤ 1000 then Q (.ok false (.int (metS ss ss.length).length) r) else Q .bad)
  | none => Q .bad
def kls (Q : ER → Prop) : ER → Prop
  | .ok _ (.tup ds) r' => kls2 r' Q (asStrs ds)
  | .ok _ _ _ => Q .bad
  | .ex e r' => Q (.ex e r')
  | .bad => Q .bad
theorem wE_lenSet {Q : ER → Prop} : wE (lenSet f) r Q = wE f r (kls Q) := by
  unfold wE lenSet frz
  cases f r with
  | ok o v r' =>
    cases v with
    | tup ds =>
      simp only [kls]
      cases asStrs ds with
      | none => rfl
      | some ss => simp only [kls2]; split <;> rfl
    | _ => rfl
  | _ => rfl
def kas2 (i j : Nat) (Q : SR → Prop) : AR → Prop
  | .ok [v, u] r1 => Q (.nx ((r1.set i (some (false, v))).set j (some (false, u))))
  | .ok _ _ => Q .bad
  | .ex e r1 => Q (.ex e r1)
  | .bad => Q .bad
theorem wS_asg2 {Q : SR → Prop} : wS (asg2 i j g) r Q = wA g r (kas2 i j Q) := by
  unfold wS wA asg2
  rcases g r with ⟨_ | ⟨v, _ | ⟨u, _ | ⟨w, vs⟩⟩⟩, r1⟩ | _ | _ <;> rfl
def kasT2 (Q : SR → Prop) : Option Env → Prop
  | some r2 => Q (.nx r2)
  | none => Q .bad
def kasT (t : TF) (Q : SR → Prop) : ER → Prop
  | .ok _ v r1 => kasT2 Q (t v r1)
  | .ex e r1 => Q (.ex e r1)
  | .bad => Q .bad
theorem wS_asgT {Q : SR → Prop} : wS (asgT t f) r Q = wE f r (kasT t Q) := by
  unfold wS wE asgT frz
  cases f r with
  | ok o v r1 => simp only [kasT]; cases t v r1 <;> rfl
  | _ => rfl
def kapp2 (hs : List Hd) (Q : OsR → Prop) : OsR → Prop
  | .ok ks r2 => Q (.ok (hs ++ ks) r2)
  | .ex e r2 => Q (.ex e r2)
  | .bad => Q .bad
def kapp (fs' : OsF) (Q : OsR → Prop) : OsR → Prop
  | .ok hs r1 => wOs fs' r1 (kapp2 hs Q)
  | .ex e r1 => Q (.ex e r1)
  | .bad => Q .bad
theorem wOs_app {Q : OsR → Prop} : wOs (osApp fs fs') r Q = wOs fs r (kapp fs' Q) := by
  unfold wOs osApp
  cases fs r with
  | ok hs r1 => simp only [kapp, wOs]; cases fs' r1 <;> rfl
  | _ => rfl
def kN (n : Nat) (Q : OsR → Prop) : OsR → Prop
  | .ok hs r1 => (if hs.length = n then Q (.ok hs r1) else Q .bad)
  | .ex e r1 => Q (.ex e r1)
  | .bad => Q .bad
theorem wOs_N {Q : OsR → Prop} : wOs (osN n fs) r Q = wOs fs r (kN n Q) := by
  unfold wOs osN
  cases fs r with
  | ok hs r1 => simp only [kN]; split <;> rfl
  | _ => rfl
def kpick2 (r : Env) (Q : OsR → Prop) : Option (List Hd) → Prop
  | some ks => Q (.ok ks r)
  | none => Q .bad
def kpick (ix : List Nat) (Q : OsR → Prop) : OsR → Prop
  | .ok hs r1 => kpick2 r1 Q (pick ix hs)
  | .ex e r1 => Q (.ex e r1)
  | .bad => Q .bad
theorem wOs_pick {ix : List Nat} {Q : OsR → Prop} : wOs (osPick ix fs) r Q = wOs fs r (kpick ix Q) := by
  unfold wOs osPick
  cases fs r with
  | ok hs r1 => simp only [kpick]; cases pick ix hs <;> rfl
  | _ => rfl
end
/-! a reading becomes a run's value -/
theorem wG_ok {g : GF} {as : List (Bool × Val)} {o : Bool} {v : Val} {out : Option (Bool × Val)} : wG g as (fun x => x = .ok o v out) ↔ g as = .ok o v out := Iff.rfl
/-- a comprehension whose turns leave the slots as they are -/
theorem wC_map {α : Type} {t : TF} {c : BF} {f : EF} {sl : List Nat} {env : Env} {Q : AR → Prop} (y z : α → Val) (p : α → Bool) (xs : List α)
    (h : ∀ x ∈ xs, ∃ r1, t (y x) env = some r1 ∧ wB c r1 (fun s => s = .ok (p x) r1) ∧ wipeR r1 sl = env ∧ (p x = true → wE f r1 fun s => ∃ o r3, s = .ok o (z x) r3 ∧ wipeR r3 sl = env)) (hl : xs.length ≤ 100000)
    (q : Q (.ok ((xs.filter p).map z) env)) : wC t c f sl (xs.map y) [] env Q := by
  have : ∀ (xs : List α) (acc : List Val), (∀ x ∈ xs, ∃ r1, t (y x) env = some r1 ∧ wB c r1 (fun s => s = .ok (p x) r1) ∧ wipeR r1 sl = env ∧ (p x = true → wE f r1 fun s => ∃ o r3, s = .ok o (z x) r3 ∧ wipeR r3 sl = env)) → acc.length + xs.length ≤ 100000 →
      lcL t c f sl (xs.map y) acc env = .ok (acc ++ (xs.filter p).map z) env := by
    intro xs
    induction xs with
    | nil => intro acc _ _; simp [lcL]
    | cons x xs ih =>
      intro acc h hl
      obtain ⟨r1, e1, e2, e3, e4⟩ := h x (by simp)
      unfold wB at e2
      rw [List.length_cons] at hl
      rw [List.map_cons, lcL]
      cases hp : p x with
      | false =>
        rw [hp] at e2
        simp only [e1, e2, e3]
        rw [ih acc (fun x' hx' => h x' (List.mem_cons_of_mem _ hx')) (by omega), List.filter_cons_of_neg (by simp [hp])]
      | true =>
        rw [hp] at e2
        obtain ⟨o, r3, e5, e6⟩ := e4 hp
        have ha : acc.length < 100000 := by omega
        simp only [e1, e2, frz, e5, e6, if_pos ha]
        rw [ih (acc ++ [z x]) (fun x' hx' => h x' (List.mem_cons_of_mem _ hx')) (by simp; omega), List.filter_cons_of_pos (by simp [hp])]
        simp
  unfold wC
  rw [this xs [] h (by simpa using hl)]
  simpa using q
/-! the equations by names -/
def kN_e1 := @kN.eq_1
def kN_e2 := @kN.eq_2
def kN_e3 := @kN.eq_3
def kT_e1 := @kT.eq_1
def kT_e2 := @kT.eq_2
def kTurn_e1 := @kTurn.eq_1
def kTurn_e2 := @kTurn.eq_2
def kTurn_e3 := @kTurn.eq_3
def kTurn_e4 := @kTurn.eq_4
def kTurnW_e1 := @kTurnW.eq_1
def kTurnW_e2 := @kTurnW.eq_2
def kTurnW_e3 := @kTurnW.eq_3
def kTurnW_e4 := @kTurnW.eq_4
def kU0_e1 := @kU0.eq_1
def kU0_e2 := @kU0.eq_2
def kU1_e1 := @kU1.eq_1
def kU1_e2 := @kU1.eq_2
def kU1_e3 := @kU1.eq_3
def kU2_e1 := @kU2.eq_1
def kU2_e2 := @kU2.eq_2
def kac_e1 := @kac.eq_1
def kac_e2 := @kac.eq_2
def kac_e3 := @kac.eq_3
def kac2_e1 := @kac2.eq_1
def kac2_e2 := @kac2.eq_2
def kac2_e3 := @kac2.eq_3
def kand_e1 := @kand.eq_1
def kand_e2 := @kand.eq_2
def kandV_e1 := @kandV.eq_1
def kandV_e2 := @kandV.eq_2
def kandV_e3 := @kandV.eq_3
def kandV_e4 := @kandV.eq_4
def kapp_e1 := @kapp.eq_1
def kapp_e2 := @kapp.eq_2
def kapp_e3 := @kapp.eq_3
def kapp2_e1 := @kapp2.eq_1
def kapp2_e2 := @kapp2.eq_2
def kapp2_e3 := @kapp2.eq_3
def kas2_e1 := @kas2.eq_1
def kas2_e2 := @kas2.eq_2
def kas2_e3 := @kas2.eq_3
def kas2_e4 := @kas2.eq_4
def kasT_e1 := @kasT.eq_1
def kasT_e2 := @kasT.eq_2
def kasT_e3 := @kasT.eq_3
def kasT2_e1 := @kasT2.eq_1
def kasT2_e2 := @kasT2.eq_2
def kasg_e1 := @kasg.eq_1
def kasg_e2 := @kasg.eq_2
def kasg_e3 := @kasg.eq_3
def kaug_e1 := @kaug.eq_1
def kaug_e2 := @kaug.eq_2
def kaug2_e1 := @kaug2.eq_1
def kaug2_e2 := @kaug2.eq_2
def kaug2_e3 := @kaug2.eq_3
def kaug2_e4 := @kaug2.eq_4
def kback_e1 := @kback.eq_1
def kback_e2 := @kback.eq_2
def kback_e3 := @kback.eq_3
def kc1_e1 := @kc1.eq_1
def kc1_e2 := @kc1.eq_2
def kcall_e1 := @kcall.eq_1
def kcall_e2 := @kcall.eq_2
def kcall_e3 := @kcall.eq_3
def kch0_e1 := @kch0.eq_1
def kch0_e2 := @kch0.eq_2
def kch0_e3 := @kch0.eq_3
def kch1_e1 := @kch1.eq_1
def kch1_e2 := @kch1.eq_2
def kch1_e3 := @kch1.eq_3
def kch2_e1 := @kch2.eq_1
def kch2_e2 := @kch2.eq_2
def kch3_e1 := @kch3.eq_1
def kch3_e2 := @kch3.eq_2
def kch3_e3 := @kch3.eq_3
def kch3b_e1 := @kch3b.eq_1
def kch3b_e2 := @kch3b.eq_2
def kch3b_e3 := @kch3b.eq_3
def kch4_e1 := @kch4.eq_1
def kch4_e2 := @kch4.eq_2
def kch5_e1 := @kch5.eq_1
def kch5_e2 := @kch5.eq_2
def kcons_e1 := @kcons.eq_1
def kcons_e2 := @kcons.eq_2
def kcons_e3 := @kcons.eq_3
def kcons2_e1 := @kcons2.eq_1
def kcons2_e2 := @kcons2.eq_2
def kcons2_e3 := @kcons2.eq_3
def kd1_e1 := @kd1.eq_1
def kd1_e2 := @kd1.eq_2
def kd2_e1 := @kd2.eq_1
def kd2_e2 := @kd2.eq_2
def kd3_e1 := @kd3.eq_1
def kd3_e2 := @kd3.eq_2
def kdef_e1 := @kdef.eq_1
def kdef_e2 := @kdef.eq_2
def kdef_e3 := @kdef.eq_3
def kdef_e4 := @kdef.eq_4
def kdp1_e1 := @kdp1.eq_1
def kdp1_e2 := @kdp1.eq_2
def kdp1_e3 := @kdp1.eq_3
def kdp2_e1 := @kdp2.eq_1
def kdp2_e2 := @kdp2.eq_2
def kdp2_e3 := @kdp2.eq_3
def kdp3_e1 := @kdp3.eq_1
def kdp3_e2 := @kdp3.eq_2
def kdrop_e1 := @kdrop.eq_1
def kdrop_e2 := @kdrop.eq_2
def kdrop_e3 := @kdrop.eq_3
def kds_e1 := @kds.eq_1
def kds_e2 := @kds.eq_2
def kds_e3 := @kds.eq_3
def kds2_e1 := @kds2.eq_1
def kds2_e2 := @kds2.eq_2
def kfor_e1 := @kfor.eq_1
def kfor_e2 := @kfor.eq_2
def kfor_e3 := @kfor.eq_3
def kfrz_e1 := @kfrz.eq_1
def kfrz_e2 := @kfrz.eq_2
def kfrz_e3 := @kfrz.eq_3
def kif_e1 := @kif.eq_1
def kif_e2 := @kif.eq_2
def kif_e3 := @kif.eq_3
def kif_e4 := @kif.eq_4
def kitR_e1 := @kitR.eq_1
def kitR_e2 := @kitR.eq_2
def kitR_e3 := @kitR.eq_3
def kitV_e1 := @kitV.eq_1
def kitV_e2 := @kitV.eq_2
def kitV_e3 := @kitV.eq_3
def kitV1_e1 := @kitV1.eq_1
def kitV1_e2 := @kitV1.eq_2
def kite_e1 := @kite.eq_1
def kite_e2 := @kite.eq_2
def kite_e3 := @kite.eq_3
def kite_e4 := @kite.eq_4
def klc_e1 := @klc.eq_1
def klc_e2 := @klc.eq_2
def klc_e3 := @klc.eq_3
def klc2_e1 := @klc2.eq_1
def klc2_e2 := @klc2.eq_2
def kls_e1 := @kls.eq_1
def kls_e2 := @kls.eq_2
def kls_e3 := @kls.eq_3
def kls_e4 := @kls.eq_4
def kls2_e1 := @kls2.eq_1
def kls2_e2 := @kls2.eq_2
def klst_e1 := @klst.eq_1
def klst_e2 := @klst.eq_2
def klst_e3 := @klst.eq_3
def kmu_e1 := @kmu.eq_1
def kmu_e2 := @kmu.eq_2
def kmu1_e1 := @kmu1.eq_1
def kmu1_e2 := @kmu1.eq_2
def kmu1_e3 := @kmu1.eq_3
def kmu2_e1 := @kmu2.eq_1
def kmu2_e2 := @kmu2.eq_2
def kmu3_e1 := @kmu3.eq_1
def kmu3_e2 := @kmu3.eq_2
def kmv_e1 := @kmv.eq_1
def kmv_e2 := @kmv.eq_2
def knot_e1 := @knot.eq_1
def knot_e2 := @knot.eq_2
def knotV_e1 := @knotV.eq_1
def knotV_e2 := @knotV.eq_2
def knotV_e3 := @knotV.eq_3
def koS_e1 := @koS.eq_1
def koS_e2 := @koS.eq_2
def koTy_e1 := @koTy.eq_1
def koTy_e2 := @koTy.eq_2
def koTy_e3 := @koTy.eq_3
def koTy2_e1 := @koTy2.eq_1
def koTy2_e2 := @koTy2.eq_2
def koV_e1 := @koV.eq_1
def koV_e2 := @koV.eq_2
def koV_e3 := @koV.eq_3
def kor_e1 := @kor.eq_1
def kor_e2 := @kor.eq_2
def korV_e1 := @korV.eq_1
def korV_e2 := @korV.eq_2
def korV_e3 := @korV.eq_3
def korV_e4 := @korV.eq_4
def kp1_e1 := @kp1.eq_1
def kp1_e2 := @kp1.eq_2
def kp2_e1 := @kp2.eq_1
def kp2_e2 := @kp2.eq_2
def kpInt_e1 := @kpInt.eq_1
def kpInt_e2 := @kpInt.eq_2
def kpInt_e3 := @kpInt.eq_3
def kpInt_e4 := @kpInt.eq_4
def kpick_e1 := @kpick.eq_1
def kpick_e2 := @kpick.eq_2
def kpick_e3 := @kpick.eq_3
def kpick2_e1 := @kpick2.eq_1
def kpick2_e2 := @kpick2.eq_2
def kprim_e1 := @kprim.eq_1
def kprim_e2 := @kprim.eq_2
def kprim_e3 := @kprim.eq_3
def kret_e1 := @kret.eq_1
def kret_e2 := @kret.eq_2
def kret_e3 := @kret.eq_3
def kseq_e1 := @kseq.eq_1
def kseq_e2 := @kseq.eq_2
def ksl1_e1 := @ksl1.eq_1
def ksl1_e2 := @ksl1.eq_2
def ksl1_e3 := @ksl1.eq_3
def ksl2_e1 := @ksl2.eq_1
def ksl2_e2 := @ksl2.eq_2
def ksl2_e3 := @ksl2.eq_3
def ksl3_e1 := @ksl3.eq_1
def ksl3_e2 := @ksl3.eq_2
def ksl3_e3 := @ksl3.eq_3
def ksl4_e1 := @ksl4.eq_1
def ksl4_e2 := @ksl4.eq_2
def kstar_e1 := @kstar.eq_1
def kstar_e2 := @kstar.eq_2
def kstar_e3 := @kstar.eq_3
def kstar1_e1 := @kstar1.eq_1
def kstar1_e2 := @kstar1.eq_2
def kstar2_e1 := @kstar2.eq_1
def kstar2_e2 := @kstar2.eq_2
def kstar2_e3 := @kstar2.eq_3
def ksx_e1 := @ksx.eq_1
def ksx_e2 := @ksx.eq_2
def ksx_e3 := @ksx.eq_3
def ksx1_e1 := @ksx1.eq_1
def ksx1_e2 := @ksx1.eq_2
def ksx2_e1 := @ksx2.eq_1
def ksx2_e2 := @ksx2.eq_2
def ksx2_e3 := @ksx2.eq_3
def ksx3_e1 := @ksx3.eq_1
def ksx3_e2 := @ksx3.eq_2
def ksx4_e1 := @ksx4.eq_1
def ksx4_e2 := @ksx4.eq_2
def ktst_e1 := @ktst.eq_1
def ktst_e2 := @ktst.eq_2
def ktst_e3 := @ktst.eq_3
def ktst_e4 := @ktst.eq_4
def ktup_e1 := @ktup.eq_1
def ktup_e2 := @ktup.eq_2
def ktup_e3 := @ktup.eq_3
def kvar_e1 := @kvar.eq_1
def kvar_e2 := @kvar.eq_2
def kvar_e3 := @kvar.eq_3
end M
local macro_rules
  | `(tactic| simp? only [$xs,*] $[$loc]?) => `(tactic| simp only [M.tyOf, M.itemsOf, M.Plen, M.Plist, M.Ptuple, M.Pgt, M.Pge, M.Plt, M.Ple, M.cmpI, M.Pint, M.Pneg, M.Prev, M.wE_cst, M.wE_var, M.wE_mv, M.wE_frz, M.wO_V, M.wO_S, M.wOs_nil, M.wOs_cons, M.wE_prim, M.wB_tst, M.wB_and, M.wB_or, M.wB_not, M.wB_yes, M.wE_andV, M.wE_orV, M.wE_notV, M.wE_ite, M.wA_nil, M.wA_cons, M.wA_star, M.wE_tup, M.wE_lst, M.wE_call, M.wS_seq, M.wS_skip, M.wS_brk, M.wS_cont, M.wS_asg, M.wS_drop, M.wS_ret, M.wS_if, M.wS_aug, M.wI_V, M.wI_R, M.wI_zip, M.wS_for, M.wE_lc, M.wP_no, M.wP_int, M.wE_slc, M.wE_chn, M.wO_Ty, M.wE_mut, M.wS_setIx, M.wE_dNew, M.wD_nil, M.wD_cons, M.wE_dsp, M.wE_lenSet, M.wS_asg2, M.wS_asgT, M.wOs_app, M.wOs_N, M.wOs_pick, M.kvar_e1, M.kvar_e2, M.kvar_e3, M.kmv_e1, M.kmv_e2, M.kfrz_e1, M.kfrz_e2, M.kfrz_e3, M.koV_e1, M.koV_e2, M.koV_e3, M.koS_e1, M.koS_e2, M.kcons2_e1, M.kcons2_e2, M.kcons2_e3, M.kcons_e1, M.kcons_e2, M.kcons_e3, M.kp2_e1, M.kp2_e2, M.kp1_e1, M.kp1_e2, M.kprim_e1, M.kprim_e2, M.kprim_e3, M.ktst_e1, M.ktst_e2, M.ktst_e3, M.ktst_e4, M.kand_e1, M.kand_e2, M.kor_e1, M.kor_e2, M.knot_e1, M.knot_e2, M.kandV_e1, M.kandV_e2, M.kandV_e3, M.kandV_e4, M.korV_e1, M.korV_e2, M.korV_e3, M.korV_e4, M.knotV_e1, M.knotV_e2, M.knotV_e3, M.kite_e1, M.kite_e2, M.kite_e3, M.kite_e4, M.kac2_e1, M.kac2_e2, M.kac2_e3, M.kac_e1, M.kac_e2, M.kac_e3, M.kstar2_e1, M.kstar2_e2, M.kstar2_e3, M.kstar1_e1, M.kstar1_e2, M.kstar_e1, M.kstar_e2, M.kstar_e3, M.ktup_e1, M.ktup_e2, M.ktup_e3, M.klst_e1, M.klst_e2, M.klst_e3, M.kback_e1, M.kback_e2, M.kback_e3, M.kc1_e1, M.kc1_e2, M.kcall_e1, M.kcall_e2, M.kcall_e3, M.kd1_e1, M.kd1_e2, M.kd2_e1, M.kd2_e2, M.kd3_e1, M.kd3_e2, M.kdef_e1, M.kdef_e2, M.kdef_e3, M.kdef_e4, M.kseq_e1, M.kseq_e2, M.kasg_e1, M.kasg_e2, M.kasg_e3, M.kdrop_e1, M.kdrop_e2, M.kdrop_e3, M.kret_e1, M.kret_e2, M.kret_e3, M.kif_e1, M.kif_e2, M.kif_e3, M.kif_e4, M.kaug2_e1, M.kaug2_e2, M.kaug2_e3, M.kaug2_e4, M.kaug_e1, M.kaug_e2, M.kitV1_e1, M.kitV1_e2, M.kitV_e1, M.kitV_e2, M.kitV_e3, M.kitR_e1, M.kitR_e2, M.kitR_e3, M.kfor_e1, M.kfor_e2, M.kfor_e3, M.kT_e1, M.kT_e2, M.kTurn_e1, M.kTurn_e2, M.kTurn_e3, M.kTurn_e4, M.kTurnW_e1, M.kTurnW_e2, M.kTurnW_e3, M.kTurnW_e4, M.klc2_e1, M.klc2_e2, M.klc_e1, M.klc_e2, M.klc_e3, M.kU2_e1, M.kU2_e2, M.kU1_e1, M.kU1_e2, M.kU1_e3, M.kU0_e1, M.kU0_e2, M.kpInt_e1, M.kpInt_e2, M.kpInt_e3, M.kpInt_e4, M.ksl4_e1, M.ksl4_e2, M.ksl3_e1, M.ksl3_e2, M.ksl3_e3, M.ksl2_e1, M.ksl2_e2, M.ksl2_e3, M.ksl1_e1, M.ksl1_e2, M.ksl1_e3, M.kch5_e1, M.kch5_e2, M.kch4_e1, M.kch4_e2, M.kch3b_e1, M.kch3b_e2, M.kch3b_e3, M.kch3_e1, M.kch3_e2, M.kch3_e3, M.kch2_e1, M.kch2_e2, M.kch1_e1, M.kch1_e2, M.kch1_e3, M.kch0_e1, M.kch0_e2, M.kch0_e3, M.koTy2_e1, M.koTy2_e2, M.koTy_e1, M.koTy_e2, M.koTy_e3, M.kmu3_e1, M.kmu3_e2, M.kmu2_e1, M.kmu2_e2, M.kmu1_e1, M.kmu1_e2, M.kmu1_e3, M.kmu_e1, M.kmu_e2, M.ksx4_e1, M.ksx4_e2, M.ksx3_e1, M.ksx3_e2, M.ksx2_e1, M.ksx2_e2, M.ksx2_e3, M.ksx1_e1, M.ksx1_e2, M.ksx_e1, M.ksx_e2, M.ksx_e3, M.kdp3_e1, M.kdp3_e2, M.kdp2_e1, M.kdp2_e2, M.kdp2_e3, M.kdp1_e1, M.kdp1_e2, M.kdp1_e3, M.kds2_e1, M.kds2_e2, M.kds_e1, M.kds_e2, M.kds_e3, M.kls2_e1, M.kls2_e2, M.kls_e1, M.kls_e2, M.kls_e3, M.kls_e4, M.kas2_e1, M.kas2_e2, M.kas2_e3, M.kas2_e4, M.kasT2_e1, M.kasT2_e2, M.kasT_e1, M.kasT_e2, M.kasT_e3, M.kapp2_e1, M.kapp2_e2, M.kapp2_e3, M.kapp_e1, M.kapp_e2, M.kapp_e3, M.kN_e1, M.kN_e2, M.kN_e3, M.kpick2_e1, M.kpick2_e2, M.kpick_e1, M.kpick_e2, M.kpick_e3, M.getAll, M.Hd.get, M.ownIx, M.outOf, M.lend, M.lentIx, M.back, M.lents, M.tgN, M.tgT, M.tgCons, M.tgNil, M.wipeR, M.restR, List.getElem?_cons_zero, List.getElem?_cons_succ, List.set_cons_zero, List.set_cons_succ, List.map_cons, List.map_nil, List.replicate_succ, List.replicate_zero, List.length_cons, List.length_nil, List.nil_append, List.cons_append, List.append_nil, List.filter_cons, List.filter_nil, Nat.reduceAdd, Nat.reduceSub, Nat.reduceLeDiff, Nat.reduceEqDiff, ↓reduceIte, if_true, if_false, Bool.false_eq_true, Option.map_some, Option.map_none, Option.getD_some, Option.getD_none, and_true, true_and, and_self, reduceCtorEq, Option.some.injEq, Bool.not_true, Bool.not_false, Nat.le_refl, $xs,*] $[$loc]?)
  | `(tactic| simp? [$xs,*] $[$loc]?) => `(tactic| simp only [M.tyOf, M.itemsOf, M.Plen, M.Plist, M.Ptuple, M.Pgt, M.Pge, M.Plt, M.Ple, M.cmpI, M.Pint, M.Pneg, M.Prev, M.wE_cst, M.wE_var, M.wE_mv, M.wE_frz, M.wO_V, M.wO_S, M.wOs_nil, M.wOs_cons, M.wE_prim, M.wB_tst, M.wB_and, M.wB_or, M.wB_not, M.wB_yes, M.wE_andV, M.wE_orV, M.wE_notV, M.wE_ite, M.wA_nil, M.wA_cons, M.wA_star, M.wE_tup, M.wE_lst, M.wE_call, M.wS_seq, M.wS_skip, M.wS_brk, M.wS_cont, M.wS_asg, M.wS_drop, M.wS_ret, M.wS_if, M.wS_aug, M.wI_V, M.wI_R, M.wI_zip, M.wS_for, M.wE_lc, M.wP_no, M.wP_int, M.wE_slc, M.wE_chn, M.wO_Ty, M.wE_mut, M.wS_setIx, M.wE_dNew, M.wD_nil, M.wD_cons, M.wE_dsp, M.wE_lenSet, M.wS_asg2, M.wS_asgT, M.wOs_app, M.wOs_N, M.wOs_pick, M.kvar_e1, M.kvar_e2, M.kvar_e3, M.kmv_e1, M.kmv_e2, M.kfrz_e1, M.kfrz_e2, M.kfrz_e3, M.koV_e1, M.koV_e2, M.koV_e3, M.koS_e1, M.koS_e2, M.kcons2_e1, M.kcons2_e2, M.kcons2_e3, M.kcons_e1, M.kcons_e2, M.kcons_e3, M.kp2_e1, M.kp2_e2, M.kp1_e1, M.kp1_e2, M.kprim_e1, M.kprim_e2, M.kprim_e3, M.ktst_e1, M.ktst_e2, M.ktst_e3, M.ktst_e4, M.kand_e1, M.kand_e2, M.kor_e1, M.kor_e2, M.knot_e1, M.knot_e2, M.kandV_e1, M.kandV_e2, M.kandV_e3, M.kandV_e4, M.korV_e1, M.korV_e2, M.korV_e3, M.korV_e4, M.knotV_e1, M.knotV_e2, M.knotV_e3, M.kite_e1, M.kite_e2, M.kite_e3, M.kite_e4, M.kac2_e1, M.kac2_e2, M.kac2_e3, M.kac_e1, M.kac_e2, M.kac_e3, M.kstar2_e1, M.kstar2_e2, M.kstar2_e3, M.kstar1_e1, M.kstar1_e2, M.kstar_e1, M.kstar_e2, M.kstar_e3, M.ktup_e1, M.ktup_e2, M.ktup_e3, M.klst_e1, M.klst_e2, M.klst_e3, M.kback_e1, M.kback_e2, M.kback_e3, M.kc1_e1, M.kc1_e2, M.kcall_e1, M.kcall_e2, M.kcall_e3, M.kd1_e1, M.kd1_e2, M.kd2_e1, M.kd2_e2, M.kd3_e1, M.kd3_e2, M.kdef_e1, M.kdef_e2, M.kdef_e3, M.kdef_e4, M.kasg_e1, M.kasg_e2, M.kasg_e3, M.kdrop_e1, M.kdrop_e2, M.kdrop_e3, M.kret_e1, M.kret_e2, M.kret_e3, M.kif_e1, M.kif_e2, M.kif_e3, M.kif_e4, M.kaug2_e1, M.kaug2_e2, M.kaug2_e3, M.kaug2_e4, M.kaug_e1, M.kaug_e2, M.kitV1_e1, M.kitV1_e2, M.kitV_e1, M.kitV_e2, M.kitV_e3, M.kitR_e1, M.kitR_e2, M.kitR_e3, M.kfor_e1, M.kfor_e2, M.kfor_e3, M.kT_e1, M.kT_e2, M.kTurn_e1, M.kTurn_e2, M.kTurn_e3, M.kTurn_e4, M.kTurnW_e1, M.kTurnW_e2, M.kTurnW_e3, M.kTurnW_e4, M.klc2_e1, M.klc2_e2, M.klc_e1, M.klc_e2, M.klc_e3, M.kU2_e1, M.kU2_e2, M.kU1_e1, M.kU1_e2, M.kU1_e3, M.kU0_e1, M.kU0_e2, M.kpInt_e1, M.kpInt_e2, M.kpInt_e3, M.kpInt_e4, M.ksl4_e1, M.ksl4_e2, M.ksl3_e1, M.ksl3_e2, M.ksl3_e3, M.ksl2_e1, M.ksl2_e2, M.ksl2_e3, M.ksl1_e1, M.ksl1_e2, M.ksl1_e3, M.kch5_e1, M.kch5_e2, M.kch4_e1, M.kch4_e2, M.kch3b_e1, M.kch3b_e2, M.kch3b_e3, M.kch3_e1, M.kch3_e2, M.kch3_e3, M.kch2_e1, M.kch2_e2, M.kch1_e1, M.kch1_e2, M.kch1_e3, M.kch0_e1, M.kch0_e2, M.kch0_e3, M.koTy2_e1, M.koTy2_e2, M.koTy_e1, M.koTy_e2, M.koTy_e3, M.kmu3_e1, M.kmu3_e2, M.kmu2_e1, M.kmu2_e2, M.kmu1_e1, M.kmu1_e2, M.kmu1_e3, M.kmu_e1, M.kmu_e2, M.ksx4_e1, M.ksx4_e2, M.ksx3_e1, M.ksx3_e2, M.ksx2_e1, M.ksx2_e2, M.ksx2_e3, M.ksx1_e1, M.ksx1_e2, M.ksx_e1, M.ksx_e2, M.ksx_e3, M.kdp3_e1, M.kdp3_e2, M.kdp2_e1, M.kdp2_e2, M.kdp2_e3, M.kdp1_e1, M.kdp1_e2, M.kdp1_e3, M.kds2_e1, M.kds2_e2, M.kds_e1, M.kds_e2, M.kds_e3, M.kls2_e1, M.kls2_e2, M.kls_e1, M.kls_e2, M.kls_e3, M.kls_e4, M.kas2_e1, M.kas2_e2, M.kas2_e3, M.kas2_e4, M.kasT2_e1, M.kasT2_e2, M.kasT_e1, M.kasT_e2, M.kasT_e3, M.kapp2_e1, M.kapp2_e2, M.kapp2_e3, M.kapp_e1, M.kapp_e2, M.kapp_e3, M.kN_e1, M.kN_e2, M.kN_e3, M.kpick2_e1, M.kpick2_e2, M.kpick_e1, M.kpick_e2, M.kpick_e3, M.getAll, M.Hd.get, M.ownIx, M.outOf, M.lend, M.lentIx, M.back, M.lents, M.tgN, M.tgT, M.tgCons, M.tgNil, M.wipeR, M.restR, List.getElem?_cons_zero, List.getElem?_cons_succ, List.set_cons_zero, List.set_cons_succ, List.map_cons, List.map_nil, List.replicate_succ, List.replicate_zero, List.length_cons, List.length_nil, List.nil_append, List.cons_append, List.append_nil, List.filter_cons, List.filter_nil, Nat.reduceAdd, Nat.reduceSub, Nat.reduceLeDiff, Nat.reduceEqDiff, ↓reduceIte, if_true, if_false, Bool.false_eq_true, Option.map_some, Option.map_none, Option.getD_some, Option.getD_none, and_true, true_and, and_self, reduceCtorEq, Option.some.injEq, Bool.not_true, Bool.not_false, Nat.le_refl, $xs,*] $[$loc]?)
/-! MPV: plain facts of values: names, dicts with text keys, ranges, what is in. -/
namespace M
open PySem L2

/-! texts by their signs -/
def mk (l : List Nat) : Str := ⟨l.toArray⟩
theorem mk_list (a : List Nat) : (mk a).cps.toList = a := by simp [mk]
theorem mk_eta (s : Str) : mk s.cps.toList = s := by
  show (⟨s.cps.toList.toArray⟩ : Str) = s
  simp
theorem mk_inj {a b : List Nat} (h : mk a = mk b) : a = b := by
  have : (mk a).cps.toList = (mk b).cps.toList := by rw [h]
  simpa [mk] using this
theorem mk_len (a : List Nat) : (mk a).length = a.length := by show a.toArray.size = _; simp
theorem mk_app (a b : List Nat) : mk a ++ mk b = mk (a ++ b) := by
  show (⟨a.toArray ++ b.toArray⟩ : Str) = _
  simp [mk]
/-- a name of a row -/
def IsName (s : Str) : Prop := ∃ l : List Nat, s = mk l ∧ 1 ≤ l.length ∧ l.length ≤ 8 ∧ ∀ c ∈ l, 97 ≤ c ∧ c ≤ 122
def CpOk (s : Str) : Prop := ∀ c ∈ s.cps.toList, c < 0x110000
theorem IsName.cp {s : Str} (h : IsName s) : CpOk s := by
  obtain ⟨l, rfl, _, _, h⟩ := h
  intro c hc
  rw [mk_list] at hc
  have := h c hc
  omega
theorem IsName.len {s : Str} (h : IsName s) : 1 ≤ s.length ∧ s.length ≤ 8 := by
  obtain ⟨l, rfl, h1, h2, _⟩ := h
  rw [mk_len]; exact ⟨h1, h2⟩
theorem padd_mk (a b : List Nat) (h : a.length + b.length ≤ 100000) : Padd [.str (mk a), .str (mk b)] = some (false, .str (mk (a ++ b))) := by
  rw [padd_str _ _ (by rw [mk_len, mk_len]; exact h), mk_app]
/-! lists of texts -/
def unstr : Val → Str
  | .str s => s
  | _ => ⟨#[]⟩
theorem unstr_map (ss : List Str) : (ss.map Val.str).map unstr = ss := by
  rw [List.map_map]
  exact (List.map_congr_left (fun _ _ => rfl)).trans (List.map_id ss)
theorem perm_strs {ys : List Val} {ss : List Str} (h : ys.Perm (ss.map Val.str)) : ∃ zs : List Str, ys = zs.map Val.str ∧ zs.Perm ss := by
  refine ⟨ys.map unstr, ?_, ?_⟩
  · rw [List.map_map]
    refine ((List.map_congr_left fun y hy => ?_).trans (List.map_id ys)).symm
    obtain ⟨s, _, rfl⟩ := List.mem_map.mp (h.subset hy)
    rfl
  · have := h.map unstr
    rwa [unstr_map] at this
/-! ranges -/
def nums (n : Nat) : List Val := (List.range n).map fun k => .int (k : Nat)
theorem upTo_nums (n : Nat) : M.upTo 0 n = nums n := by simp [M.upTo, nums]
theorem rng_nums (j : Int) (h : 0 ≤ j ∧ j < 1000000000) : rng1 [.int j] = some (nums j.toNat) := by
  simp only [rng1]
  rw [if_pos (small_ok h.1 (by omega)), upTo_nums]
theorem rng_nat (n : Nat) (h : n < 1000000000) : rng1 [.int (n : Nat)] = some (nums n) := by
  rw [rng_nums _ ⟨by omega, by omega⟩]; simp
theorem drop_step {α : Type} {l : List α} {k : Nat} {v : α} {vs : List α} (e : v :: vs = l.drop k) : ∃ h : k < l.length, v = l[k] ∧ vs = l.drop (k + 1) := by
  have h : k < l.length := by
    rcases Nat.lt_or_ge k l.length with z | z
    · exact z
    · rw [List.drop_eq_nil_of_le z] at e; cases e
  rw [List.drop_eq_getElem_cons h] at e
  cases e
  exact ⟨h, rfl, rfl⟩
theorem drop_end {α : Type} {l : List α} {k : Nat} (e : [] = l.drop k) (hk : k ≤ l.length) : k = l.length := by
  rcases Nat.lt_or_ge k l.length with z | z
  · rw [List.drop_eq_getElem_cons z] at e; cases e
  · omega
theorem nums_len (n : Nat) : (nums n).length = n := by simp [nums]
theorem nums_get {n k : Nat} (h : k < (nums n).length) : (nums n)[k] = .int (k : Nat) := by simp [nums]
theorem perm_erase {α : Type} : ∀ (l : List α) (n : Nat) (h : n < l.length), (l[n] :: l.eraseIdx n).Perm l
  | x :: l, 0, _ => by simp
  | x :: l, n + 1, h => by
    have := perm_erase l n (by simpa using h)
    simp only [List.getElem_cons_succ, List.eraseIdx_cons_succ]
    exact (List.Perm.swap _ _ _).trans (this.cons x)
theorem ixN_ok {n : Nat} {i : Int} (h0 : 0 ≤ i) (h1 : i < n) : ixN n i = some i.toNat := by
  unfold ixN
  rw [if_pos h0, if_pos h1]
theorem ixN_last {n : Nat} (h : 0 < n) : ixN n (-1) = some (n - 1) := by
  unfold ixN
  rw [if_neg (by decide), if_pos (by omega)]
  congr 1
  omega
theorem pix_lst {xs : List Val} {i : Int} (h0 : 0 ≤ i) (h1 : i.toNat < xs.length) : Pix [.lst xs, .int i] = some (false, xs[i.toNat]) := by
  simp only [Pix, atI, ixN_ok h0 (by omega : i < xs.length), Option.bind_some, List.getElem?_eq_getElem h1, Option.map_some]
theorem pix_tup {xs : List Val} {i : Int} (h0 : 0 ≤ i) (h1 : i.toNat < xs.length) : Pix [.tup xs, .int i] = some (false, xs[i.toNat]) := by
  simp only [Pix, atI, ixN_ok h0 (by omega : i < xs.length), Option.bind_some, List.getElem?_eq_getElem h1, Option.map_some]
theorem pix_strs {ss : List Str} {i : Int} (h0 : 0 ≤ i) (h1 : i.toNat < ss.length) : Pix [.lst (ss.map .str), .int i] = some (false, .str ss[i.toNat]) := by
  rw [pix_lst h0 (by simpa using h1)]; simp
theorem pix_tstrs {ss : List Str} {i : Int} (h0 : 0 ≤ i) (h1 : i.toNat < ss.length) : Pix [.tup (ss.map .str), .int i] = some (false, .str ss[i.toNat]) := by
  rw [pix_tup h0 (by simpa using h1)]; simp
theorem pix_last {xs : List Val} (h : 0 < xs.length) : Pix [.lst xs, .int (-1)] = some (false, xs[xs.length - 1]) := by
  simp only [Pix, atI, ixN_last h, Option.bind_some, List.getElem?_eq_getElem (by omega : xs.length - 1 < xs.length), Option.map_some]
theorem mapp {ds : List Val} {v : Val} (h : ds.length < 100000) : Mappend (.lst ds) [v] = some (.lst (ds ++ [v]), .non) := by
  simp only [Mappend]; rw [if_pos h]
/-! dicts with text keys -/
def sd (ps : List (Str × Val)) : List (Val × Val) := ps.map fun p => (.str p.1, p.2)
theorem dGet_sd (k : Str) : ∀ ps : List (Str × Val), dGet (sd ps) (.inr k) = ps.lookup k
  | [] => rfl
  | p :: ps => by
    have ih := dGet_sd k ps
    unfold dGet at ih ⊢
    simp only [sd, List.map_cons, List.find?_cons, M.keyIs, List.lookup] at ih ⊢
    cases h : k == p.1 with
    | true => simp
    | false => simpa using ih
theorem sd_any (k : Str) (ps : List (Str × Val)) : ((sd ps).any fun p => M.keyIs (.inr k) p.1) = decide (k ∈ ps.map (·.1)) := by
  rw [Bool.eq_iff_iff]
  simp only [sd, List.any_map, List.any_eq_true, Function.comp, M.keyIs, beq_iff_eq, decide_eq_true_eq, List.mem_map]
  constructor
  · rintro ⟨p, hp, e⟩; exact ⟨p, hp, e.symm⟩
  · rintro ⟨p, hp, e⟩; exact ⟨p, hp, e.symm⟩
theorem dPut_new {k : Str} {v : Val} {ps : List (Str × Val)} (h : k ∉ ps.map (·.1)) : dPut (sd ps) (.inr k) v = sd (ps ++ [(k, v)]) := by
  unfold dPut
  rw [sd_any, decide_eq_false h]
  simp [sd, M.kv]
theorem sd_len (ps : List (Str × Val)) : (sd ps).length = ps.length := by simp [sd]
theorem putIx_new {k : Str} {v : Val} {ps : List (Str × Val)} (h : k ∉ ps.map (·.1)) (hl : ps.length < 100000) : putIx (.dct false (sd ps)) (.str k) v = some (.dct false (sd (ps ++ [(k, v)]))) := by
  simp only [putIx, M.keyOf, sd_len]
  rw [if_pos hl, dPut_new h]
theorem pix_sd (k : Str) (ps : List (Str × Val)) : Pix [.dct false (sd ps), .str k] = (ps.lookup k).map fun d => (false, d) := by
  simp only [Pix, M.keyOf, dGet_sd]
theorem lookup_mem {α : Type} {k : Str} {v : α} : ∀ {ps : List (Str × α)}, ps.lookup k = some v → (k, v) ∈ ps
  | [], h => by cases h
  | (a, b) :: ps, h => by
    rw [List.lookup_cons] at h
    cases e : k == a with
    | true => rw [e] at h; cases h; rw [beq_iff_eq.mp e]; exact List.mem_cons_self
    | false => rw [e] at h; exact List.mem_cons_of_mem _ (lookup_mem h)
theorem lookup_some {α : Type} {k : Str} : ∀ {ps : List (Str × α)}, k ∈ ps.map (·.1) → ∃ v, ps.lookup k = some v
  | [], h => by cases h
  | (a, b) :: ps, h => by
    rw [List.lookup_cons]
    cases e : k == a with
    | true => exact ⟨b, rfl⟩
    | false =>
      refine lookup_some ?_
      rw [List.map_cons] at h
      rcases List.mem_cons.mp h with z | z
      · subst z; simp at e
      · exact z
theorem lookup_none {α : Type} {k : Str} : ∀ {ps : List (Str × α)}, k ∉ ps.map (·.1) → ps.lookup k = none
  | [], _ => rfl
  | (a, b) :: ps, h => by
    rw [List.lookup_cons]
    simp only [List.map_cons, List.mem_cons, not_or] at h
    rw [show (k == a) = false from beq_eq_false_iff_ne.mpr h.1]
    exact lookup_none h.2
theorem lookup_isSome {α : Type} (k : Str) (ps : List (Str × α)) : (ps.lookup k).isSome = decide (k ∈ ps.map (·.1)) := by
  by_cases h : k ∈ ps.map (·.1)
  · obtain ⟨v, e⟩ := lookup_some h
    rw [e, decide_eq_true h]; rfl
  · rw [lookup_none h, decide_eq_false h]; rfl
theorem pin_sd (k : Str) (ps : List (Str × Val)) : PinX [.str k, .dct false (sd ps)] = some (false, .bl (decide (k ∈ ps.map (·.1)))) := by
  simp only [PinX, orP, PinD, M.keyOf, dGet_sd, lookup_isSome]
theorem pnotin_sd (k : Str) (ps : List (Str × Val)) : PnotInX [.str k, .dct false (sd ps)] = some (false, .bl (!decide (k ∈ ps.map (·.1)))) := by
  simp only [PnotInX, orP, PnotInD, M.keyOf, dGet_sd, lookup_isSome]
theorem sd_keys (ps : List (Str × Val)) : (sd ps).map (·.1) = ps.map fun p => .str p.1 := by simp [sd]
/-! what is in a list, in a tuple -/
theorem eqv_str (a b : Str) : PyData.eqv (.str a) (.str b) = (a == b) := by simp [PyData.eqv]
theorem any_strs (x : Str) (ss : List Str) : ((ss.map PyData.str).any fun z => PyData.eqv z (.str x)) = decide (x ∈ ss) := by
  rw [Bool.eq_iff_iff]
  simp only [List.any_map, List.any_eq_true, Function.comp, eqv_str, beq_iff_eq, decide_eq_true_eq]
  constructor
  · rintro ⟨p, hp, e⟩; rw [← e]; exact hp
  · intro h; exact ⟨x, h, rfl⟩
theorem shp_str {s : Str} (h : CpOk s) : shp (.str s) = true := by
  have hs : PyData.strOk s = true := by
    unfold PyData.strOk
    rw [Array.all_eq_true_iff_forall_mem]
    intro c hc
    exact decide_eq_true (h c (by simpa using hc))
  show SeqAt.shaped _ = true
  simp [SeqAt.shaped, PyData.canLay0, PyData.depth, hs]
theorem pin_tup (x : Str) (ss : List Str) : PinX [.str x, .tup (ss.map .str)] = some (false, .bl (decide (x ∈ ss))) := by
  have h1 : (ss.map PyData.str).all flatD = true := by simp [flatD]
  simp only [PinX, orP, PinD, Pin, inOf, inTup, toD, toDs_strs, flatD, h1, and_self, if_true, Option.map_some, any_strs]
theorem pnotin_tup (x : Str) (ss : List Str) : PnotInX [.str x, .tup (ss.map .str)] = some (false, .bl (!decide (x ∈ ss))) := by
  have h1 : (ss.map PyData.str).all flatD = true := by simp [flatD]
  simp only [PnotInX, orP, PnotInD, PnotIn, inOf, inTup, toD, toDs_strs, flatD, h1, and_self, if_true, Option.map_some, any_strs]
theorem pin_lst (x : Str) (ss : List Str) (hx : CpOk x) (h : ∀ s ∈ ss, CpOk s) : PinX [.str x, .lst (ss.map .str)] = some (false, .bl (decide (x ∈ ss))) := by
  simp only [PinX, orP, PinD, Pin, inOf, toD, toDs_strs, shp_str hx, shp_strs ss h, and_self, if_true, any_strs]
theorem pnotin_lst (x : Str) (ss : List Str) (hx : CpOk x) (h : ∀ s ∈ ss, CpOk s) : PnotInX [.str x, .lst (ss.map .str)] = some (false, .bl (!decide (x ∈ ss))) := by
  simp only [PnotInX, orP, PnotInD, PnotIn, inOf, toD, toDs_strs, shp_str hx, shp_strs ss h, and_self, if_true, any_strs]
theorem peq_nilX (ss : List Str) (h : ∀ s ∈ ss, CpOk s) : PeqX [.lst (ss.map .str), .lst []] = some (false, .bl (decide (ss = []))) := by
  have := peq_nil ss h
  simpa [PeqX, orP, PeqS] using this
theorem peqI (i j : Int) : PeqX [.int i, .int j] = some (false, .bl (decide (i = j))) := by
  simp only [PeqX, orP, PeqS]
  congr 2
theorem peqT (i j : Str) : PeqX [.str i, .str j] = some (false, .bl (decide (i = j))) := by
  simp only [PeqX, orP, PeqS]
  congr 2
theorem pneT (i j : Str) : PneX [.str i, .str j] = some (false, .bl (!decide (i = j))) := by
  simp only [PneX, orP, PneS]
  congr 2
theorem pneI (i j : Int) : PneX [.int i, .int j] = some (false, .bl (!decide (i = j))) := by
  simp only [PneX, orP, PneS]
  congr 2
theorem asStrs_map (ss : List Str) : asStrs (ss.map Val.str) = some ss := by
  induction ss with
  | nil => rfl
  | cons s ss ih => simp [asStrs, ih]
/-! sums and products of nums that stay small -/
theorem pmodI {i j : Int} (h : 0 < j) : Pmod [.int i, .int j] = some (false, .int (i % j)) := by
  simp only [Pmod]; rw [if_pos h]
/-! of which type -/
abbrev tyNs : List String := ["NoneType", "bool", "int", "str", "tuple", "list", "dict"]
abbrev tyTs : List String := ["str", "tuple", "list", "dict", "int", "bool"]
theorem kit_tab : ∀ a ∈ tyNs, ∀ T ∈ tyTs, kitB a T = some (a == T || (a == "bool" && T == "int")) := by decide +kernel
def isI (T : String) (v : Val) : Bool := match tyOf v with
  | some a => a == T || (a == "bool" && T == "int")
  | none => false
theorem tyOf_mem {v : Val} {a : String} (h : tyOf v = some a) : a ∈ tyNs := by
  cases v <;> simp only [tyOf, Option.some.injEq, reduceCtorEq] at h <;> subst h <;> simp
theorem pisi_ok {v : Val} {T : String} (hv : (tyOf v).isSome = true) (hT : T ∈ tyTs) : Pisi [v, .ty T] = some (false, .bl (isI T v)) := by
  cases h : tyOf v with
  | none => rw [h] at hv; cases hv
  | some a => simp only [Pisi, isI, h, kit_tab a (tyOf_mem h) T hT, Option.map_some]
theorem isi_tt (xs : List Val) : Pisi [.tup xs, .ty "tuple"] = some (false, .bl true) := pisi_ok rfl (by simp)
theorem isi_ss (s : Str) : Pisi [.str s, .ty "str"] = some (false, .bl true) := pisi_ok rfl (by simp)
/-! slices -/
theorem cut_to {α : Type} (xs : List α) (n : Nat) : cutA xs none (some (n : Int)) = xs.take n := by
  unfold cutA
  have h1 : HT.sIx xs.length 0 none = 0 := rfl
  have h2 : HT.sIx xs.length xs.length (some (n : Int)) = min n xs.length := by
    show min ((n : Int)).toNat xs.length = _
    simp
  rw [h1, h2]
  simp only [Nat.sub_zero, List.drop_zero]
  rcases Nat.le_total n xs.length with h | h
  · rw [Nat.min_eq_left h]
  · rw [Nat.min_eq_right h, List.take_of_length_le h, List.take_of_length_le (Nat.le_refl _)]
theorem cut_from {α : Type} (xs : List α) (n : Nat) : cutA xs (some (n : Int)) none = xs.drop n := by
  unfold cutA
  have h1 : HT.sIx xs.length 0 (some (n : Int)) = min n xs.length := by
    show min ((n : Int)).toNat xs.length = _
    simp
  have h2 : HT.sIx xs.length xs.length none = xs.length := rfl
  rw [h1, h2]
  rcases Nat.le_total n xs.length with h | h
  · rw [Nat.min_eq_left h, List.take_of_length_le (by simp)]
  · rw [Nat.min_eq_right h, List.drop_of_length_le h]; simp
theorem cut_but {α : Type} (xs : List α) : cutA xs none (some (-1)) = xs.dropLast := by
  unfold cutA
  have h1 : HT.sIx xs.length 0 none = 0 := rfl
  have h2 : HT.sIx xs.length xs.length (some (-1)) = xs.length - 1 := by
    unfold HT.sIx
    simp only []
    rw [if_pos (by decide)]
    omega
  rw [h1, h2]
  simp [List.dropLast_eq_take]
/-! comprehensions over values -/
theorem wC_mapV {t : TF} {c : BF} {f : EF} {sl : List Nat} {env : Env} {Q : AR → Prop} (z : Val → Val) (p : Val → Bool) (xs : List Val)
    (h : ∀ x ∈ xs, ∃ r1, t x env = some r1 ∧ wB c r1 (fun s => s = .ok (p x) r1) ∧ wipeR r1 sl = env ∧ (p x = true → wE f r1 fun s => ∃ o r3, s = .ok o (z x) r3 ∧ wipeR r3 sl = env)) (hl : xs.length ≤ 100000)
    (q : Q (.ok ((xs.filter p).map z) env)) : wC t c f sl xs [] env Q := by
  have := wC_map (t := t) (c := c) (f := f) (sl := sl) (env := env) (Q := Q) (fun x => x) z p xs h hl q
  rwa [List.map_id'] at this
theorem filter_yes {α : Type} (xs : List α) : xs.filter (fun _ => true) = xs := List.filter_eq_self.mpr (by simp)
theorem pall_map {α : Type} (f : α → Bool) (xs : List α) : Pall [.lst (xs.map fun x => .bl (f x))] = some (false, .bl (xs.all f)) := by
  have : asBls (xs.map fun x => Val.bl (f x)) = some (xs.map f) := by
    have := asBls_comp f xs
    simpa [Function.comp_def] using this
  simp only [Pall, this, Option.map_some]
  congr 3
  rw [List.all_map]; rfl
theorem pany_map {α : Type} (f : α → Bool) (xs : List α) : Pany [.lst (xs.map fun x => .bl (f x))] = some (false, .bl (xs.any f)) := by
  have : asBls (xs.map fun x => Val.bl (f x)) = some (xs.map f) := by
    have := asBls_comp f xs
    simpa [Function.comp_def] using this
  simp only [Pany, this, Option.map_some]
  congr 3
  rw [List.any_map]; rfl
/-! len(set(..)) -/
theorem metS_mem {ss : List Str} : ∀ {i : Nat}, i ≤ ss.length → ∀ k, k ∈ metS ss i ↔ k ∈ ss.take i
  | 0, _, k => by simp [metS]
  | i + 1, h, k => by
    have hi : i < ss.length := h
    have ih := metS_mem (ss := ss) (i := i) (by omega)
    rw [metS, List.getElem?_eq_getElem hi, List.take_succ_eq_append_getElem hi]
    simp only
    split
    · rename_i hx
      rw [ih k]
      simp only [List.mem_append, List.mem_singleton]
      constructor
      · exact .inl
      · rintro (z | z)
        · exact z
        · obtain ⟨y, hy, e⟩ := List.any_eq_true.mp hx
          rw [z, ← beq_iff_eq.mp e]; exact (ih y).mp hy
    · simp only [List.mem_append, ih k]
theorem metS_nodup {ss : List Str} : ∀ {i : Nat}, i ≤ ss.length → (metS ss i).length ≤ i ∧ ((metS ss i).length = i ↔ (ss.take i).Nodup)
  | 0, _ => by simp [metS]
  | i + 1, h => by
    have hi : i < ss.length := h
    have ih := metS_nodup (ss := ss) (i := i) (by omega)
    have mm := metS_mem (ss := ss) (i := i) (by omega)
    rw [metS, List.getElem?_eq_getElem hi, List.take_succ_eq_append_getElem hi]
    have nd : (ss.take i ++ [ss[i]]).Nodup ↔ (ss.take i).Nodup ∧ ss[i] ∉ ss.take i := by
      rw [List.nodup_append]
      constructor
      · rintro ⟨h1, _, h3⟩; exact ⟨h1, fun z => h3 _ z _ (by simp) rfl⟩
      · rintro ⟨h1, h2⟩; exact ⟨h1, by simp, fun a ha b hb e => h2 (by rw [List.mem_singleton.mp hb] at e; rw [← e]; exact ha)⟩
    rw [nd]
    simp only
    split
    · rename_i hx
      obtain ⟨y, hy, e⟩ := List.any_eq_true.mp hx
      rw [beq_iff_eq.mp e] at hy
      refine ⟨by omega, ⟨fun z => by omega, fun z => absurd ((mm _).mp hy) z.2⟩⟩
    · rename_i hx
      simp only [List.length_append, List.length_singleton]
      refine ⟨by omega, ?_⟩
      rw [Nat.add_right_cancel_iff, ih.2]
      constructor
      · intro z; exact ⟨z, fun y => hx (List.any_eq_true.mpr ⟨_, (mm _).mpr y, by simp⟩)⟩
      · exact fun z => z.1
theorem set_lt (ss : List Str) : decide (((metS ss ss.length).length : Int) < (ss.length : Int)) = !decide ss.Nodup := by
  have := metS_nodup (ss := ss) (Nat.le_refl _)
  rw [List.take_length] at this
  by_cases h : ss.Nodup
  · have e := this.2.mpr h
    rw [decide_eq_true h, e]; simp
  · have e : (metS ss ss.length).length ≠ ss.length := fun z => h (this.2.mp z)
    rw [decide_eq_false h]; simp; omega
theorem set_eq (ss : List Str) : decide (((metS ss ss.length).length : Int) = (ss.length : Int)) = decide ss.Nodup := by
  have := metS_nodup (ss := ss) (Nat.le_refl _)
  rw [List.take_length] at this
  by_cases h : ss.Nodup
  · have e := this.2.mpr h
    rw [decide_eq_true h, e]; simp
  · have e : (metS ss ss.length).length ≠ ss.length := fun z => h (this.2.mp z)
    rw [decide_eq_false h]; simp; omega
/-! == of a tuple of texts with () -/
theorem shp_tup (ss : List Str) (h : ∀ s ∈ ss, CpOk s) : shp (.tuple (ss.map .str)) = true := by
  have := shp_strs ss h
  revert this
  show SeqAt.shaped _ = true → SeqAt.shaped _ = true
  unfold SeqAt.shaped
  simp only [PyData.canLay0, PyData.depth]
  exact id
theorem peq_tnil (ss : List Str) (h : ∀ s ∈ ss, CpOk s) : PeqX [.tup (ss.map .str), .tup []] = some (false, .bl (decide (ss = []))) := by
  have h1 := shp_tup ss h
  have h2 := shp_tup [] (by simp)
  simp only [List.map_nil] at h2
  cases ss with
  | nil => simp [PeqX, orP, PeqS, Peq, toD, toDs, h2, PyData.eqv, PyData.eqvAll]
  | cons c cs =>
    simp only [List.map_cons] at h1
    simp [PeqX, orP, PeqS, Peq, toD, toDs, toDs_strs, h1, h2, PyData.eqv, PyData.eqvAll]
theorem zipV_map (as bs : List Str) : zipV (as.map .str) (bs.map .str) = (as.zip bs).map fun p => .tup [.str p.1, .str p.2] := by
  induction as generalizing bs with
  | nil => simp [zipV]
  | cons a as ih =>
    cases bs with
    | nil => simp [zipV]
    | cons b bs => simp [zipV, ih]
theorem findIdx_strs {x : Str} {ss : List Str} (h : x ∈ ss) : ∃ j, j < ss.length ∧ ss[j]? = some x ∧ (∀ i < j, ss[i]? ≠ some x) ∧ (ss.map PyData.str).findIdx? (fun z => PyData.eqv z (.str x)) = some j := by
  induction ss with
  | nil => cases h
  | cons s ss ih =>
    by_cases e : s = x
    · subst e
      exact ⟨0, by simp, rfl, by simp, by simp [List.findIdx?_cons, eqv_str]⟩
    · have : x ∈ ss := (List.mem_cons.mp h).resolve_left fun z => e z.symm
      obtain ⟨j, hj, h1, h2, h3⟩ := ih this
      refine ⟨j + 1, by simpa using hj, by simpa using h1, fun i hi => ?_, ?_⟩
      · cases i with
        | zero => simpa using e
        | succ i => simpa using h2 i (by omega)
      · rw [List.map_cons, List.findIdx?_cons, eqv_str, h3]
        simp [e]
theorem pindex_strs {x : Str} {ss : List Str} (h : x ∈ ss) (hx : CpOk x) (hc : ∀ s ∈ ss, CpOk s) : ∃ j : Nat, j < ss.length ∧ ss[j]? = some x ∧ (∀ i < j, ss[i]? ≠ some x) ∧ Pindex [.lst (ss.map .str), .str x] = some (false, .int (j : Nat)) := by
  obtain ⟨j, hj, h1, h2, h3⟩ := findIdx_strs h
  refine ⟨j, hj, h1, h2, ?_⟩
  simp only [Pindex, toDs_strs, toD]
  rw [if_pos ⟨shp_strs ss hc, shp_str hx⟩, h3]; rfl
theorem padd_l (xs ys : List Val) (h : xs.length + ys.length ≤ 100000) : Padd [.lst xs, .lst ys] = some (true, .lst (xs ++ ys)) := by
  simp only [Padd]; rw [if_pos h]
theorem padd_I (i j : Int) : Padd [.int i, .int j] = some (false, .int (i + j)) := rfl
theorem cut_fromI {α : Type} (xs : List α) {d : Int} (h : 0 ≤ d) : cutA xs (some d) none = xs.drop d.toNat := by
  obtain ⟨k, rfl⟩ := Int.eq_ofNat_of_zero_le h
  exact cut_from xs k
theorem cut_toI {α : Type} (xs : List α) {d : Int} (h : 0 ≤ d) : cutA xs none (some d) = xs.take d.toNat := by
  obtain ⟨k, rfl⟩ := Int.eq_ofNat_of_zero_le h
  exact cut_to xs k
theorem pmul_l (xs : List Val) (n : Nat) (h1 : n ≤ 100000) (h : xs.length * n ≤ 100000) : Pmul [.lst xs, .int (n : Nat)] = some (true, .lst (List.replicate n xs).flatten) := by
  simp only [Pmul, Int.toNat_natCast]; rw [if_pos ⟨by omega, by omega, h⟩]
end M
/-! MPU: how long a repr is. -/
namespace M
open PySem L2

mutual
/-- no less than the signs of a repr -/
def rsz : PyData → Nat
  | .none => 4
  | .bool _ => 5
  | .int i => (PySem.Str.ofString (toString i)).length
  | .str s => 10 * s.length + 2
  | .list xs => rszs xs + 2
  | .tuple xs => rszs xs + 3
  | .dict kvs => rszk kvs + 2
def rszs : List PyData → Nat
  | [] => 0
  | x :: xs => rsz x + 2 + rszs xs
def rszk : List (PyData × PyData) → Nat
  | [] => 0
  | (k, v) :: r => rsz k + rsz v + 4 + rszk r
end
mutual
/-- texts of Unicode signs alone -/
def txOk : PyData → Bool
  | .str s => PyData.strOk s
  | .list xs => txOks xs
  | .tuple xs => txOks xs
  | .dict kvs => txOkk kvs
  | _ => true
def txOks : List PyData → Bool
  | [] => true
  | x :: xs => txOk x && txOks xs
def txOkk : List (PyData × PyData) → Bool
  | [] => true
  | (k, v) :: r => txOk k && txOk v && txOkk r
end
theorem strOk_iff {s : Str} : PyData.strOk s = true ↔ CpOk s := by
  unfold PyData.strOk CpOk
  rw [Array.all_eq_true_iff_forall_mem]
  constructor
  · intro h c hc; exact of_decide_eq_true (h c (by simpa using hc))
  · intro h c hc; exact decide_eq_true (h c (by simpa using hc))
theorem join_le : ∀ ts : List Str, (Str.join ", " ts).length ≤ piled ts
  | [] => by show (0 : Nat) ≤ _; omega
  | t :: ts => by have := join_length_add (t :: ts) (by simp); omega
theorem textFrom_le : ∀ (ts : List Str) (k : Nat) (acc : Str), (textFrom k acc ts).length ≤ acc.length + piled ts := by
  intro ts
  induction ts with
  | nil => intro k acc; simp [textFrom, piled]
  | cons t ts ih =>
    intro k acc
    rw [textFrom, piled_cons]
    refine Nat.le_trans (ih _ _) ?_
    have e2 : ((", " : String) : Str).length = 2 := rfl
    have e3 : (("" : String) : Str).length = 0 := rfl
    split <;> simp only [strLen_append, e2, e3] <;> omega
mutual
theorem shown_le : ∀ d : PyData, txOk d = true → d.shown.length ≤ rsz d
  | .none, _ => by rw [PyData.shown, rsz]; decide
  | .bool b, _ => by rw [PyData.shown, rsz]; cases b <;> decide
  | .int i, _ => by rw [PyData.shown, rsz]; exact Nat.le_refl _
  | .str s, h => by
    rw [PyData.shown, rsz]
    rw [txOk, strOk_iff] at h
    exact PySem.StrLaws.reprText_len s fun c hc => Nat.lt_trans (h c hc) (by decide)
  | .list xs, h => by
    rw [PyData.shown, rsz]
    rw [txOk] at h
    have := shownAll_le xs h
    unfold listText
    rw [strLen_append]
    have := textFrom_le (PyData.shownAll xs) 0 "["
    have e1 : (("[" : String) : Str).length = 1 := rfl
    have e2 : (("]" : String) : Str).length = 1 := rfl
    omega
  | .tuple xs, h => by
    rw [PyData.shown, rsz]
    rw [txOk] at h
    have := shownAll_le xs h
    unfold tupleText
    rw [strLen_append, strLen_append]
    have := join_le (PyData.shownAll xs)
    have e1 : (("(" : String) : Str).length = 1 := rfl
    have e3 : (((if (PyData.shownAll xs).length == 1 then ",)" else ")" : String) : Str)).length ≤ 2 := by split <;> decide
    omega
  | .dict kvs, h => by
    rw [PyData.shown, rsz]
    rw [txOk] at h
    have := shownKv_le kvs h
    unfold dictText
    rw [strLen_append, strLen_append]
    have := join_le (PyData.shownKv kvs)
    have e1 : (("{" : String) : Str).length = 1 := rfl
    have e2 : (("}" : String) : Str).length = 1 := rfl
    omega
theorem shownAll_le : ∀ xs : List PyData, txOks xs = true → piled (PyData.shownAll xs) ≤ rszs xs
  | [], _ => by rw [PyData.shownAll, rszs]; exact Nat.le_refl _
  | x :: xs, h => by
    rw [PyData.shownAll, rszs, piled_cons]
    rw [txOks, Bool.and_eq_true] at h
    have := shown_le x h.1
    have := shownAll_le xs h.2
    omega
theorem shownKv_le : ∀ kvs : List (PyData × PyData), txOkk kvs = true → piled (PyData.shownKv kvs) ≤ rszk kvs
  | [], _ => by rw [PyData.shownKv, rszk]; exact Nat.le_refl _
  | (k, v) :: r, h => by
    rw [PyData.shownKv, rszk, piled_cons]
    rw [txOkk, Bool.and_eq_true, Bool.and_eq_true] at h
    have := shown_le k h.1.1
    have := shown_le v h.1.2
    have := shownKv_le r h.2
    have e2 : ((": " : String) : Str).length = 2 := rfl
    rw [strLen_append, strLen_append, e2]
    omega
end
theorem int_rsz {i : Int} (h : i.natAbs < 10 ^ 20) : rsz (.int i) ≤ 21 := by
  rw [rsz]
  have := int_text_length_le10 (a := i) (k := 20) (by decide) h
  rw [ofString_length]; exact this
end M
namespace BB
open PySem L2 M 
def b__law_pen : SF := (ret (dsp [((cst (.str "cells")), (slc (oS 0) pNo (pInt (cst (.int 63))))), ((cst (.str "at")), (cst (.int 0))), ((cst (.str "rest")), (cst (.int 0)))]))
def g__law_pen : GF := runDef [0] 1 1 b__law_pen
def b__law_draw : SF := (seq (ifS (tst (bin Pgt (oV (bin Pix (oS 0) (oV (cst (.str "rest"))))) (oV (cst (.int 0))))) (seq (asg 5 (bin Pmod (oV (bin Pix (oS 0) (oV (cst (.str "rest"))))) (oS 1)))
    (seq (setIx 0 (cst (.str "rest")) (bin Pdiv (oV (bin Pix (oS 0) (oV (cst (.str "rest"))))) (oS 1)))
    (ret (mv 5)))) skip)
    (seq (asg 2 (bin Pix (oS 0) (oV (cst (.str "at")))))
    (seq (setIx 0 (cst (.str "at")) (bin Padd (oS 2) (oV (cst (.int 1)))))
    (seq (asg 3 (frz (bin Padd (oV (bin Pmul (oV (cst (.int 40361))) (oS 2))) (oV (cst (.int 103))))))
    (seq (ifS (tst (bin PneX (oV (bin Pix (oS 0) (oV (cst (.str "cells"))))) (oV (lst asNil)))) (asg 3 (bin Pix (oV (bin Pix (oS 0) (oV (cst (.str "cells"))))) (oV (bin Pmod (oS 2) (oV (prim Plen (osCons (oV (bin Pix (oS 0) (oV (cst (.str "cells"))))) osNil))))))) skip)
    (seq (ifS (andB (tst (bin Plt (oS 2) (oV (prim Plen (osCons (oV (bin Pix (oS 0) (oV (cst (.str "cells"))))) osNil))))) (tst (bin Pge (oV (prim Pabs (osCons (oS 3) osNil))) (oV (bin Ppow (oV (cst (.int 10))) (oV (cst (.int 18)))))))) (seq (asg 6 (frz (bin Padd (oV (bin Pmul (oV (cst (.int 2))) (oV (prim Pabs (osCons (oS 3) osNil))))) (oV (prim Pint (osCons (oV (bin Plt (oS 3) (oV (cst (.int 0))))) osNil))))))
    (seq (setIx 0 (cst (.str "rest")) (bin Pdiv (oS 6) (oS 1)))
    (ret (bin Pmod (oS 6) (oS 1))))) skip)
    (seq (asg 4 (frz (bin Pmod (oV (bin Ppow (oV (bin Padd (oV (bin Padd (oV (bin Pmod (oS 3) (oV (cst (.int 2147483579))))) (oV (bin Pmul (oV (cst (.int 50111))) (oS 2))))) (oV (cst (.int 17))))) (oV (cst (.int 5))))) (oV (cst (.int 2147483647))))))
    (seq (asg 4 (frz (bin Pmod (oV (bin Ppow (oV (bin Padd (oV (bin Pmul (oS 4) (oV (bin Padd (oS 2) (oV (cst (.int 60013))))))) (oV (bin Pmul (oV (bin Pmul (oV (cst (.int 80021))) (oS 2))) (oS 2))))) (oV (cst (.int 3))))) (oV (cst (.int 2147483629))))))
    (ret (bin Pmod (oV (bin Pdiv (oS 4) (oV (cst (.int 64))))) (oS 1)))))))))))
def g__law_draw : GF := runDef [0, 1] 2 7 b__law_draw
def L1__law_names : SF := (seq (asg2 8 9 (asCons (bin Pix (oS 2) (oV (bin Pmod (oV (bin Padd (oS 7) (oS 5))) (oV (cst (.int 26)))))) (asCons (bin Pix (oS 2) (oV (bin Pdiv (oS 5) (oV (cst (.int 26)))))) asNil)))
    (drop (mutE "list" 4 Mappend (asCons (ite (orB (tst (bin Pgt (oS 6) (oV (cst (.int 0))))) (tst (bin Pgt (oS 5) (oV (cst (.int 25)))))) (bin Padd (oV (bin Padd (oS 3) (oS 8))) (oS 9)) (var 8)) asNil))))
def b__law_names : SF := (seq (asg 2 (cst (.str "abcdefghijklmnopqrstuvwxyz")))
    (seq (asg2 6 7 (asCons (callG 2 g__law_draw (osCons (oS 0) (osCons (oV (cst (.int 3))) osNil))) (asCons (callG 2 g__law_draw (osCons (oS 0) (osCons (oV (cst (.int 26))) osNil))) asNil)))
    (seq (asg 3 (bin Pix (oV (lst (asCons (cst (.str "")) (asCons (cst (.str "")) (asCons (cst (.str "zzzzzz")) asNil))))) (oS 6)))
    (seq (asg 4 (lst asNil))
    (seq (forS (itR rng1 (asCons (var 1) asNil)) (tgN 5) L1__law_names)
    (ret (mv 4)))))))
def g__law_names : GF := runDef [0, 1] 2 10 b__law_names
def E1__law_shuffled : EF := (mutE "list" 2 MpopAt (asCons (callG 2 g__law_draw (osCons (oS 0) (osCons (oV (frz (prim Plen (osCons (oS 2) osNil)))) osNil))) asNil))
def b__law_shuffled : SF := (seq (asg 2 (prim Plist (osCons (oS 1) osNil)))
    (ret (lc (itR rng1 (asCons (prim Plen (osCons (oS 2) osNil)) asNil)) (tgN 3) yesB E1__law_shuffled [3])))
def g__law_shuffled : GF := runDef [0, 1] 2 4 b__law_shuffled
end BB
namespace BB
open PySem L2 M 
/-! ### the plain law -/
abbrev pen (cs : List Int) (t r : Int) : Val := .dct false [(.str "cells", .lst (cs.map .int)), (.str "at", .int t), (.str "rest", .int r)]
theorem pn0 (cs : List Int) (t r : Int) : Pix [pen cs t r, .str "cells"] = some (false, .lst (cs.map .int)) := rfl
theorem pn1 (cs : List Int) (t r : Int) : Pix [pen cs t r, .str "at"] = some (false, .int t) := rfl
theorem pn2 (cs : List Int) (t r : Int) : Pix [pen cs t r, .str "rest"] = some (false, .int r) := rfl
theorem pu1 (cs : List Int) (t r e : Int) : putIx (pen cs t r) (.str "at") (.int e) = some (pen cs e r) := rfl
theorem pu2 (cs : List Int) (t r e : Int) : putIx (pen cs t r) (.str "rest") (.int e) = some (pen cs t e) := rfl
theorem pneX_nil (cs : List Int) : PneX [.lst (cs.map .int), .lst []] = some (false, .bl (decide (cs ≠ []))) := by
  have := pne_nil cs
  simp [PneX, orP, PneS, this]
def mixed (c t : Int) : Int := ((c % 2147483579 + 50111 * t + 17) ^ 5 % 2147483647 * (t + 60013) + 80021 * t * t) ^ 3 % 2147483629
def cell (cs : List Int) (t : Int) : Option Int := if cs = [] then some (40361 * t + 103) else match Pix [.lst (cs.map .int), .int (t % (cs.length : Int))] with
  | some (false, .int c) => some c
  | _ => none
theorem cell_some (cs : List Int) (t : Int) (ht : 0 ≤ t) : ∃ c, cell cs t = some c := by
  unfold cell
  by_cases h : cs = []
  · exact ⟨_, if_pos h⟩
  · obtain ⟨c, e⟩ := ix_mod cs t h ht
    exact ⟨c, by rw [if_neg h, e]⟩
theorem draw_rest (cs : List Int) (t r n : Int) (hr : 0 < r) (h0 : 0 < n) (hn : n < 1073741824) :
    g__law_draw [(true, pen cs t r), (false, .int n)] = .ok false (.int (r % n)) (some (true, pen cs t (r / n))) := by
  have hns : smallI 1073741823 n = true := small_ok (by omega) (by omega)
  have h64 : smallI 1073741823 64 = true := rfl
  simp [g__law_draw, b__law_draw, M.dNew, M.dsp, M.dspL, M.putAll, M.asg2, M.mutE, M.tup, M.runDef, M.seq, M.skip, M.ifS, M.asg, M.setIx, M.ret, M.drop, M.tst, M.bin, M.prim, M.osCons, M.osNil, M.oV, M.oS, M.cst, M.var, M.mv, M.frz, M.getAll, M.Hd.get, M.ownIx, M.outOf, M.lst, M.tup, M.asCons, M.asNil, M.andB, M.orB, M.notB, M.callG, M.lend, M.lentIx, M.back, M.lents, M.tgN, M.itV, M.itR, M.forS, M.slc, M.pNo, M.pInt, List.getElem?_cons_zero, List.getElem?_cons_succ, List.set_cons_zero, List.set_cons_succ, List.map_cons, List.map_nil, List.replicate_succ, List.replicate_zero, List.length_cons, List.length_nil, List.nil_append, List.cons_append, List.append_nil, Nat.reduceAdd, Nat.reduceSub, pn2, pu2, Pgt, cmpI, hr, Pmod, h0, hns, h64, Pdiv]
theorem draw_small (cs : List Int) (t n c : Int) (ht : 0 ≤ t) (ht2 : t < 1000000) (h0 : 0 < n) (hn : n < 1073741824) (hc : cell cs t = some c) (hb : ¬ (t < cs.length ∧ 10 ^ 18 ≤ (if c < 0 then -c else c))) :
    g__law_draw [(true, pen cs t 0), (false, .int n)] = .ok false (.int (mixed c t / 64 % n)) (some (true, pen cs (t + 1) 0)) := by
  have hns : smallI 1073741823 n = true := small_ok (by omega) (by omega)
  have h64 : smallI 1073741823 64 = true := rfl
  have m0 : 0 ≤ c % 2147483579 := Int.emod_nonneg _ (by decide)
  have m1 : c % 2147483579 < 2147483579 := Int.emod_lt_of_pos _ (by decide)
  have p1 : (c % 2147483579 + 50111 * t + 17).natAbs < 2 ^ 64 := by omega
  obtain ⟨z, hz⟩ : ∃ z, z = (c % 2147483579 + 50111 * t + 17) ^ 5 % 2147483647 := ⟨_, rfl⟩
  have z0 : 0 ≤ z := by rw [hz]; exact Int.emod_nonneg _ (by decide)
  have z1 : z < 2147483647 := by rw [hz]; exact Int.emod_lt_of_pos _ (by decide)
  have q1 : z * (t + 60013) ≤ 2147483647 * 1060013 := Int.mul_le_mul (by omega) (by omega) (by omega) (by decide)
  have q0 : 0 ≤ z * (t + 60013) := Int.mul_nonneg z0 (by omega)
  have q2 : 80021 * t * t ≤ 80021 * 1000000 * 1000000 := Int.mul_le_mul (by omega) (by omega) ht (by decide)
  have q3 : 0 ≤ 80021 * t * t := Int.mul_nonneg (by omega) ht
  have p2 : (z * (t + 60013) + 80021 * t * t).natAbs < 2 ^ 64 := by omega
  have k1 : mulOk 40361 t = true := mul_okL (by decide) (by decide)
  have k2 : mulOk 50111 t = true := mul_okL (by decide) (by decide)
  have k3 : mulOk z (t + 60013) = true := mul_okL z0 (by omega)
  have k4 : mulOk 80021 t = true := mul_okL (by decide) (by decide)
  have k5 : mulOk (80021 * t) t = true := mul_ok ht (by omega)
  by_cases h : cs = []
  · have hc' : 40361 * t + 103 = c := by simpa [cell, h] using hc
    have hl : ¬ t < (cs.length : Int) := by rw [h]; simp; omega
    have hpn : PneX [.lst (cs.map .int), .lst []] = some (false, .bl false) := by rw [pneX_nil]; simp [h]
    simp [g__law_draw, b__law_draw, M.dNew, M.dsp, M.dspL, M.putAll, M.asg2, M.mutE, M.tup, M.runDef, M.seq, M.skip, M.ifS, M.asg, M.setIx, M.ret, M.drop, M.tst, M.bin, M.prim, M.osCons, M.osNil, M.oV, M.oS, M.cst, M.var, M.mv, M.frz, M.getAll, M.Hd.get, M.ownIx, M.outOf, M.lst, M.tup, M.asCons, M.asNil, M.andB, M.orB, M.notB, M.callG, M.lend, M.lentIx, M.back, M.lents, M.tgN, M.itV, M.itR, M.forS, M.slc, M.pNo, M.pInt, List.getElem?_cons_zero, List.getElem?_cons_succ, List.set_cons_zero, List.set_cons_succ, List.map_cons, List.map_nil, List.replicate_succ, List.replicate_zero, List.length_cons, List.length_nil, List.nil_append, List.cons_append, List.append_nil, Nat.reduceAdd, Nat.reduceSub, pn0, pn1, pn2, pu1, Pgt, Pge, Plt, cmpI, Pmod, h0, hns, h64, Pdiv, Padd, Pmul, Ppow, Pabs, Pint, Plen, hpn, hl, k1, k2, k4, k5, hc', p1, p2, k3, ← hz, mixed]
  · have hlN : 0 < cs.length := List.length_pos_iff.mpr h
    have hpn : PneX [.lst (cs.map .int), .lst []] = some (false, .bl true) := by rw [pneX_nil]; simp [h]
    have hix : Pix [.lst (cs.map .int), .int (t % (cs.length : Int))] = some (false, .int c) := by
      obtain ⟨c', e⟩ := ix_mod cs t h ht
      unfold cell at hc
      rw [if_neg h, e] at hc
      cases hc
      exact e
    by_cases hl2 : t < (cs.length : Int)
    · have hb' : ¬ (1000000000000000000 : Int) ≤ (if c < 0 then -c else c) := fun z => hb ⟨hl2, z⟩
      simp [g__law_draw, b__law_draw, M.dNew, M.dsp, M.dspL, M.putAll, M.asg2, M.mutE, M.tup, M.runDef, M.seq, M.skip, M.ifS, M.asg, M.setIx, M.ret, M.drop, M.tst, M.bin, M.prim, M.osCons, M.osNil, M.oV, M.oS, M.cst, M.var, M.mv, M.frz, M.getAll, M.Hd.get, M.ownIx, M.outOf, M.lst, M.tup, M.asCons, M.asNil, M.andB, M.orB, M.notB, M.callG, M.lend, M.lentIx, M.back, M.lents, M.tgN, M.itV, M.itR, M.forS, M.slc, M.pNo, M.pInt, List.getElem?_cons_zero, List.getElem?_cons_succ, List.set_cons_zero, List.set_cons_succ, List.map_cons, List.map_nil, List.replicate_succ, List.replicate_zero, List.length_cons, List.length_nil, List.nil_append, List.cons_append, List.append_nil, Nat.reduceAdd, Nat.reduceSub, pn0, pn1, pn2, pu1, Pgt, Pge, Plt, cmpI, Pmod, h0, hns, h64, Pdiv, Padd, Pmul, Ppow, Pabs, Pint, Plen, hpn, hix, hlN, hl2, hb', k1, k2, k4, k5, p1, p2, k3, ← hz, mixed]
    · simp [g__law_draw, b__law_draw, M.dNew, M.dsp, M.dspL, M.putAll, M.asg2, M.mutE, M.tup, M.runDef, M.seq, M.skip, M.ifS, M.asg, M.setIx, M.ret, M.drop, M.tst, M.bin, M.prim, M.osCons, M.osNil, M.oV, M.oS, M.cst, M.var, M.mv, M.frz, M.getAll, M.Hd.get, M.ownIx, M.outOf, M.lst, M.tup, M.asCons, M.asNil, M.andB, M.orB, M.notB, M.callG, M.lend, M.lentIx, M.back, M.lents, M.tgN, M.itV, M.itR, M.forS, M.slc, M.pNo, M.pInt, List.getElem?_cons_zero, List.getElem?_cons_succ, List.set_cons_zero, List.set_cons_succ, List.map_cons, List.map_nil, List.replicate_succ, List.replicate_zero, List.length_cons, List.length_nil, List.nil_append, List.cons_append, List.append_nil, Nat.reduceAdd, Nat.reduceSub, pn0, pn1, pn2, pu1, Pgt, Pge, Plt, cmpI, Pmod, h0, hns, h64, Pdiv, Padd, Pmul, Ppow, Pabs, Pint, Plen, hpn, hix, hlN, hl2, k1, k2, k4, k5, p1, p2, k3, ← hz, mixed]
theorem draw_great (cs : List Int) (t n c : Int) (ht : 0 ≤ t) (ht2 : t < 1000000) (h0 : 0 < n) (hn : n < 1073741824) (hc : cell cs t = some c) (hb : t < cs.length ∧ 10 ^ 18 ≤ (if c < 0 then -c else c)) :
    g__law_draw [(true, pen cs t 0), (false, .int n)] = .ok false (.int ((2 * (if c < 0 then -c else c) + (if c < 0 then 1 else 0)) % n)) (some (true, pen cs (t + 1) ((2 * (if c < 0 then -c else c) + (if c < 0 then 1 else 0)) / n))) := by
  have hns : smallI 1073741823 n = true := small_ok (by omega) (by omega)
  have h64 : smallI 1073741823 64 = true := rfl
  have k1 : mulOk 40361 t = true := mul_okL (by decide) (by decide)
  have k2 : ∀ j, mulOk 2 j = true := fun j => mul_okL (by decide) (by decide)
  have h : cs ≠ [] := fun z => by rw [z] at hb; simp at hb; omega
  have hlN : 0 < cs.length := List.length_pos_iff.mpr h
  have hpn : PneX [.lst (cs.map .int), .lst []] = some (false, .bl true) := by rw [pneX_nil]; simp [h]
  have hix : Pix [.lst (cs.map .int), .int (t % (cs.length : Int))] = some (false, .int c) := by
    obtain ⟨c', e⟩ := ix_mod cs t h ht
    unfold cell at hc
    rw [if_neg h, e] at hc
    cases hc
    exact e
  have hl2 := hb.1
  have hb' : (1000000000000000000 : Int) ≤ (if c < 0 then -c else c) := hb.2
  simp [g__law_draw, b__law_draw, M.dNew, M.dsp, M.dspL, M.putAll, M.asg2, M.mutE, M.tup, M.runDef, M.seq, M.skip, M.ifS, M.asg, M.setIx, M.ret, M.drop, M.tst, M.bin, M.prim, M.osCons, M.osNil, M.oV, M.oS, M.cst, M.var, M.mv, M.frz, M.getAll, M.Hd.get, M.ownIx, M.outOf, M.lst, M.tup, M.asCons, M.asNil, M.andB, M.orB, M.notB, M.callG, M.lend, M.lentIx, M.back, M.lents, M.tgN, M.itV, M.itR, M.forS, M.slc, M.pNo, M.pInt, List.getElem?_cons_zero, List.getElem?_cons_succ, List.set_cons_zero, List.set_cons_succ, List.map_cons, List.map_nil, List.replicate_succ, List.replicate_zero, List.length_cons, List.length_nil, List.nil_append, List.cons_append, List.append_nil, Nat.reduceAdd, Nat.reduceSub, pn0, pn1, pn2, pu1, pu2, Pgt, Pge, Plt, cmpI, Pmod, h0, hns, h64, Pdiv, Padd, Pmul, Ppow, Pabs, Pint, Plen, hpn, hix, hlN, hl2, hb', k1, k2]
/-- a drawn number, the pen behind it -/
theorem draw (cs : List Int) (t r n : Int) (ht : 0 ≤ t) (ht2 : t < 1000000) (hr : 0 ≤ r) (h0 : 0 < n) (hn : n < 1073741824) :
    ∃ d t' r', g__law_draw [(true, pen cs t r), (false, .int n)] = .ok false (.int d) (some (true, pen cs t' r')) ∧ 0 ≤ d ∧ d < n ∧ 0 ≤ t' ∧ t' ≤ t + 1 ∧ 0 ≤ r' := by
  have hns : smallI 1073741823 n = true := small_ok (by omega) (by omega)
  have h64 : smallI 1073741823 64 = true := rfl
  by_cases hz : 0 < r
  · exact ⟨_, _, _, draw_rest cs t r n hz h0 hn, Int.emod_nonneg _ (by omega), Int.emod_lt_of_pos _ h0, ht, by omega, Int.ediv_nonneg hr (by omega)⟩
  · have e : r = 0 := by omega
    subst e
    obtain ⟨c, hc⟩ := cell_some cs t ht
    by_cases hb : t < cs.length ∧ 10 ^ 18 ≤ (if c < 0 then -c else c)
    · exact ⟨_, _, _, draw_great cs t n c ht ht2 h0 hn hc hb, Int.emod_nonneg _ (by omega), Int.emod_lt_of_pos _ h0, by omega, by omega, Int.ediv_nonneg (by split <;> omega) (by omega)⟩
    · exact ⟨_, _, _, draw_small cs t n c ht ht2 h0 hn hc hb, Int.emod_nonneg _ (by omega), Int.emod_lt_of_pos _ h0, by omega, by omega, by omega⟩
theorem pen_made (ns : List Int) (h : ns.length ≤ 63) : g__law_pen [(false, .scr ns)] = .ok true (pen ns 0 0) none := by
  have e : cutA ns none (some 63) = ns := by
    unfold cutA
    have h1 : HT.sIx ns.length 0 none = 0 := rfl
    have h2 : HT.sIx ns.length ns.length (some 63) = ns.length := by
      show min (63 : Int).toNat ns.length = ns.length
      exact Nat.min_eq_right (by omega)
    rw [h1, h2]; simp
  have e2 : putAll [] [(.str "cells", .lst (ns.map .int)), (.str "at", .int 0), (.str "rest", .int 0)] = some [(.str "cells", .lst (ns.map .int)), (.str "at", .int 0), (.str "rest", .int 0)] := rfl
  simp [g__law_pen, b__law_pen, M.runDef, M.ret, M.dsp, M.dspL, M.frz, M.cst, M.slc, M.oS, M.pNo, M.pInt, M.ownIx, M.outOf, Psl, e, e2, Hd.get]
/-! ### names -/
def letters : Str := "abcdefghijklmnopqrstuvwxyz"
def okS (s : Str) : Prop := s.length ≤ 10 ∧ ∀ c ∈ s.cps.toList, c < 0x110000
theorem okS_one {c : Nat} (h : c < 0x110000) : okS (one c) := ⟨by show 1 ≤ 10; decide, (good_one h).2⟩
theorem lend_app (a b : Str) : (a ++ b).cps.toList = a.cps.toList ++ b.cps.toList := by
  show (a.cps ++ b.cps).toList = _
  simp
end BB
namespace BB
open PySem L2 M 
/-! ### the pen, what is drawn: read from the left -/
def Pen (m : Int) (v : Val) : Prop := ∃ cs t r, v = pen cs t r ∧ 0 ≤ t ∧ t ≤ m ∧ 0 ≤ r
theorem Pen.mono {m k : Int} {v : Val} (h : Pen m v) (l : m ≤ k) : Pen k v := by
  obtain ⟨cs, t, r, e, h0, h1, h2⟩ := h
  exact ⟨cs, t, r, e, h0, by omega, h2⟩
theorem Pen.pos {m : Int} {v : Val} (h : Pen m v) : 0 ≤ m := by
  obtain ⟨cs, t, r, e, h0, h1, h2⟩ := h
  omega
theorem draw_wp {m n : Int} {p : Val} {K : GR → Prop} (hp : Pen m p) (hm : m < 1000000) (h0 : 0 < n) (hn : n < 1073741824) (q : ∀ d p', 0 ≤ d → d < n → Pen (m + 1) p' → K (.ok false (.int d) (some (true, p')))) :
    wG g__law_draw [(true, p), (false, .int n)] K := by
  obtain ⟨cs, t, r, e, h1, h2, h3⟩ := hp
  subst e
  obtain ⟨d, t', r', e, d0, d1, t0, t1, r0⟩ := draw cs t r n h1 (by omega) h3 h0 hn
  unfold wG
  rw [e]
  exact q d _ d0 d1 ⟨cs, t', r', rfl, t0, by omega, r0⟩
theorem pen_wp {ns : List Int} {K : GR → Prop} (h : ns.length ≤ 63) (q : ∀ p, Pen 0 p → K (.ok true p none)) : wG g__law_pen [(false, .scr ns)] K := by
  unfold wG
  rw [pen_made ns h]
  exact q _ ⟨ns, 0, 0, rfl, by omega, by omega, by omega⟩
/-! names -/
def nmL (base : List Nat) (w : Bool) (f k : Nat) : List Nat := if w = true ∨ 25 < k then base ++ [97 + (f + k) % 26, 97 + k / 26] else [97 + (f + k) % 26]
theorem nmL_inj {base : List Nat} {w : Bool} {f k j : Nat} (hk : k < 600) (hj : j < 600) (hw : w = false → base = []) (h : nmL base w f k = nmL base w f j) : k = j := by
  unfold nmL at h
  have key : ∀ a b : Nat, (f + a) % 26 = (f + b) % 26 → a / 26 = b / 26 → a = b := by omega
  by_cases h1 : w = true ∨ 25 < k
  · by_cases h2 : w = true ∨ 25 < j
    · rw [if_pos h1, if_pos h2] at h
      have := List.append_cancel_left h
      simp at this
      exact key _ _ (by omega) (by omega)
    · rw [if_pos h1, if_neg h2] at h
      have hb : base = [] := hw (by cases w with | false => rfl | true => exact absurd (.inl rfl) h2)
      rw [hb] at h
      simp at h
  · by_cases h2 : w = true ∨ 25 < j
    · rw [if_neg h1, if_pos h2] at h
      have hb : base = [] := hw (by cases w with | false => rfl | true => exact absurd (.inl rfl) h1)
      rw [hb] at h
      simp at h
    · rw [if_neg h1, if_neg h2] at h
      simp at h
      have h3 : ¬ 25 < k := fun z => h1 (.inr z)
      have h4 : ¬ 25 < j := fun z => h2 (.inr z)
      exact key _ _ (by omega) (by omega)
theorem letters_at (i : Int) (h0 : 0 ≤ i) (h1 : i < 26) : Pix [.str letters, .int i] = some (false, .str (mk [97 + i.toNat])) := by
  have : ∀ j : Fin 26, letters.cps.toList[j.val]? = some (97 + j.val) := by decide +kernel
  have hl : letters.cps.toList.length = 26 := by decide +kernel
  have hx : ixN letters.cps.toList.length i = some i.toNat := by
    unfold ixN
    rw [if_pos h0, if_pos (by rw [hl]; exact h1)]
  have e := this ⟨i.toNat, by omega⟩
  simp only [Pix, atI, hx, Option.bind_some]
  simp only at e
  rw [e]
  rfl
theorem names_turn_wp {a0 a1 : M.Slot} {base : List Nat} {way first k : Int} {acc : List Str} {a8 a9 : M.Slot} {Q : SR → Prop} (hb : base.length ≤ 6) (hk0 : 0 ≤ k) (hk : k < 600) (hf : 0 ≤ first) (ha : acc.length < 100000)
    (q : ∀ b8 b9, Q (.nx [a0, a1, some (false, .str letters), some (false, .str (mk base)), some (true, .lst ((acc ++ [mk (nmL base (decide (0 < way)) first.toNat k.toNat)]).map .str)), some (false, .int k), some (false, .int way), some (false, .int first), b8, b9])) :
    wS L1__law_names [a0, a1, some (false, .str letters), some (false, .str (mk base)), some (true, .lst (acc.map .str)), some (false, .int k), some (false, .int way), some (false, .int first), a8, a9] Q := by
  have m0 : 0 ≤ (first + k) % 26 := Int.emod_nonneg _ (by decide)
  have m1 : (first + k) % 26 < 26 := Int.emod_lt_of_pos _ (by decide)
  have e1 := letters_at _ m0 m1
  have e2 := letters_at (k / 26) (by omega) (by omega)
  have ha' : (acc.map Val.str).length < 100000 := by simpa using ha
  have t1 : ((first + k) % 26).toNat = (first.toNat + k.toNat) % 26 := by omega
  have t2 : (k / 26).toNat = k.toNat / 26 := by omega
  rw [t1] at e1
  rw [t2] at e2
  have pm : Pmod [.int (first + k), .int 26] = some (false, .int ((first + k) % 26)) := rfl
  have pd : Pdiv [.int k, .int 26] = some (false, .int (k / 26)) := rfl
  have pa : Padd [.int first, .int k] = some (false, .int (first + k)) := rfl
  have x1 := padd_mk base [97 + (first.toNat + k.toNat) % 26] (by simp; omega)
  have x2 := padd_mk (base ++ [97 + (first.toNat + k.toNat) % 26]) [97 + k.toNat / 26] (by simp; omega)
  unfold L1__law_names
  simp? only [pa, pm, pd, e1, e2, Pgt, cmpI]
  have := q (some (false, .str (mk [97 + (first.toNat + k.toNat) % 26]))) (some (false, .str (mk [97 + k.toNat / 26])))
  by_cases hw : 0 < way
  · simp? only [hw, decide_true, x1, x2, Mappend, ha', tyOf]
    simpa [nmL, hw] using this
  · by_cases h25 : 25 < k
    · have h25' : 25 < k.toNat := by omega
      simp? only [hw, decide_false, h25, decide_true, x1, x2, Mappend, ha', tyOf]
      simpa [nmL, hw, h25'] using this
    · have h25' : ¬ 25 < k.toNat := by omega
      simp? only [hw, decide_false, h25, x1, x2, Mappend, ha', tyOf]
      simpa [nmL, hw, h25'] using this
theorem nmL_name {base : List Nat} {w : Bool} {f k : Nat} (hb : base.length ≤ 6) (hb2 : ∀ c ∈ base, 97 ≤ c ∧ c ≤ 122) (hk : k < 600) : IsName (mk (nmL base w f k)) := by
  refine ⟨_, rfl, ?_⟩
  unfold nmL
  split
  · refine ⟨by simp, by simp; omega, fun c hc => ?_⟩
    rcases List.mem_append.mp hc with z | z
    · exact hb2 c z
    · simp at z; omega
  · refine ⟨by simp, by simp, fun c hc => ?_⟩
    simp at hc; omega
theorem names_wp {m many : Int} {p : Val} {K : GR → Prop} (hp : Pen m p) (hm : m < 999990) (h0 : 0 ≤ many) (h1 : many < 600)
    (q : ∀ (ss : List Str) (p' : Val), ss.length = many.toNat → ss.Nodup → (∀ s ∈ ss, IsName s) → Pen (m + 2) p' → K (.ok true (.lst (ss.map .str)) (some (true, p')))) : wG g__law_names [(true, p), (false, .int many)] K := by
  have hpos := hp.pos
  unfold g__law_names
  rw [wG_run (by rfl) (by simp [ownIx])]
  unfold b__law_names
  simp? only []
  refine draw_wp hp (by omega) (by decide) (by decide) fun way p1 w0 w1 hp1 => ?_
  simp? only []
  refine draw_wp hp1 (by omega) (by decide) (by decide) fun first p2 f0 f1 hp2 => ?_
  obtain ⟨base, e3, hb, hb2, hb3⟩ : ∃ base : List Nat, Pix [.lst [.str "", .str "", .str "zzzzzz"], .int way] = some (false, .str (mk base)) ∧ base.length ≤ 6 ∧ (∀ c ∈ base, 97 ≤ c ∧ c ≤ 122) ∧ (decide (0 < way) = false → base = []) := by
    have : way = 0 ∨ way = 1 ∨ way = 2 := by omega
    rcases this with z | z | z <;> subst z
    · exact ⟨[], rfl, by decide, by decide, fun _ => rfl⟩
    · exact ⟨[], rfl, by decide, by decide, fun _ => rfl⟩
    · exact ⟨[122, 122, 122, 122, 122, 122], rfl, by decide, by decide, by decide⟩
  simp? only [e3, rng_nums many ⟨h0, by omega⟩]
  refine wL_inv (fun vs r => ∃ (k : Nat) (b5 b8 b9 : M.Slot), vs = (nums many.toNat).drop k ∧ k ≤ many.toNat ∧ r = [some (true, p2), some (false, .int many), some (false, .str letters), some (false, .str (mk base)),
      some (true, .lst (((List.range k).map fun k => mk (nmL base (decide (0 < way)) first.toNat k)).map .str)), b5, some (false, .int way), some (false, .int first), b8, b9]) ?_ ?_ _ _ ⟨0, _, _, _, rfl, by omega, rfl⟩
  · rintro v vs r ⟨k, b5, b8, b9, e, hk, rfl⟩
    obtain ⟨hk2, rfl, rfl⟩ := drop_step e
    rw [nums_get]
    rw [nums_len] at hk2
    simp? only []
    refine names_turn_wp hb (by omega) (by omega) f0 (by simp; omega) fun b8 b9 => ?_
    exact ⟨k + 1, some (false, .int k), b8, b9, rfl, hk2, by simp [List.range_succ]⟩
  · rintro r ⟨k, b5, b8, b9, e, hk, rfl⟩
    have hk2 := drop_end e (by rw [nums_len]; exact hk)
    rw [nums_len] at hk2
    subst hk2
    simp? only []
    refine q _ _ (by simp) ?_ ?_ (hp2.mono (by omega))
    · rw [List.nodup_iff_pairwise_ne, List.pairwise_map]
      refine List.Pairwise.imp_of_mem ?_ List.nodup_range
      intro a b ha hb' hab he
      exact hab (nmL_inj (by have := List.mem_range.mp ha; omega) (by have := List.mem_range.mp hb'; omega) hb3 (mk_inj he))
    · intro s hs
      obtain ⟨k, hk, rfl⟩ := List.mem_map.mp hs
      exact nmL_name hb hb2 (by have := List.mem_range.mp hk; omega)
/-! shuffled -/
theorem shuffled_wp {m : Int} {p : Val} {xs : List Val} {K : GR → Prop} (hp : Pen m p) (hl : xs.length ≤ 1000) (hm : m + xs.length < 999990)
    (q : ∀ (ys : List Val) (p' : Val), ys.Perm xs → Pen (m + xs.length) p' → K (.ok true (.lst ys) (some (true, p')))) : wG g__law_shuffled [(true, p), (false, .lst xs)] K := by
  have hpos := hp.pos
  unfold g__law_shuffled
  rw [wG_run (by rfl) (by simp [ownIx])]
  unfold b__law_shuffled
  simp? only [Plist, Plen, rng_nat xs.length (by omega)]
  refine wC_inv (fun vs acc r => ∃ (left : List Val) (p1 : Val), left.length = vs.length ∧ (acc ++ left).Perm xs ∧ Pen (m + xs.length - vs.length) p1 ∧ r = [some (true, p1), some (false, .lst xs), some (true, .lst left), none]) ?_ ?_ _ _ _ ⟨xs, p, (nums_len _).symm, .refl _, hp.mono (by rw [nums_len]; omega), rfl⟩
  · rintro v vs acc r ⟨left, p1, h1, h2, hp1, rfl⟩
    have hlen := h2.length_eq
    simp only [List.length_append, List.length_cons] at h1 hlen hp1
    simp? only [E1__law_shuffled, Plen]
    refine draw_wp hp1 (by omega) (by omega) (by omega) fun d p2 d0 d1 hp2 => ?_
    have hd : d.toNat < left.length := by omega
    have hx : ixN left.length d = some d.toNat := by
      unfold ixN
      rw [if_pos d0, if_pos d1]
    have hpop : MpopAt (.lst left) [.int d] = some (.lst (left.eraseIdx d.toNat), left[d.toNat]) := by
      simp only [MpopAt, hx, List.getElem?_eq_getElem hd]
      rw [if_pos (by omega)]
    simp? only [tyOf, hpop]
    refine ⟨by omega, left.eraseIdx d.toNat, p2, by rw [List.length_eraseIdx_of_lt hd]; omega, ?_, hp2.mono (by omega), rfl⟩
    rw [List.append_assoc]
    exact ((perm_erase left d.toNat hd).append_left acc).trans h2
  · rintro acc r ⟨left, p1, h1, h2, hp1, rfl⟩
    have : left = [] := List.eq_nil_of_length_eq_zero h1
    subst this
    simp? only []
    exact q acc p1 (by simpa using h2) (hp1.mono (by simp))
end BB
namespace K11
open PySem L2 M BB
def E1__law_tangle : EF := (var 7)
def F2__law_tangle : BF := (andB (tst (bin Pgt (oS 3) (oV (cst (.int 1))))) (tst (bin PeqX (oV (callG 2 g__law_draw (osCons (oS 0) (osCons (oV (bin Pix (oV (lst (asCons (cst (.int 1)) (asCons (cst (.int 1)) (asCons (cst (.int 12)) (asCons (cst (.int 6)) (asCons (cst (.int 3)) asNil))))))) (oS 3))) osNil)))) (oV (cst (.int 0))))))
def L3__law_tangle : SF := (seq (asg 6 (lc (itV (var 2)) (tgN 7) F2__law_tangle E1__law_tangle [7]))
    (seq (ifS (tst (bin PeqX (oS 3) (oV (cst (.int 1))))) (asg 6 (frz (lst (asCons (bin Pix (oS 2) (oV (bin Pmod (oV (bin Padd (oS 5) (oV (cst (.int 1))))) (oS 1)))) asNil)))) skip)
    (seq (ifS (tst (bin PeqX (oV (callG 2 g__law_draw (osCons (oS 0) (osCons (oV (cst (.int 9))) osNil)))) (oV (cst (.int 0))))) (asg 6 (frz (lst (asCons (bin Pix (oS 2) (oS 5)) asNil)))) skip)
    (setIx 4 (bin Pix (oS 2) (oS 5)) (prim Ptuple (osCons (oV (callG 2 g__law_shuffled (osCons (oS 0) (osCons (oV (var 6)) osNil)))) osNil))))))
def b__law_tangle : SF := (seq (asg 2 (frz (callG 2 g__law_names (osCons (oS 0) (osCons (oV (var 1)) osNil)))))
    (seq (asg 3 (frz (callG 2 g__law_draw (osCons (oS 0) (osCons (oV (cst (.int 5))) osNil)))))
    (seq (asg 4 (dNew false))
    (seq (forS (itR rng1 (asCons (var 1) asNil)) (tgN 5) L3__law_tangle)
    (ret (mv 4))))))
def g__law_tangle : GF := runDef [0, 1] 2 8 b__law_tangle
def E1__law_walk : EF := (var 7)
def L2__law_walk : SF := (seq (asg 5 (bin Pix (oS 1) (oV (bin Pix (oS 3) (oV (prim Pneg (osCons (oV (cst (.int 1))) osNil)))))))
    (seq (ifS (tst (bin PeqX (oS 5) (oV (tup asNil)))) (ret (mv 3)) skip)
    (seq (asg 6 (bin Pix (oS 5) (oV (callG 2 g__law_draw (osCons (oS 0) (osCons (oV (frz (prim Plen (osCons (oS 5) osNil)))) osNil))))))
    (seq (ifS (tst (bin PinX (oS 6) (oS 3))) (ret (slc (oS 3) (pInt (prim Pindex (osCons (oTy "list" (oS 3)) (osCons (oS 6) osNil)))) pNo)) skip)
    (drop (mutE "list" 3 Mappend (asCons (var 6) asNil)))))))
def b__law_walk : SF := (seq (asg 2 (lc (itV (var 1)) (tgN 7) yesB E1__law_walk [7]))
    (seq (asg 3 (lst (asCons (bin Pix (oS 2) (oV (callG 2 g__law_draw (osCons (oS 0) (osCons (oV (frz (prim Plen (osCons (oS 2) osNil)))) osNil))))) asNil)))
    (seq (forS (itR rng1 (asCons (prim Plen (osCons (oS 2) osNil)) asNil)) (tgN 4) L2__law_walk)
    (ret (mv 3)))))
def g__law_walk : GF := runDef [0, 1] 2 8 b__law_walk
def E1__law_things : EF := (var 6)
def b__law_things : SF := (seq (asg 2 (frz (callG 2 g__law_walk (osCons (oS 0) (osCons (oV (var 1)) osNil)))))
    (seq (asg 3 (lc (itV (var 1)) (tgN 6) yesB E1__law_things [6]))
    (seq (asg 4 (frz (callG 2 g__law_draw (osCons (oS 0) (osCons (oV (frz (prim Plen (osCons (oS 2) osNil)))) osNil)))))
    (seq (asg 5 (frz (lst (asCons (prim Ptuple (osCons (oS 2) osNil)) (asCons (prim Ptuple (osCons (oV (bin Padd (oV (slc (oS 2) (pInt (var 4)) pNo)) (oV (slc (oS 2) pNo (pInt (var 4)))))) osNil)) (asCons (prim Ptuple (osCons (oV (prim Prev (osCons (oS 2) osNil))) osNil)) (asCons (prim Ptuple (osCons (oV (slc (oS 2) pNo (pInt (prim Pneg (osCons (oV (cst (.int 1))) osNil))))) osNil)) (asCons (prim Ptuple (osCons (oV (bin Pmul (oS 2) (oV (cst (.int 2))))) osNil)) (asCons (prim Plist (osCons (oS 2) osNil)) asNil)))))))))
    (seq (asg 5 (frz (bin Padd (oS 5) (oV (lst (asCons (prim Ptuple (osCons (oV (bin Padd (oV (bin Padd (oV (slc (oS 2) pNo (pInt (var 4)))) (oV (lst (asCons (bin Pix (oS 3) (oV (callG 2 g__law_draw (osCons (oS 0) (osCons (oV (frz (prim Plen (osCons (oS 3) osNil)))) osNil))))) asNil))))) (oV (slc (oS 2) (pInt (bin Padd (oS 4) (oV (cst (.int 1))))) pNo)))) osNil)) (asCons (prim Ptuple (osCons (oV (bin Padd (oS 2) (oV (slc (oS 2) pNo (pInt (cst (.int 1))))))) osNil)) asNil)))))))
    (seq (asg 5 (frz (bin Padd (oS 5) (oV (lst (asCons (tup (asCons (bin Pix (oS 3) (oV (cst (.int 0)))) asNil)) (asCons (tup asNil) (asCons (cst .non) (asCons (bin Pix (oS 3) (oV (cst (.int 0)))) (asCons (cst (.bl true)) (asCons (cst (.int 0)) (asCons (dNew false) (asCons (tup (asCons (cst .non) asNil)) (asCons (tup (asCons (cst (.int 0)) (asCons (cst (.int 1)) asNil))) (asCons (tup (asCons (bin Pix (oS 2) (oV (cst (.int 0)))) (asCons (cst .non) asNil))) (asCons (tup (asCons (tup (asCons (cst (.str "a")) asNil)) asNil)) (asCons (tup (asCons (lst asNil) asNil)) asNil)))))))))))))))))
    (ret (bin Padd (oS 5) (oV (lst (asCons (prim Ptuple (osCons (oV (callG 2 g__law_shuffled (osCons (oS 0) (osCons (oV (var 3)) osNil)))) osNil)) (asCons (prim Ptuple (osCons (oV (slc (oS 3) pNo (pInt (cst (.int 2))))) osNil)) (asCons (tup (asCons (cst (.str "nosuch")) asNil)) (asCons (var 1) asNil))))))))))))))
def g__law_things : GF := runDef [0, 1] 2 7 b__law_things
def E1_is_ring : EF := (andV (prim Pisi (osCons (oS 2) (osCons (oV (cst (.ty "str"))) osNil))) (bin PinX (oS 2) (oS 0)))
def E2_is_ring : EF := (bin PinX (oS 3) (oV (bin Pix (oS 0) (oS 2))))
def b_is_ring : SF := (seq (ifS (orB (notB (tst (prim Pisi (osCons (oS 1) (osCons (oV (cst (.ty "tuple"))) osNil))))) (tst (bin PeqX (oV (prim Plen (osCons (oS 1) osNil))) (oV (cst (.int 0)))))) (ret (cst (.bl false))) skip)
    (seq (ifS (orB (notB (tst (prim Pall (osCons (oV (lc (itV (var 1)) (tgN 2) yesB E1_is_ring [2])) osNil)))) (tst (bin Plt (oV (lenSet (var 1))) (oV (prim Plen (osCons (oS 1) osNil)))))) (ret (cst (.bl false))) skip)
    (ret (prim Pall (osCons (oV (lc (itZip (asCons (var 1) (asCons (tup (asStar (slc (oS 1) (pInt (cst (.int 1))) pNo) (asCons (bin Pix (oS 1) (oV (cst (.int 0)))) asNil))) asNil))) (tgT (tgCons (tgN 2) (tgCons (tgN 3) tgNil))) yesB E2_is_ring [2, 3])) osNil)))))
def g_is_ring : GF := runDef [0, 1] 2 4 b_is_ring
def L1__law_is_ring : SF := (ifS (orB (notB (tst (prim Pisi (osCons (oV (bin Pix (oS 1) (oS 2))) (osCons (oV (cst (.ty "str"))) osNil))))) (orB (tst (bin PnotInX (oV (bin Pix (oS 1) (oS 2))) (oS 0))) (tst (bin PinX (oV (bin Pix (oS 1) (oS 2))) (oV (slc (oS 1) pNo (pInt (var 2)))))))) (ret (cst (.bl false))) skip)
def L2__law_is_ring : SF := (ifS (tst (bin PnotInX (oV (bin Pix (oS 1) (oV (bin Pmod (oV (bin Padd (oS 2) (oV (cst (.int 1))))) (oV (prim Plen (osCons (oS 1) osNil))))))) (oV (bin Pix (oS 0) (oV (bin Pix (oS 1) (oS 2))))))) (ret (cst (.bl false))) skip)
def b__law_is_ring : SF := (seq (ifS (orB (notB (tst (prim Pisi (osCons (oS 1) (osCons (oV (cst (.ty "tuple"))) osNil))))) (tst (bin PeqX (oS 1) (oV (tup asNil))))) (ret (cst (.bl false))) skip)
    (seq (forS (itR rng1 (asCons (prim Plen (osCons (oS 1) osNil)) asNil)) (tgN 2) L1__law_is_ring)
    (seq (forS (itR rng1 (asCons (prim Plen (osCons (oS 1) osNil)) asNil)) (tgN 2) L2__law_is_ring)
    (ret (cst (.bl true))))))
def g__law_is_ring : GF := runDef [0, 1] 2 3 b__law_is_ring
def L1_law : SF := (ifS (tst (bin PneX (oV (prim PreprX (osCons (oV (callG 2 g_is_ring (osCons (oV (var 3)) (osCons (oV (var 5)) osNil)))) osNil))) (oV (prim PreprX (osCons (oV (callG 2 g__law_is_ring (osCons (oV (var 3)) (osCons (oV (var 5)) osNil)))) osNil))))) (ret (cst (.bl false))) skip)
def L2_law : SF := (seq (asg 3 (frz (callG 2 g__law_tangle (osCons (oS 1) (osCons (oV (frz (bin Padd (oV (cst (.int 1))) (oV (callG 2 g__law_draw (osCons (oS 1) (osCons (oV (cst (.int 7))) osNil))))))) osNil)))))
    (seq (asg 4 (frz (prim PreprX (osCons (oS 3) osNil))))
    (seq (forS (itV (callG 2 g__law_things (osCons (oS 1) (osCons (oV (var 3)) osNil)))) (tgN 5) L1_law)
    (ifS (tst (bin PneX (oV (prim PreprX (osCons (oS 3) osNil))) (oS 4))) (ret (cst (.bl false))) skip))))
def b_law : SF := (seq (asg 1 (callG 1 g__law_pen (osCons (oV (var 0)) osNil)))
    (seq (forS (itR rng1 (asCons (cst (.int 5)) asNil)) (tgN 2) L2_law)
    (ret (andV (bin Pis (oV (callG 2 g_is_ring (osCons (oV (frz (dsp [((cst (.str "a")), (tup (asCons (cst (.str "b")) asNil))), ((cst (.str "b")), (tup (asCons (cst (.str "a")) asNil)))]))) (osCons (oV (tup (asCons (cst (.str "b")) (asCons (cst (.str "a")) asNil)))) osNil)))) (oV (cst (.bl true)))) (bin Pis (oV (callG 2 g_is_ring (osCons (oV (frz (dNew false))) (osCons (oV (tup asNil)) osNil)))) (oV (cst (.bl false))))))))
def g_law : GF := runDef [0] 1 6 b_law
end K11
namespace K11
open PySem L2 M BB
/-! ### needs -/
abbrev Nd := List (Str × List Str)
def en (m : Nd) : List (Str × Val) := m.map fun p => (p.1, .tup (p.2.map .str))
abbrev enc (m : Nd) : Val := .dct false (sd (en m))
theorem en_keys (m : Nd) : (en m).map (·.1) = m.map (·.1) := by simp [en]
theorem en_get (m : Nd) (k : Str) : (en m).lookup k = (m.lookup k).map fun vs => .tup (vs.map .str) := by
  induction m with
  | nil => rfl
  | cons p m ih =>
    obtain ⟨a, b⟩ := p
    simp only [en, List.map_cons, List.lookup_cons] at ih ⊢
    cases h : k == a with
    | true => simp
    | false => simpa using ih
structure Good (m : Nd) : Prop where
  nd : (m.map (·.1)).Nodup
  nm : ∀ s ∈ m.map (·.1), IsName s
  vl : ∀ p ∈ m, p.2.length ≤ 7 ∧ ∀ y ∈ p.2, y ∈ m.map (·.1)
  len : 1 ≤ m.length ∧ m.length ≤ 7
theorem dense_ix (d : Int) (h : 1 < d ∧ d < 5) : ∃ q : Int, Pix [.lst [.int 1, .int 1, .int 12, .int 6, .int 3], .int d] = some (false, .int q) ∧ 0 < q ∧ q < 20 := by
  have : d = 2 ∨ d = 3 ∨ d = 4 := by omega
  rcases this with z | z | z <;> subst z
  · exact ⟨12, rfl, by decide, by decide⟩
  · exact ⟨6, rfl, by decide, by decide⟩
  · exact ⟨3, rfl, by decide, by decide⟩
theorem en_add (m : Nd) (k : Str) (vs : List Str) : en m ++ [(k, .tup (vs.map .str))] = en (m ++ [(k, vs)]) := by simp [en]
/-- the slots of a turn -/
abbrev tg (p : Val) (many : Int) (names : List Str) (d : Int) (m : Nd) (k : M.Slot) (s : M.Slot) : M.Env := [some (true, p), some (false, .int many), some (false, .lst (names.map .str)), some (false, .int d), some (true, enc m), k, s, none]
theorem tangle_some {m0 many d : Int} {p : Val} {names : List Str} {m : Nd} {k b6 : M.Slot} {Q : AR → Prop} (hp : Pen m0 p) (hm : m0 < 990000) (hl : names.length ≤ 7) (d1 : d < 5)
    (q : ∀ (ys : List Str) (p' : Val), ys.length ≤ names.length → (∀ y ∈ ys, y ∈ names) → Pen (m0 + names.length) p' → Q (.ok (ys.map .str) (tg p' many names d m k b6))) :
    wC (M.tgN 7) F2__law_tangle E1__law_tangle [7] (names.map .str) [] (tg p many names d m k b6) Q := by
  have hpos := hp.pos
  obtain ⟨I, hI⟩ : ∃ I : List Val → List Val → M.Env → Prop, I = fun vs acc r => ∃ (j : Nat) (ys : List Str) (p4 : Val), vs = (names.map Val.str).drop j ∧ j ≤ names.length ∧ acc = ys.map .str ∧ ys.length ≤ j ∧ (∀ y ∈ ys, y ∈ names) ∧ Pen (m0 + j) p4 ∧ r = tg p4 many names d m k b6 := ⟨_, rfl⟩
  refine wC_inv I ?_ ?_ _ _ _ (by rw [hI]; exact ⟨0, [], p, rfl, by omega, rfl, by simp, by simp, hp.mono (by omega), rfl⟩)
  · intro v vs acc r h
    rw [hI] at h
    obtain ⟨j, ys, p4, e, hj, rfl, hys, hin, hp4, rfl⟩ := h
    obtain ⟨hj2, rfl, rfl⟩ := drop_step e
    rw [List.length_map] at hj2
    rw [List.getElem_map]
    have hacc : (ys.map Val.str).length < 100000 := by rw [List.length_map]; omega
    simp? only [F2__law_tangle, E1__law_tangle]
    by_cases hd : 1 < d
    · obtain ⟨qq, e2, q0, q1⟩ := dense_ix d ⟨hd, d1⟩
      simp? only [hd, decide_true, e2]
      refine draw_wp hp4 (by omega) q0 (by omega) fun w p5 w0 w1 hp5 => ?_
      simp? only [peqI]
      by_cases hw : w = 0
      · simp? only [hw, decide_true]
        rw [hI]
        refine ⟨hacc, j + 1, ys ++ [names[j]], p5, rfl, hj2, by simp, by simp; omega, fun y hy => ?_, hp5.mono (by omega), rfl⟩
        rcases List.mem_append.mp hy with z | z
        · exact hin y z
        · rw [List.mem_singleton.mp z]; exact List.getElem_mem hj2
      · simp? only [hw, decide_false]
        rw [hI]
        exact ⟨j + 1, ys, p5, rfl, hj2, rfl, by omega, hin, hp5.mono (by omega), rfl⟩
    · simp? only [hd, decide_false]
      rw [hI]
      exact ⟨j + 1, ys, p4, rfl, hj2, rfl, by omega, hin, hp4.mono (by omega), rfl⟩
  · intro acc r h
    rw [hI] at h
    obtain ⟨j, ys, p4, e, hj, rfl, hys, hin, hp4, rfl⟩ := h
    have hj2 := drop_end e (by rw [List.length_map]; exact hj)
    rw [List.length_map] at hj2
    subst hj2
    exact q ys p4 hys hin hp4
theorem tangle_turn {m0 many d : Int} {p : Val} {names : List Str} {m : Nd} {k : Nat} {b6 : M.Slot} {Q : SR → Prop} (hp : Pen m0 p) (hm : m0 < 980000) (hl : names.length ≤ 7) (hmn : names.length = many.toNat) (hk : k < names.length) (d1 : d < 5)
    (hfr : names[k] ∉ m.map (·.1)) (hml : m.length ≤ 7)
    (q : ∀ (us : List Str) (p' : Val) (b6 : M.Slot), us.length ≤ 7 → (∀ y ∈ us, y ∈ names) → Pen (m0 + 30) p' → Q (.nx (tg p' many names d (m ++ [(names[k], us)]) (some (false, .int (k : Nat))) b6))) :
    wS L3__law_tangle (tg p many names d m (some (false, .int (k : Nat))) b6) Q := by
  have hpos := hp.pos
  have m0' : 0 ≤ ((k : Int) + 1) % many := Int.emod_nonneg _ (by omega)
  have m1' : ((k : Int) + 1) % many < many := Int.emod_lt_of_pos _ (by omega)
  have x1 := pix_strs (ss := names) m0' (by omega)
  have x2 := pix_strs (ss := names) (i := (k : Int)) (by omega) (by simpa using hk)
  simp only [Int.toNat_natCast] at x2
  have hpx : ∀ us : List Str, putIx (enc m) (.str names[k]) (.tup (us.map .str)) = some (enc (m ++ [(names[k], us)])) := fun us => by
    have := putIx_new (v := .tup (us.map .str)) (ps := en m) (by rw [en_keys]; exact hfr) (by simp [en]; omega)
    rw [en_add] at this
    exact this
  have one : ∀ (i : Nat) (hi : i < names.length), ([names[i]] : List Str).length ≤ 7 ∧ ∀ y ∈ [names[i]], y ∈ names := fun i hi => ⟨by simp, fun y hy => by rw [List.mem_singleton.mp hy]; exact List.getElem_mem hi⟩
  unfold L3__law_tangle
  rw [wS_seq]
  simp? []
  refine tangle_some hp (by omega) hl d1 fun ys p4 hys hin hp4 => ?_
  simp? []
  rw [kseq, wS_seq]
  generalize hK : kseq _ Q = K2
  have tail : ∀ (zs : List Str) (b : Bool), zs.length ≤ 7 → (∀ y ∈ zs, y ∈ names) → K2 (.nx (tg p4 many names d m (some (false, .int (k : Nat))) (some (b, .lst (zs.map .str))))) := by
    intro zs b hz1 hz2
    rw [← hK, kseq, wS_seq]
    generalize hK3 : kseq _ Q = K3
    have fin : ∀ (zs : List Str) (p5 : Val) (b : Bool), zs.length ≤ 7 → (∀ y ∈ zs, y ∈ names) → Pen (m0 + 10) p5 → K3 (.nx (tg p5 many names d m (some (false, .int (k : Nat))) (some (b, .lst (zs.map .str))))) := by
      intro zs p5 b hz1 hz2 hp5
      rw [← hK3, kseq]
      cases b
      all_goals
        simp? only []
        refine shuffled_wp hp5 (by simp; omega) (by simp; omega) fun ys p6 hperm hp6 => ?_
        obtain ⟨us, rfl, hus⟩ := perm_strs hperm
        have hlu := hus.length_eq
        simp? only [x2, hpx]
        exact q us p6 _ (by omega) (fun y hy => hz2 y (hus.subset hy)) (hp6.mono (by simp; omega))
    simp? only []
    refine draw_wp hp4 (by omega) (by decide) (by decide) fun w p5 w0 w1 hp5 => ?_
    by_cases hw : w = 0
    · simp? only [peqI, hw, decide_true, x2]
      exact fin [_] p5 false (one _ hk).1 (one _ hk).2 (hp5.mono (by omega))
    · simp? only [peqI, hw, decide_false]
      exact fin zs p5 b hz1 hz2 (hp5.mono (by omega))
  by_cases hd1 : d = 1
  · subst hd1
    simp? only [peqI, decide_true, Padd, pmodI (show 0 < many by omega), x1]
    exact tail [_] false (one _ (by omega)).1 (one _ (by omega)).2
  · simp? only [peqI, hd1, decide_false]
    exact tail ys true (by omega) hin
theorem tangle_wp {m0 many : Int} {p : Val} {K : GR → Prop} (hp : Pen m0 p) (hm : m0 < 900000) (h0 : 1 ≤ many) (h1 : many ≤ 7)
    (q : ∀ (m : Nd) (p' : Val), Good m → Pen (m0 + 1000) p' → K (.ok true (enc m) (some (true, p')))) : wG g__law_tangle [(true, p), (false, .int many)] K := by
  have hpos := hp.pos
  unfold g__law_tangle
  rw [wG_run (by rfl) (by simp [ownIx])]
  unfold b__law_tangle
  simp? only []
  refine names_wp hp (by omega) (by omega) (by omega) fun names p1 hl hnd hnm hp1 => ?_
  simp? only []
  refine draw_wp hp1 (by omega) (by decide) (by decide) fun d p2 d0 d1 hp2 => ?_
  simp? only [rng_nums many ⟨by omega, by omega⟩]
  obtain ⟨I, hI⟩ : ∃ I : List Val → M.Env → Prop, I = fun vs r => ∃ (k : Nat) (m : Nd) (p3 : Val) (b5 b6 : M.Slot), vs = (nums many.toNat).drop k ∧ k ≤ many.toNat ∧ m.map (·.1) = names.take k ∧ (∀ x ∈ m, x.2.length ≤ 7 ∧ ∀ y ∈ x.2, y ∈ names) ∧ Pen (m0 + 4 + k * 40) p3 ∧
    r = tg p3 many names d m b5 b6 := ⟨_, rfl⟩
  refine wL_inv I ?_ ?_ _ _ (by rw [hI]; exact ⟨0, [], p2, none, none, rfl, by omega, by simp, by simp, hp2.mono (by omega), rfl⟩)
  · intro v vs r h
    rw [hI] at h
    obtain ⟨k, m, p3, b5, b6, e, hk, hkeys, hvals, hp3, rfl⟩ := h
    obtain ⟨hk2, rfl, rfl⟩ := drop_step e
    rw [nums_get]
    rw [nums_len] at hk2
    have hkn : k < names.length := by omega
    have hml : m.length = k := by
      have := congrArg List.length hkeys
      simp at this
      omega
    have hfresh : names[k] ∉ m.map (·.1) := by
      rw [hkeys]
      intro z
      obtain ⟨i, hi, ei⟩ := List.mem_take_iff_getElem.mp z
      have := (List.getElem_inj hnd).mp ei
      omega
    simp only [M.kT, M.tgN, List.set_cons_succ, List.set_cons_zero]
    refine tangle_turn hp3 (by omega) (by omega) hl hkn d1 hfresh (by omega) fun us p6 b6 hu1 hu2 hp6 => ?_
    rw [kTurn, hI]
    refine ⟨k + 1, _, p6, _, _, rfl, hk2, ?_, ?_, hp6.mono (by simp; omega), rfl⟩
    · rw [List.map_append, hkeys, List.take_succ_eq_append_getElem hkn]; rfl
    · intro x hx
      rcases List.mem_append.mp hx with z | z
      · exact hvals x z
      · rw [List.mem_singleton.mp z]
        exact ⟨hu1, hu2⟩
  · intro r h
    rw [hI] at h
    obtain ⟨k, m, p3, b5, b6, e, hk, hkeys, hvals, hp3, rfl⟩ := h
    have hk2 := drop_end e (by rw [nums_len]; exact hk)
    rw [nums_len] at hk2
    subst hk2
    rw [← hl, List.take_length] at hkeys
    simp? only []
    refine q m p3 ⟨by rw [hkeys]; exact hnd, by rw [hkeys]; exact hnm, by rw [hkeys]; exact hvals, ?_⟩ (hp3.mono (by omega))
    have := congrArg List.length hkeys
    rw [List.length_map] at this
    omega
end K11
namespace K11
open PySem L2 M BB
/-! ### rings -/
def getN (m : Nd) (s : Str) : List Str := (m.lookup s).getD []
def rot (ss : List Str) : List Str := ss.drop 1 ++ [ss.getD 0 default]
def ringB (m : Nd) (ss : List Str) : Bool := decide (ss ≠ [] ∧ (∀ s ∈ ss, s ∈ m.map (·.1)) ∧ ss.Nodup) && (ss.zip (rot ss)).all fun p => decide (p.2 ∈ getN m p.1)
def ringOf (m : Nd) : Val → Bool
  | .tup xs => match asStrs xs with
    | some ss => ringB m ss
    | none => false
  | _ => false
structure Odd (xs : List Val) : Prop where
  ty : ∀ x ∈ xs, (tyOf x).isSome = true
  no : asStrs xs = none
  ne : PeqX [.tup xs, .tup []] = some (false, .bl false)
  len : xs.length ≤ 100
/-- a thing that is looked at -/
def Thing (v : Val) : Prop := (∃ ss : List Str, v = .tup (ss.map .str) ∧ ss.length ≤ 100 ∧ ∀ s ∈ ss, CpOk s) ∨ (∃ xs, v = .tup xs ∧ Odd xs) ∨ ((tyOf v).isSome = true ∧ ∀ xs, v ≠ .tup xs)
theorem isi_not {v : Val} (h : (tyOf v).isSome = true) (n : ∀ xs, v ≠ .tup xs) : Pisi [v, .ty "tuple"] = some (false, .bl false) := by
  rw [pisi_ok h (by simp)]
  cases v with
  | tup xs => exact absurd rfl (n xs)
  | _ => first | rfl | simp [tyOf] at h
theorem isi_notS {v : Val} (h : (tyOf v).isSome = true) (n : ∀ s, v ≠ .str s) : Pisi [v, .ty "str"] = some (false, .bl false) := by
  rw [pisi_ok h (by simp)]
  cases v with
  | str s => exact absurd rfl (n s)
  | _ => first | rfl | simp [tyOf] at h
def known (m : Nd) : Val → Bool
  | .str s => decide (s ∈ m.map (·.1))
  | _ => false
theorem pin_en (m : Nd) (s : Str) : PinX [.str s, enc m] = some (false, .bl (decide (s ∈ m.map (·.1)))) := by rw [pin_sd, en_keys]
theorem pnotin_en (m : Nd) (s : Str) : PnotInX [.str s, enc m] = some (false, .bl (!decide (s ∈ m.map (·.1)))) := by rw [pnotin_sd, en_keys]
theorem pix_en (m : Nd) (s : Str) (h : s ∈ m.map (·.1)) : Pix [enc m, .str s] = some (false, .tup ((getN m s).map .str)) := by
  obtain ⟨v, e⟩ := lookup_some h
  rw [pix_sd, en_get, getN, e]; rfl
theorem known_all {m : Nd} {xs : List Val} (h : xs.all (known m) = true) : ∃ ss : List Str, xs = ss.map .str ∧ ∀ s ∈ ss, s ∈ m.map (·.1) := by
  induction xs with
  | nil => exact ⟨[], rfl, by simp⟩
  | cons x xs ih =>
    simp only [List.all_cons, Bool.and_eq_true] at h
    obtain ⟨ss, rfl, h2⟩ := ih h.2
    cases x with
    | str s => exact ⟨s :: ss, rfl, fun y hy => (List.mem_cons.mp hy).elim (fun z => by rw [z]; exact of_decide_eq_true h.1) (h2 y)⟩
    | _ => exact absurd h.1 (by simp [known])
theorem cut1 {α : Type} (xs : List α) : cutA xs (some 1) none = xs.drop 1 := cut_from xs 1
theorem is_ring_wp {m : Nd} {v : Val} {K : GR → Prop} (hv : Thing v) (q : K (.ok false (.bl (ringOf m v)) none)) : wG g_is_ring [(false, enc m), (false, v)] K := by
  unfold g_is_ring
  rw [wG_run (by rfl) (by simp [ownIx])]
  unfold b_is_ring
  have tupcase : ∀ xs : List Val, v = .tup xs → xs.length ≤ 100 → (∀ x ∈ xs, (tyOf x).isSome = true) → wS b_is_ring [some (false, enc m), some (false, v), none, none] (kdef [(false, enc m), (false, v)] K) := by
    intro xs e hl hty
    subst e
    unfold b_is_ring
    simp? only [isi_tt, peqI]
    by_cases h0 : xs = []
    · subst h0
      simpa [M.tyOf, M.itemsOf, M.Plen, M.Plist, M.Ptuple, M.Pgt, M.Pge, M.Plt, M.Ple, M.cmpI, M.Pint, M.Pneg, M.Prev, M.wE_cst, M.wE_var, M.wE_mv, M.wE_frz, M.wO_V, M.wO_S, M.wOs_nil, M.wOs_cons, M.wE_prim, M.wB_tst, M.wB_and, M.wB_or, M.wB_not, M.wB_yes, M.wE_andV, M.wE_orV, M.wE_notV, M.wE_ite, M.wA_nil, M.wA_cons, M.wA_star, M.wE_tup, M.wE_lst, M.wE_call, M.wS_seq, M.wS_skip, M.wS_brk, M.wS_cont, M.wS_asg, M.wS_drop, M.wS_ret, M.wS_if, M.wS_aug, M.wI_V, M.wI_R, M.wI_zip, M.wS_for, M.wE_lc, M.wP_no, M.wP_int, M.wE_slc, M.wE_chn, M.wO_Ty, M.wE_mut, M.wS_setIx, M.wE_dNew, M.wD_nil, M.wD_cons, M.wE_dsp, M.wE_lenSet, M.wS_asg2, M.wS_asgT, M.wOs_app, M.wOs_N, M.wOs_pick, M.kvar_e1, M.kvar_e2, M.kvar_e3, M.kmv_e1, M.kmv_e2, M.kfrz_e1, M.kfrz_e2, M.kfrz_e3, M.koV_e1, M.koV_e2, M.koV_e3, M.koS_e1, M.koS_e2, M.kcons2_e1, M.kcons2_e2, M.kcons2_e3, M.kcons_e1, M.kcons_e2, M.kcons_e3, M.kp2_e1, M.kp2_e2, M.kp1_e1, M.kp1_e2, M.kprim_e1, M.kprim_e2, M.kprim_e3, M.ktst_e1, M.ktst_e2, M.ktst_e3, M.ktst_e4, M.kand_e1, M.kand_e2, M.kor_e1, M.kor_e2, M.knot_e1, M.knot_e2, M.kandV_e1, M.kandV_e2, M.kandV_e3, M.kandV_e4, M.korV_e1, M.korV_e2, M.korV_e3, M.korV_e4, M.knotV_e1, M.knotV_e2, M.knotV_e3, M.kite_e1, M.kite_e2, M.kite_e3, M.kite_e4, M.kac2_e1, M.kac2_e2, M.kac2_e3, M.kac_e1, M.kac_e2, M.kac_e3, M.kstar2_e1, M.kstar2_e2, M.kstar2_e3, M.kstar1_e1, M.kstar1_e2, M.kstar_e1, M.kstar_e2, M.kstar_e3, M.ktup_e1, M.ktup_e2, M.ktup_e3, M.klst_e1, M.klst_e2, M.klst_e3, M.kback_e1, M.kback_e2, M.kback_e3, M.kc1_e1, M.kc1_e2, M.kcall_e1, M.kcall_e2, M.kcall_e3, M.kd1_e1, M.kd1_e2, M.kd2_e1, M.kd2_e2, M.kd3_e1, M.kd3_e2, M.kdef_e1, M.kdef_e2, M.kdef_e3, M.kdef_e4, M.kseq_e1, M.kseq_e2, M.kasg_e1, M.kasg_e2, M.kasg_e3, M.kdrop_e1, M.kdrop_e2, M.kdrop_e3, M.kret_e1, M.kret_e2, M.kret_e3, M.kif_e1, M.kif_e2, M.kif_e3, M.kif_e4, M.kaug2_e1, M.kaug2_e2, M.kaug2_e3, M.kaug2_e4, M.kaug_e1, M.kaug_e2, M.kitV1_e1, M.kitV1_e2, M.kitV_e1, M.kitV_e2, M.kitV_e3, M.kitR_e1, M.kitR_e2, M.kitR_e3, M.kfor_e1, M.kfor_e2, M.kfor_e3, M.kT_e1, M.kT_e2, M.kTurn_e1, M.kTurn_e2, M.kTurn_e3, M.kTurn_e4, M.kTurnW_e1, M.kTurnW_e2, M.kTurnW_e3, M.kTurnW_e4, M.klc2_e1, M.klc2_e2, M.klc_e1, M.klc_e2, M.klc_e3, M.kU2_e1, M.kU2_e2, M.kU1_e1, M.kU1_e2, M.kU1_e3, M.kU0_e1, M.kU0_e2, M.kpInt_e1, M.kpInt_e2, M.kpInt_e3, M.kpInt_e4, M.ksl4_e1, M.ksl4_e2, M.ksl3_e1, M.ksl3_e2, M.ksl3_e3, M.ksl2_e1, M.ksl2_e2, M.ksl2_e3, M.ksl1_e1, M.ksl1_e2, M.ksl1_e3, M.kch5_e1, M.kch5_e2, M.kch4_e1, M.kch4_e2, M.kch3b_e1, M.kch3b_e2, M.kch3b_e3, M.kch3_e1, M.kch3_e2, M.kch3_e3, M.kch2_e1, M.kch2_e2, M.kch1_e1, M.kch1_e2, M.kch1_e3, M.kch0_e1, M.kch0_e2, M.kch0_e3, M.koTy2_e1, M.koTy2_e2, M.koTy_e1, M.koTy_e2, M.koTy_e3, M.kmu3_e1, M.kmu3_e2, M.kmu2_e1, M.kmu2_e2, M.kmu1_e1, M.kmu1_e2, M.kmu1_e3, M.kmu_e1, M.kmu_e2, M.ksx4_e1, M.ksx4_e2, M.ksx3_e1, M.ksx3_e2, M.ksx2_e1, M.ksx2_e2, M.ksx2_e3, M.ksx1_e1, M.ksx1_e2, M.ksx_e1, M.ksx_e2, M.ksx_e3, M.kdp3_e1, M.kdp3_e2, M.kdp2_e1, M.kdp2_e2, M.kdp2_e3, M.kdp1_e1, M.kdp1_e2, M.kdp1_e3, M.kds2_e1, M.kds2_e2, M.kds_e1, M.kds_e2, M.kds_e3, M.kls2_e1, M.kls2_e2, M.kls_e1, M.kls_e2, M.kls_e3, M.kls_e4, M.kas2_e1, M.kas2_e2, M.kas2_e3, M.kas2_e4, M.kasT2_e1, M.kasT2_e2, M.kasT_e1, M.kasT_e2, M.kasT_e3, M.kapp2_e1, M.kapp2_e2, M.kapp2_e3, M.kapp_e1, M.kapp_e2, M.kapp_e3, M.kN_e1, M.kN_e2, M.kN_e3, M.kpick2_e1, M.kpick2_e2, M.kpick_e1, M.kpick_e2, M.kpick_e3, M.getAll, M.Hd.get, M.ownIx, M.outOf, M.lend, M.lentIx, M.back, M.lents, M.tgN, M.tgT, M.tgCons, M.tgNil, M.wipeR, M.restR, List.getElem?_cons_zero, List.getElem?_cons_succ, List.set_cons_zero, List.set_cons_succ, List.map_cons, List.map_nil, List.replicate_succ, List.replicate_zero, List.length_cons, List.length_nil, List.nil_append, List.cons_append, List.append_nil, List.filter_cons, List.filter_nil, Nat.reduceAdd, Nat.reduceSub, Nat.reduceLeDiff, Nat.reduceEqDiff, ↓reduceIte, if_true, if_false, Bool.false_eq_true, Option.map_some, Option.map_none, Option.getD_some, Option.getD_none, and_true, true_and, and_self, reduceCtorEq, Option.some.injEq, Bool.not_true, Bool.not_false, Nat.le_refl, ringOf, asStrs, ringB] using q
    have hlen : 0 < xs.length := List.length_pos_iff.mpr h0
    have hlen' : ¬ ((xs.length : Int) = 0) := by omega
    simp? only [hlen', decide_false]
    refine wC_mapV (fun x => .bl (known m x)) (fun _ => true) xs (fun x hx => ⟨_, rfl, rfl, rfl, fun _ => ?_⟩) (by omega) ?_
    · by_cases hs : ∃ s, x = .str s
      · obtain ⟨s, rfl⟩ := hs
        simp? only [E1_is_ring, isi_ss, pin_en]
        exact ⟨_, _, rfl, rfl⟩
      · have hs' : ∀ s, x ≠ .str s := fun s z => hs ⟨s, z⟩
        simp? only [E1_is_ring, isi_notS (hty x hx) hs']
        cases x with
        | str s => exact absurd rfl (hs' s)
        | _ => exact ⟨_, _, rfl, rfl⟩
    rw [filter_yes]
    simp? only [pall_map]
    by_cases ha : xs.all (known m) = true
    · obtain ⟨ss, rfl, hk⟩ := known_all ha
      rw [List.length_map] at hl hlen
      have hl1000 : ss.length ≤ 1000 := by omega
      have hne : ss ≠ [] := fun z => by rw [z] at hlen; simp at hlen
      simp? only [ha, asStrs_map, List.length_map, hl1000, set_lt]
      by_cases hnd : ss.Nodup
      · have hr : (ss.map Val.str).drop 1 ++ [Val.str (ss.getD 0 default)] = (rot ss).map .str := by simp [rot]
        have h00 : Pix [.tup (ss.map .str), .int 0] = some (false, .str (ss.getD 0 default)) := by
          rw [pix_tstrs (by decide) (by simpa using hlen)]
          simp [List.getD_eq_getElem?_getD, hlen]
        have hrl : (rot ss).length = ss.length := by simp [rot]; omega
        have hrl2 : ((rot ss).map Val.str).length ≤ 100000 := by rw [List.length_map]; omega
        simp? only [hnd, decide_true, Psl, cut1, h00, hr, hrl2, zipOf, zipV_map]
        refine wC_map (fun p : Str × Str => .tup [.str p.1, .str p.2]) (fun p => .bl (decide (p.2 ∈ getN m p.1))) (fun _ => true) (ss.zip (rot ss)) (fun p hp => ⟨_, rfl, rfl, rfl, fun _ => ?_⟩) (by simp; omega) ?_
        · simp? only [E2_is_ring, pix_en m p.1 (hk _ (List.of_mem_zip hp).1), pin_tup]
          exact ⟨_, _, rfl, rfl⟩
        rw [filter_yes]
        simp? only [pall_map]
        have : ringOf m (.tup (ss.map .str)) = (ss.zip (rot ss)).all fun p => decide (p.2 ∈ getN m p.1) := by
          simp only [ringOf, asStrs_map, ringB]
          rw [decide_eq_true ⟨hne, hk, hnd⟩, Bool.true_and]
        rw [this] at q
        exact q
      · simp? only [hnd, decide_false]
        have : ringOf m (.tup (ss.map .str)) = false := by
          simp only [ringOf, asStrs_map, ringB]
          rw [decide_eq_false fun z => hnd z.2.2, Bool.false_and]
        rw [this] at q
        exact q
    · have ha' : xs.all (known m) = false := by simpa using ha
      simp? only [ha']
      have : ringOf m (.tup xs) = false := by
        simp only [ringOf]
        cases h : asStrs xs with
        | none => rfl
        | some ss =>
          have := asStrs_some h
          subst this
          simp only [ringB]
          rw [decide_eq_false fun z => ha ?_, Bool.false_and]
          rw [List.all_map, List.all_eq_true]
          intro s hs
          exact decide_eq_true (z.2.1 s hs)
      rw [this] at q
      exact q
  rcases hv with ⟨ss, rfl, hl, hc⟩ | ⟨xs, rfl, ho⟩ | ⟨h, n⟩
  · exact tupcase _ rfl (by simpa using hl) (fun x hx => by obtain ⟨s, _, rfl⟩ := List.mem_map.mp hx; rfl)
  · exact tupcase _ rfl ho.len ho.ty
  · simp? only [isi_not h n]
    have : ringOf m v = false := by
      cases v with
      | tup xs => exact absurd rfl (n xs)
      | _ => rfl
    rw [this] at q
    exact q
/-! the law's own look -/
theorem rot_get {ss : List Str} {k : Nat} (hk : k < ss.length) : (rot ss)[k]? = some (ss.getD ((k + 1) % ss.length) default) := by
  unfold rot
  rcases Nat.lt_or_ge (k + 1) ss.length with h | h
  · rw [List.getElem?_append_left (by simp; omega), Nat.mod_eq_of_lt h]
    simp [List.getD_eq_getElem?_getD, Nat.add_comm 1 k, h]
  · have e : k + 1 = ss.length := by omega
    rw [List.getElem?_append_right (by simp; omega), e, Nat.mod_self]
    have : k - (ss.drop 1).length = 0 := by simp; omega
    rw [this]; rfl
theorem zip_all {ss : List Str} {f : Str → Str → Bool} : ((ss.zip (rot ss)).all fun p => f p.1 p.2) = true ↔ ∀ k, k < ss.length → f (ss.getD k default) (ss.getD ((k + 1) % ss.length) default) = true := by
  rw [List.all_eq_true]
  have hrl : ss ≠ [] → (rot ss).length = ss.length := fun h => by
    have := List.length_pos_iff.mpr h
    simp [rot]; omega
  constructor
  · intro h k hk
    have hne : ss ≠ [] := fun z => by rw [z] at hk; simp at hk
    have := h (ss[k], (rot ss)[k]'(by rw [hrl hne]; exact hk)) (by
      rw [List.mem_iff_getElem]
      exact ⟨k, by rw [List.length_zip, hrl hne]; omega, by simp⟩)
    have e := rot_get hk
    rw [List.getElem?_eq_getElem (by rw [hrl hne]; exact hk)] at e
    have e := Option.some.inj e
    simp only [e] at this
    simpa [List.getD_eq_getElem?_getD, hk] using this
  · rintro h ⟨a, b⟩ hp
    obtain ⟨k, hk, e⟩ := List.mem_iff_getElem.mp hp
    rw [List.length_zip] at hk
    have hk1 : k < ss.length := by omega
    have hk2 : k < (rot ss).length := by omega
    simp only [List.getElem_zip, Prod.mk.injEq] at e
    have e2 := rot_get hk1
    rw [List.getElem?_eq_getElem hk2] at e2
    have := h k hk1
    obtain ⟨e3, e4⟩ := e
    simp only
    rw [← e3, ← e4, Option.some.inj e2]
    simpa [List.getD_eq_getElem?_getD, hk1] using this
theorem law_is_ring_wp {m : Nd} {v : Val} {K : GR → Prop} (hv : Thing v) (q : K (.ok false (.bl (ringOf m v)) none)) : wG g__law_is_ring [(false, enc m), (false, v)] K := by
  unfold g__law_is_ring
  rw [wG_run (by rfl) (by simp [ownIx])]
  unfold b__law_is_ring
  have tupcase : ∀ xs : List Val, v = .tup xs → xs.length ≤ 100 → (∀ x ∈ xs, (tyOf x).isSome = true) → PeqX [.tup xs, .tup []] = some (false, .bl (decide (xs = []))) → wS b__law_is_ring [some (false, enc m), some (false, v), none] (kdef [(false, enc m), (false, v)] K) := by
    intro xs e hl hty hpe
    subst e
    unfold b__law_is_ring
    simp? only [isi_tt, hpe]
    by_cases h0 : xs = []
    · subst h0
      simpa [M.tyOf, M.itemsOf, M.Plen, M.Plist, M.Ptuple, M.Pgt, M.Pge, M.Plt, M.Ple, M.cmpI, M.Pint, M.Pneg, M.Prev, M.wE_cst, M.wE_var, M.wE_mv, M.wE_frz, M.wO_V, M.wO_S, M.wOs_nil, M.wOs_cons, M.wE_prim, M.wB_tst, M.wB_and, M.wB_or, M.wB_not, M.wB_yes, M.wE_andV, M.wE_orV, M.wE_notV, M.wE_ite, M.wA_nil, M.wA_cons, M.wA_star, M.wE_tup, M.wE_lst, M.wE_call, M.wS_seq, M.wS_skip, M.wS_brk, M.wS_cont, M.wS_asg, M.wS_drop, M.wS_ret, M.wS_if, M.wS_aug, M.wI_V, M.wI_R, M.wI_zip, M.wS_for, M.wE_lc, M.wP_no, M.wP_int, M.wE_slc, M.wE_chn, M.wO_Ty, M.wE_mut, M.wS_setIx, M.wE_dNew, M.wD_nil, M.wD_cons, M.wE_dsp, M.wE_lenSet, M.wS_asg2, M.wS_asgT, M.wOs_app, M.wOs_N, M.wOs_pick, M.kvar_e1, M.kvar_e2, M.kvar_e3, M.kmv_e1, M.kmv_e2, M.kfrz_e1, M.kfrz_e2, M.kfrz_e3, M.koV_e1, M.koV_e2, M.koV_e3, M.koS_e1, M.koS_e2, M.kcons2_e1, M.kcons2_e2, M.kcons2_e3, M.kcons_e1, M.kcons_e2, M.kcons_e3, M.kp2_e1, M.kp2_e2, M.kp1_e1, M.kp1_e2, M.kprim_e1, M.kprim_e2, M.kprim_e3, M.ktst_e1, M.ktst_e2, M.ktst_e3, M.ktst_e4, M.kand_e1, M.kand_e2, M.kor_e1, M.kor_e2, M.knot_e1, M.knot_e2, M.kandV_e1, M.kandV_e2, M.kandV_e3, M.kandV_e4, M.korV_e1, M.korV_e2, M.korV_e3, M.korV_e4, M.knotV_e1, M.knotV_e2, M.knotV_e3, M.kite_e1, M.kite_e2, M.kite_e3, M.kite_e4, M.kac2_e1, M.kac2_e2, M.kac2_e3, M.kac_e1, M.kac_e2, M.kac_e3, M.kstar2_e1, M.kstar2_e2, M.kstar2_e3, M.kstar1_e1, M.kstar1_e2, M.kstar_e1, M.kstar_e2, M.kstar_e3, M.ktup_e1, M.ktup_e2, M.ktup_e3, M.klst_e1, M.klst_e2, M.klst_e3, M.kback_e1, M.kback_e2, M.kback_e3, M.kc1_e1, M.kc1_e2, M.kcall_e1, M.kcall_e2, M.kcall_e3, M.kd1_e1, M.kd1_e2, M.kd2_e1, M.kd2_e2, M.kd3_e1, M.kd3_e2, M.kdef_e1, M.kdef_e2, M.kdef_e3, M.kdef_e4, M.kseq_e1, M.kseq_e2, M.kasg_e1, M.kasg_e2, M.kasg_e3, M.kdrop_e1, M.kdrop_e2, M.kdrop_e3, M.kret_e1, M.kret_e2, M.kret_e3, M.kif_e1, M.kif_e2, M.kif_e3, M.kif_e4, M.kaug2_e1, M.kaug2_e2, M.kaug2_e3, M.kaug2_e4, M.kaug_e1, M.kaug_e2, M.kitV1_e1, M.kitV1_e2, M.kitV_e1, M.kitV_e2, M.kitV_e3, M.kitR_e1, M.kitR_e2, M.kitR_e3, M.kfor_e1, M.kfor_e2, M.kfor_e3, M.kT_e1, M.kT_e2, M.kTurn_e1, M.kTurn_e2, M.kTurn_e3, M.kTurn_e4, M.kTurnW_e1, M.kTurnW_e2, M.kTurnW_e3, M.kTurnW_e4, M.klc2_e1, M.klc2_e2, M.klc_e1, M.klc_e2, M.klc_e3, M.kU2_e1, M.kU2_e2, M.kU1_e1, M.kU1_e2, M.kU1_e3, M.kU0_e1, M.kU0_e2, M.kpInt_e1, M.kpInt_e2, M.kpInt_e3, M.kpInt_e4, M.ksl4_e1, M.ksl4_e2, M.ksl3_e1, M.ksl3_e2, M.ksl3_e3, M.ksl2_e1, M.ksl2_e2, M.ksl2_e3, M.ksl1_e1, M.ksl1_e2, M.ksl1_e3, M.kch5_e1, M.kch5_e2, M.kch4_e1, M.kch4_e2, M.kch3b_e1, M.kch3b_e2, M.kch3b_e3, M.kch3_e1, M.kch3_e2, M.kch3_e3, M.kch2_e1, M.kch2_e2, M.kch1_e1, M.kch1_e2, M.kch1_e3, M.kch0_e1, M.kch0_e2, M.kch0_e3, M.koTy2_e1, M.koTy2_e2, M.koTy_e1, M.koTy_e2, M.koTy_e3, M.kmu3_e1, M.kmu3_e2, M.kmu2_e1, M.kmu2_e2, M.kmu1_e1, M.kmu1_e2, M.kmu1_e3, M.kmu_e1, M.kmu_e2, M.ksx4_e1, M.ksx4_e2, M.ksx3_e1, M.ksx3_e2, M.ksx2_e1, M.ksx2_e2, M.ksx2_e3, M.ksx1_e1, M.ksx1_e2, M.ksx_e1, M.ksx_e2, M.ksx_e3, M.kdp3_e1, M.kdp3_e2, M.kdp2_e1, M.kdp2_e2, M.kdp2_e3, M.kdp1_e1, M.kdp1_e2, M.kdp1_e3, M.kds2_e1, M.kds2_e2, M.kds_e1, M.kds_e2, M.kds_e3, M.kls2_e1, M.kls2_e2, M.kls_e1, M.kls_e2, M.kls_e3, M.kls_e4, M.kas2_e1, M.kas2_e2, M.kas2_e3, M.kas2_e4, M.kasT2_e1, M.kasT2_e2, M.kasT_e1, M.kasT_e2, M.kasT_e3, M.kapp2_e1, M.kapp2_e2, M.kapp2_e3, M.kapp_e1, M.kapp_e2, M.kapp_e3, M.kN_e1, M.kN_e2, M.kN_e3, M.kpick2_e1, M.kpick2_e2, M.kpick_e1, M.kpick_e2, M.kpick_e3, M.getAll, M.Hd.get, M.ownIx, M.outOf, M.lend, M.lentIx, M.back, M.lents, M.tgN, M.tgT, M.tgCons, M.tgNil, M.wipeR, M.restR, List.getElem?_cons_zero, List.getElem?_cons_succ, List.set_cons_zero, List.set_cons_succ, List.map_cons, List.map_nil, List.replicate_succ, List.replicate_zero, List.length_cons, List.length_nil, List.nil_append, List.cons_append, List.append_nil, List.filter_cons, List.filter_nil, Nat.reduceAdd, Nat.reduceSub, Nat.reduceLeDiff, Nat.reduceEqDiff, ↓reduceIte, if_true, if_false, Bool.false_eq_true, Option.map_some, Option.map_none, Option.getD_some, Option.getD_none, and_true, true_and, and_self, reduceCtorEq, Option.some.injEq, Bool.not_true, Bool.not_false, Nat.le_refl, ringOf, asStrs, ringB] using q
    have hlen : 0 < xs.length := List.length_pos_iff.mpr h0
    simp? only [h0, decide_false, rng_nat xs.length (by omega)]
    have isF : ringOf m (.tup xs) = false → K (.ok false (.bl false) none) := fun h => by
      rw [h] at q
      exact q
    obtain ⟨I, hI⟩ : ∃ I : List Val → M.Env → Prop, I = fun vs r => ∃ (k : Nat) (b2 : M.Slot), vs = (nums xs.length).drop k ∧ k ≤ xs.length ∧ (∀ i < k, ∃ s, xs[i]? = some (.str s) ∧ s ∈ m.map (·.1) ∧ ∀ j < i, xs[j]? ≠ some (.str s)) ∧ r = [some (false, enc m), some (false, .tup xs), b2] := ⟨_, rfl⟩
    refine wL_inv I ?_ ?_ _ _ (by rw [hI]; exact ⟨0, none, rfl, by omega, by simp, rfl⟩)
    · intro v vs r h
      rw [hI] at h
      obtain ⟨k, b2, e, hk, hs, rfl⟩ := h
      obtain ⟨hk2, rfl, rfl⟩ := drop_step e
      rw [nums_get]
      rw [nums_len] at hk2
      have hx := pix_tup (xs := xs) (i := (k : Int)) (by omega) (by simpa using hk2)
      simp only [Int.toNat_natCast] at hx
      simp only [M.kT, M.tgN, List.set_cons_succ, List.set_cons_zero, L1__law_is_ring]
      by_cases h1 : ∃ s, xs[k] = .str s
      · obtain ⟨s, es⟩ := h1
        rw [es] at hx
        have htk : xs.take k = ((xs.take k).map unstr).map .str := by
          rw [List.map_map]
          refine ((List.map_congr_left fun y hy => ?_).trans (List.map_id _)).symm
          obtain ⟨i, hi, rfl⟩ := List.mem_take_iff_getElem.mp hy
          obtain ⟨t, e2, _⟩ := hs i (by omega)
          rw [List.getElem?_eq_getElem (by omega)] at e2
          rw [Option.some.inj e2]; rfl
        have hmem : s ∈ (xs.take k).map unstr ↔ ∃ j < k, xs[j]? = some (.str s) := by
          rw [List.mem_map]
          constructor
          · rintro ⟨y, hy, e2⟩
            obtain ⟨i, hi, rfl⟩ := List.mem_take_iff_getElem.mp hy
            obtain ⟨t, e3, _⟩ := hs i (by omega)
            have e4 := e3
            rw [List.getElem?_eq_getElem (by omega)] at e4
            rw [Option.some.inj e4] at e2
            exact ⟨i, by omega, by rw [e3, ← e2]; rfl⟩
          · rintro ⟨j, hj, e2⟩
            refine ⟨.str s, ?_, rfl⟩
            rw [List.mem_take_iff_getElem]
            rw [List.getElem?_eq_getElem (by omega)] at e2
            exact ⟨j, by omega, Option.some.inj e2⟩
        simp? only [hx, isi_ss, pnotin_en]
        by_cases h2 : s ∈ m.map (·.1)
        · simp? only [h2, decide_true, Psl, cut_to, hx]
          rw [htk]
          simp? only [pin_tup]
          by_cases h3 : s ∈ (xs.take k).map unstr
          · simp? only [h3, decide_true]
            refine isF ?_
            obtain ⟨j, hj, e2⟩ := hmem.mp h3
            simp only [ringOf]
            cases h : asStrs xs with
            | none => rfl
            | some ss =>
              have := asStrs_some h
              subst this
              simp only [ringB]
              rw [decide_eq_false fun z => ?_, Bool.false_and]
              have z := z.2.2
              rw [List.length_map] at hk2
              simp only [List.getElem_map, Val.str.injEq] at es
              rw [List.getElem?_map, List.getElem?_eq_getElem (by omega)] at e2
              have e2 := Val.str.inj (Option.some.inj e2)
              have := (List.getElem_inj z).mp (e2.trans es.symm)
              omega
          · simp? only [h3, decide_false]
            rw [hI]
            refine ⟨k + 1, _, rfl, hk2, fun i hi => ?_, rfl⟩
            rcases Nat.lt_succ_iff_lt_or_eq.mp hi with z | z
            · exact hs i z
            · subst z
              exact ⟨s, by rw [List.getElem?_eq_getElem hk2, es], h2, fun j hj e3 => h3 (hmem.mpr ⟨j, hj, e3⟩)⟩
        · simp? only [h2, decide_false]
          refine isF ?_
          simp only [ringOf]
          cases h : asStrs xs with
          | none => rfl
          | some ss =>
            have := asStrs_some h
            subst this
            simp only [ringB]
            simp only [List.getElem_map, Val.str.injEq] at es
            have hms : s ∈ ss := es ▸ List.getElem_mem _
            rw [decide_eq_false fun z => h2 (z.2.1 s hms), Bool.false_and]
      · have h1' : ∀ s, xs[k] ≠ .str s := fun s z => h1 ⟨s, z⟩
        simp? only [hx, isi_notS (hty _ (List.getElem_mem hk2)) h1']
        refine isF ?_
        simp only [ringOf]
        cases h : asStrs xs with
        | none => rfl
        | some ss =>
          have := asStrs_some h
          subst this
          exact absurd (List.getElem_map ..) (h1' _)
    · intro r h
      rw [hI] at h
      obtain ⟨k, b2, e, hk, hs, rfl⟩ := h
      have hk2 := drop_end e (by rw [nums_len]; exact hk)
      rw [nums_len] at hk2
      subst hk2
      clear hI I
      have hss : ∃ ss : List Str, xs = ss.map .str := by
        refine ⟨xs.map unstr, ?_⟩
        rw [List.map_map]
        refine ((List.map_congr_left fun y hy => ?_).trans (List.map_id _)).symm
        obtain ⟨i, hi, rfl⟩ := List.mem_iff_getElem.mp hy
        obtain ⟨t, e2, _⟩ := hs i hi
        rw [List.getElem?_eq_getElem hi] at e2
        rw [Option.some.inj e2]; rfl
      obtain ⟨ss, rfl⟩ := hss
      rw [List.length_map] at hl hlen hs
      have hne : ss ≠ [] := fun z => by rw [z] at hlen; simp at hlen
      have hkeys : ∀ s ∈ ss, s ∈ m.map (·.1) := fun s hsm => by
        obtain ⟨i, hi, rfl⟩ := List.mem_iff_getElem.mp hsm
        obtain ⟨t, e2, h2, _⟩ := hs i hi
        rw [List.getElem?_map, List.getElem?_eq_getElem hi] at e2
        rw [Val.str.inj (Option.some.inj e2)]; exact h2
      have hnd : ss.Nodup := by
        rw [List.nodup_iff_pairwise_ne, List.pairwise_iff_getElem]
        intro i j hi hj hij e2
        obtain ⟨t, e3, _, h3⟩ := hs j hj
        rw [List.getElem?_map, List.getElem?_eq_getElem hj] at e3
        refine h3 i hij ?_
        rw [List.getElem?_map, List.getElem?_eq_getElem hi, ← e3, e2]
      have hring : ringOf m (.tup (ss.map .str)) = (ss.zip (rot ss)).all fun p => decide (p.2 ∈ getN m p.1) := by
        simp only [ringOf, asStrs_map, ringB]
        rw [decide_eq_true ⟨hne, hkeys, hnd⟩, Bool.true_and]
      rw [hring] at isF q
      simp? only [List.length_map, rng_nat ss.length (by omega)]
      obtain ⟨I, hI⟩ : ∃ I : List Val → M.Env → Prop, I = fun vs r => ∃ (k : Nat) (b2 : M.Slot), vs = (nums ss.length).drop k ∧ k ≤ ss.length ∧ (∀ i < k, ss.getD ((i + 1) % ss.length) default ∈ getN m (ss.getD i default)) ∧ r = [some (false, enc m), some (false, .tup (ss.map .str)), b2] := ⟨_, rfl⟩
      refine wL_inv I ?_ ?_ _ _ (by rw [hI]; exact ⟨0, b2, rfl, by omega, by simp, rfl⟩)
      · intro v vs r h
        rw [hI] at h
        obtain ⟨k, b3, e, hk, hs2, rfl⟩ := h
        obtain ⟨hk2, rfl, rfl⟩ := drop_step e
        rw [nums_get]
        rw [nums_len] at hk2
        have hgd : ∀ i (hi : i < ss.length), ss[i] = ss.getD i default := fun i hi => by simp [List.getD_eq_getElem?_getD, hi]
        have hx := pix_tstrs (ss := ss) (i := (k : Int)) (by omega) (by simpa using hk2)
        simp only [Int.toNat_natCast, hgd] at hx
        obtain ⟨j, hj, hlt, hm2⟩ : ∃ j : Nat, j = (k + 1) % ss.length ∧ j < ss.length ∧ ((k : Int) + 1) % (ss.length : Int) = (j : Int) := ⟨_, rfl, Nat.mod_lt _ (by omega), by rw [Int.natCast_emod]; rfl⟩
        have hx2 := pix_tstrs (ss := ss) (i := (j : Int)) (by omega) (by simpa using hlt)
        simp only [Int.toNat_natCast, hgd] at hx2
        have hkey := hkeys (ss.getD k default) (by rw [← hgd k hk2]; exact List.getElem_mem hk2)
        simp only [M.kT, M.tgN, List.set_cons_succ, List.set_cons_zero, L2__law_is_ring]
        simp? only [Padd, List.length_map, pmodI (show (0 : Int) < (ss.length : Int) by omega), hm2, hx, hx2, pix_en m _ hkey, pnotin_tup]
        by_cases h4 : ss.getD j default ∈ getN m (ss.getD k default)
        · simp? only [h4, decide_true]
          rw [hI]
          refine ⟨k + 1, _, rfl, hk2, fun i hi => ?_, rfl⟩
          rcases Nat.lt_succ_iff_lt_or_eq.mp hi with z | z
          · exact hs2 i z
          · subst z; rw [← hj]; exact h4
        · simp? only [h4, decide_false]
          refine isF ?_
          rw [Bool.eq_false_iff]
          intro z
          rw [hj] at h4
          exact h4 (of_decide_eq_true ((zip_all (f := fun a b => decide (b ∈ getN m a))).mp z k hk2))
      · intro r h
        rw [hI] at h
        obtain ⟨k, b3, e, hk, hs2, rfl⟩ := h
        have hk2 := drop_end e (by rw [nums_len]; exact hk)
        rw [nums_len] at hk2
        subst hk2
        have : ((ss.zip (rot ss)).all fun p => decide (p.2 ∈ getN m p.1)) = true := (zip_all (f := fun a b => decide (b ∈ getN m a))).mpr fun k hk => decide_eq_true (hs2 k hk)
        rw [this] at q
        simpa only [M.tyOf, M.itemsOf, M.Plen, M.Plist, M.Ptuple, M.Pgt, M.Pge, M.Plt, M.Ple, M.cmpI, M.Pint, M.Pneg, M.Prev, M.wE_cst, M.wE_var, M.wE_mv, M.wE_frz, M.wO_V, M.wO_S, M.wOs_nil, M.wOs_cons, M.wE_prim, M.wB_tst, M.wB_and, M.wB_or, M.wB_not, M.wB_yes, M.wE_andV, M.wE_orV, M.wE_notV, M.wE_ite, M.wA_nil, M.wA_cons, M.wA_star, M.wE_tup, M.wE_lst, M.wE_call, M.wS_seq, M.wS_skip, M.wS_brk, M.wS_cont, M.wS_asg, M.wS_drop, M.wS_ret, M.wS_if, M.wS_aug, M.wI_V, M.wI_R, M.wI_zip, M.wS_for, M.wE_lc, M.wP_no, M.wP_int, M.wE_slc, M.wE_chn, M.wO_Ty, M.wE_mut, M.wS_setIx, M.wE_dNew, M.wD_nil, M.wD_cons, M.wE_dsp, M.wE_lenSet, M.wS_asg2, M.wS_asgT, M.wOs_app, M.wOs_N, M.wOs_pick, M.kvar_e1, M.kvar_e2, M.kvar_e3, M.kmv_e1, M.kmv_e2, M.kfrz_e1, M.kfrz_e2, M.kfrz_e3, M.koV_e1, M.koV_e2, M.koV_e3, M.koS_e1, M.koS_e2, M.kcons2_e1, M.kcons2_e2, M.kcons2_e3, M.kcons_e1, M.kcons_e2, M.kcons_e3, M.kp2_e1, M.kp2_e2, M.kp1_e1, M.kp1_e2, M.kprim_e1, M.kprim_e2, M.kprim_e3, M.ktst_e1, M.ktst_e2, M.ktst_e3, M.ktst_e4, M.kand_e1, M.kand_e2, M.kor_e1, M.kor_e2, M.knot_e1, M.knot_e2, M.kandV_e1, M.kandV_e2, M.kandV_e3, M.kandV_e4, M.korV_e1, M.korV_e2, M.korV_e3, M.korV_e4, M.knotV_e1, M.knotV_e2, M.knotV_e3, M.kite_e1, M.kite_e2, M.kite_e3, M.kite_e4, M.kac2_e1, M.kac2_e2, M.kac2_e3, M.kac_e1, M.kac_e2, M.kac_e3, M.kstar2_e1, M.kstar2_e2, M.kstar2_e3, M.kstar1_e1, M.kstar1_e2, M.kstar_e1, M.kstar_e2, M.kstar_e3, M.ktup_e1, M.ktup_e2, M.ktup_e3, M.klst_e1, M.klst_e2, M.klst_e3, M.kback_e1, M.kback_e2, M.kback_e3, M.kc1_e1, M.kc1_e2, M.kcall_e1, M.kcall_e2, M.kcall_e3, M.kd1_e1, M.kd1_e2, M.kd2_e1, M.kd2_e2, M.kd3_e1, M.kd3_e2, M.kdef_e1, M.kdef_e2, M.kdef_e3, M.kdef_e4, M.kseq_e1, M.kseq_e2, M.kasg_e1, M.kasg_e2, M.kasg_e3, M.kdrop_e1, M.kdrop_e2, M.kdrop_e3, M.kret_e1, M.kret_e2, M.kret_e3, M.kif_e1, M.kif_e2, M.kif_e3, M.kif_e4, M.kaug2_e1, M.kaug2_e2, M.kaug2_e3, M.kaug2_e4, M.kaug_e1, M.kaug_e2, M.kitV1_e1, M.kitV1_e2, M.kitV_e1, M.kitV_e2, M.kitV_e3, M.kitR_e1, M.kitR_e2, M.kitR_e3, M.kfor_e1, M.kfor_e2, M.kfor_e3, M.kT_e1, M.kT_e2, M.kTurn_e1, M.kTurn_e2, M.kTurn_e3, M.kTurn_e4, M.kTurnW_e1, M.kTurnW_e2, M.kTurnW_e3, M.kTurnW_e4, M.klc2_e1, M.klc2_e2, M.klc_e1, M.klc_e2, M.klc_e3, M.kU2_e1, M.kU2_e2, M.kU1_e1, M.kU1_e2, M.kU1_e3, M.kU0_e1, M.kU0_e2, M.kpInt_e1, M.kpInt_e2, M.kpInt_e3, M.kpInt_e4, M.ksl4_e1, M.ksl4_e2, M.ksl3_e1, M.ksl3_e2, M.ksl3_e3, M.ksl2_e1, M.ksl2_e2, M.ksl2_e3, M.ksl1_e1, M.ksl1_e2, M.ksl1_e3, M.kch5_e1, M.kch5_e2, M.kch4_e1, M.kch4_e2, M.kch3b_e1, M.kch3b_e2, M.kch3b_e3, M.kch3_e1, M.kch3_e2, M.kch3_e3, M.kch2_e1, M.kch2_e2, M.kch1_e1, M.kch1_e2, M.kch1_e3, M.kch0_e1, M.kch0_e2, M.kch0_e3, M.koTy2_e1, M.koTy2_e2, M.koTy_e1, M.koTy_e2, M.koTy_e3, M.kmu3_e1, M.kmu3_e2, M.kmu2_e1, M.kmu2_e2, M.kmu1_e1, M.kmu1_e2, M.kmu1_e3, M.kmu_e1, M.kmu_e2, M.ksx4_e1, M.ksx4_e2, M.ksx3_e1, M.ksx3_e2, M.ksx2_e1, M.ksx2_e2, M.ksx2_e3, M.ksx1_e1, M.ksx1_e2, M.ksx_e1, M.ksx_e2, M.ksx_e3, M.kdp3_e1, M.kdp3_e2, M.kdp2_e1, M.kdp2_e2, M.kdp2_e3, M.kdp1_e1, M.kdp1_e2, M.kdp1_e3, M.kds2_e1, M.kds2_e2, M.kds_e1, M.kds_e2, M.kds_e3, M.kls2_e1, M.kls2_e2, M.kls_e1, M.kls_e2, M.kls_e3, M.kls_e4, M.kas2_e1, M.kas2_e2, M.kas2_e3, M.kas2_e4, M.kasT2_e1, M.kasT2_e2, M.kasT_e1, M.kasT_e2, M.kasT_e3, M.kapp2_e1, M.kapp2_e2, M.kapp2_e3, M.kapp_e1, M.kapp_e2, M.kapp_e3, M.kN_e1, M.kN_e2, M.kN_e3, M.kpick2_e1, M.kpick2_e2, M.kpick_e1, M.kpick_e2, M.kpick_e3, M.getAll, M.Hd.get, M.ownIx, M.outOf, M.lend, M.lentIx, M.back, M.lents, M.tgN, M.tgT, M.tgCons, M.tgNil, M.wipeR, M.restR, List.getElem?_cons_zero, List.getElem?_cons_succ, List.set_cons_zero, List.set_cons_succ, List.map_cons, List.map_nil, List.replicate_succ, List.replicate_zero, List.length_cons, List.length_nil, List.nil_append, List.cons_append, List.append_nil, List.filter_cons, List.filter_nil, Nat.reduceAdd, Nat.reduceSub, Nat.reduceLeDiff, Nat.reduceEqDiff, ↓reduceIte, if_true, if_false, Bool.false_eq_true, Option.map_some, Option.map_none, Option.getD_some, Option.getD_none, and_true, true_and, and_self, reduceCtorEq, Option.some.injEq, Bool.not_true, Bool.not_false, Nat.le_refl] using q
  rcases hv with ⟨ss, rfl, hl, hc⟩ | ⟨xs, rfl, ho⟩ | ⟨h, n⟩
  · exact tupcase _ rfl (by simpa using hl) (fun x hx => by obtain ⟨s, _, rfl⟩ := List.mem_map.mp hx; rfl) (by rw [peq_tnil ss hc]; simp)
  · have : xs ≠ [] := fun z => by have := ho.no; rw [z] at this; cases this
    exact tupcase _ rfl ho.len ho.ty (by rw [ho.ne, decide_eq_false this])
  · simp? only [isi_not h n]
    have : ringOf m v = false := by
      cases v with
      | tup xs => exact absurd rfl (n xs)
      | _ => rfl
    rw [this] at q
    exact q
/-! a walk, the things -/
theorem getN_mem {m : Nd} (hg : Good m) {s : Str} : (getN m s).length ≤ 7 ∧ ∀ y ∈ getN m s, y ∈ m.map (·.1) := by
  unfold getN
  cases h : m.lookup s with
  | none => simp
  | some vs => exact hg.vl _ (lookup_mem h)
theorem walk_wp {m0 : Int} {p : Val} {m : Nd} {K : GR → Prop} (hp : Pen m0 p) (hm : m0 < 900000) (hg : Good m)
    (q : ∀ (w : List Str) (p' : Val), 1 ≤ w.length → w.length ≤ 8 → (∀ s ∈ w, s ∈ m.map (·.1)) → Pen (m0 + 8) p' → K (.ok true (.lst (w.map .str)) (some (true, p')))) : wG g__law_walk [(true, p), (false, enc m)] K := by
  have hpos := hp.pos
  unfold g__law_walk
  rw [wG_run (by rfl) (by simp [ownIx])]
  unfold b__law_walk
  rw [wS_seq]
  simp? [sd_keys, enc]
  refine wC_map (fun x : Str × Val => .str x.1) (fun x => .str x.1) (fun _ => true) (en m) (fun x hx => ⟨_, rfl, rfl, rfl, fun _ => ⟨_, _, rfl, rfl⟩⟩) (by simp [en]; have := hg.len; omega) ?_
  rw [filter_yes]
  obtain ⟨names, hn⟩ : ∃ names : List Str, names = m.map (·.1) := ⟨_, rfl⟩
  have e1 : (en m).map (fun x => Val.str x.1) = names.map .str := by rw [hn, ← en_keys, List.map_map]; rfl
  have hnl : names.length = m.length := by rw [hn]; simp
  have hgl := hg.len
  rw [e1]
  simp? only [List.length_map]
  refine draw_wp hp (by omega) (by omega) (by omega) fun d p1 d0 d1 hp1 => ?_
  have x1 := pix_strs (ss := names) d0 (by omega)
  simp? only [x1, List.length_map, rng_nat names.length (by omega)]
  obtain ⟨I, hI⟩ : ∃ I : List Val → M.Env → Prop, I = fun vs r => ∃ (k : Nat) (w : List Str) (p3 : Val) (b4 b5 b6 : M.Slot), vs = (nums names.length).drop k ∧ k ≤ names.length ∧ w.length = k + 1 ∧ (∀ s ∈ w, s ∈ names) ∧ Pen (m0 + 1 + k) p3 ∧
    r = [some (true, p3), some (false, enc m), some (true, .lst (names.map .str)), some (true, .lst (w.map .str)), b4, b5, b6, none] := ⟨_, rfl⟩
  refine wL_inv I ?_ ?_ _ _ (by rw [hI]; exact ⟨0, [names[d.toNat]'(by omega)], p1, none, none, none, rfl, by omega, rfl, fun s hs => by rw [List.mem_singleton.mp hs]; exact List.getElem_mem _, hp1.mono (by omega), rfl⟩)
  · intro v vs r h
    rw [hI] at h
    obtain ⟨k, w, p3, b4, b5, b6, e, hk, hw, hin, hp3, rfl⟩ := h
    obtain ⟨hk2, rfl, rfl⟩ := drop_step e
    rw [nums_get]
    rw [nums_len] at hk2
    have hpos3 := hp3.pos
    have hwl : 0 < (w.map Val.str).length := by rw [List.length_map]; omega
    have xl := pix_last hwl
    simp only [List.length_map, List.getElem_map] at xl
    obtain ⟨s, hs⟩ : ∃ s, s = w[w.length - 1]'(by omega) := ⟨_, rfl⟩
    rw [← hs] at xl
    have hsk : s ∈ m.map (·.1) := by rw [← hn, hs]; exact hin _ (List.getElem_mem _)
    simp only [M.kT, M.tgN, List.set_cons_succ, List.set_cons_zero, L2__law_walk]
    simp? only [xl, pix_en m s hsk]
    have hgs := getN_mem hg (s := s)
    have cpk : ∀ y ∈ m.map (·.1), CpOk y := fun y hy => (hg.nm y hy).cp
    rw [peq_tnil _ fun y hy => cpk y (hgs.2 y hy)]
    by_cases hz : getN m s = []
    · simp? only [hz, decide_true]
      exact q w p3 (by omega) (by omega) (by rw [← hn]; exact hin) (hp3.mono (by omega))
    · have hzl : 0 < (getN m s).length := List.length_pos_iff.mpr hz
      simp? only [hz, decide_false, List.length_map]
      refine draw_wp hp3 (by omega) (by omega) (by omega) fun d p4 d0 d1 hp4 => ?_
      have x2 := pix_tstrs (ss := getN m s) d0 (by omega)
      obtain ⟨y, hy⟩ : ∃ y, y = (getN m s)[d.toNat]'(by omega) := ⟨_, rfl⟩
      rw [← hy] at x2
      have hyk : y ∈ m.map (·.1) := by rw [hy]; exact hgs.2 _ (List.getElem_mem _)
      have hwc : ∀ s ∈ w, CpOk s := fun s hs => cpk s (by rw [← hn]; exact hin s hs)
      simp? only [x2, pin_lst y w (cpk y hyk) hwc]
      by_cases hyw : y ∈ w
      · obtain ⟨j, hj, _, _, e5⟩ := pindex_strs hyw (cpk y hyk) hwc
        simp? only [hyw, decide_true, e5, Psl, cut_from, ← List.map_drop]
        exact q (w.drop j) p4 (by simp; omega) (by simp; omega) (fun s hs => by rw [← hn]; exact hin s (List.mem_of_mem_drop hs)) (hp4.mono (by omega))
      · simp? only [hyw, decide_false, mapp (ds := w.map .str) (v := .str y) (by simp; omega)]
        rw [hI]
        refine ⟨k + 1, w ++ [y], p4, some (false, .int (k : Nat)), some (false, .tup ((getN m s).map .str)), some (false, .str y), rfl, hk2, by simp [hw], fun s hs => ?_, hp4.mono (by omega), by simp⟩
        rcases List.mem_append.mp hs with z | z
        · exact hin s z
        · rw [List.mem_singleton.mp z, hn]; exact hyk
  · intro r h
    rw [hI] at h
    obtain ⟨k, w, p3, b4, b5, b6, e, hk, hw, hin, hp3, rfl⟩ := h
    simp? only []
    exact q w p3 (by omega) (by omega) (by rw [← hn]; exact hin) (hp3.mono (by omega))
theorem thing_tup (ss : List Str) (hl : ss.length ≤ 100) (h : ∀ s ∈ ss, CpOk s) : Thing (.tup (ss.map .str)) := .inl ⟨ss, rfl, hl, h⟩
theorem thing_of {v : Val} (h : (tyOf v).isSome = true) (n : ∀ xs, v ≠ .tup xs) : Thing v := .inr (.inr ⟨h, n⟩)
theorem thing_odd {xs : List Val} (h : Odd xs) : Thing (.tup xs) := .inr (.inl ⟨_, rfl, h⟩)
/-- what is told of a list of things -/
theorem things_wp {m0 : Int} {p : Val} {m : Nd} {K : GR → Prop} (hp : Pen m0 p) (hm : m0 < 900000) (hg : Good m)
    (q : ∀ (ts : List Val) (p' : Val), ts.length ≤ 100 → (∀ v ∈ ts, Thing v) → Pen (m0 + 30) p' → K (.ok true (.lst ts) (some (true, p')))) : wG g__law_things [(true, p), (false, enc m)] K := by
  have hpos := hp.pos
  unfold g__law_things
  rw [wG_run (by rfl) (by simp [ownIx])]
  unfold b__law_things
  simp? only []
  refine walk_wp hp (by omega) hg fun w p1 w1 w8 hw hp1 => ?_
  obtain ⟨names, hn⟩ : ∃ names : List Str, names = m.map (·.1) := ⟨_, rfl⟩
  have hnl : names.length = m.length := by rw [hn]; simp
  have hgl := hg.len
  have cpk : ∀ y ∈ names, CpOk y := fun y hy => (hg.nm y (by rw [← hn]; exact hy)).cp
  have hwn : ∀ y ∈ w, y ∈ names := by rw [hn]; exact hw
  have cpw : ∀ y ∈ w, CpOk y := fun y hy => cpk y (hwn y hy)
  simp? only [sd_keys, enc]
  refine wC_map (fun x : Str × Val => .str x.1) (fun x => .str x.1) (fun _ => true) (en m) (fun x hx => ⟨_, rfl, rfl, rfl, fun _ => ⟨_, _, rfl, rfl⟩⟩) (by simp [en]; omega) ?_
  rw [filter_yes]
  have e1 : (en m).map (fun x => Val.str x.1) = names.map .str := by rw [hn, ← en_keys, List.map_map]; rfl
  rw [e1]
  simp? only [List.length_map]
  refine draw_wp hp1 (by omega) (by omega) (by omega) fun d p2 d0 d1 hp2 => ?_
  have y0 := pix_strs (ss := names) (i := 0) (by decide) (by simp; omega)
  have z0 := pix_strs (ss := w) (i := 0) (by decide) (by simp; omega)
  have hA : (w.map Val.str).length = w.length := by simp
  have a1 := padd_l ((w.map Val.str).drop d.toNat) ((w.map Val.str).take d.toNat) (by simp; omega)
  have a2 := pmul_l (w.map .str) 2 (by decide) (by simp; omega)
  have d10 : 0 ≤ d + 1 := by omega
  have d11 : (d + 1).toNat = d.toNat + 1 := by omega
  have c1 : cutA (w.map Val.str) none (some 1) = (w.map Val.str).take 1 := cut_to _ 1
  have c2 : cutA (names.map Val.str) none (some 2) = (names.map Val.str).take 2 := cut_to _ 2
  simp? only [Psl, cut_fromI _ d0, cut_toI _ d0, cut_but, a1, a2, show Pmul [.lst (w.map .str), .int 2] = _ from a2, List.length_map]
  refine draw_wp hp2 (by omega) (by omega) (by omega) fun f p3 f0 f1 hp3 => ?_
  have x3 := pix_strs (ss := names) f0 (by omega)
  have a3 := padd_l ((w.map Val.str).take d.toNat) [.str (names[f.toNat]'(by omega))] (by simp; omega)
  have a4 := padd_l ((w.map Val.str).take d.toNat ++ [.str (names[f.toNat]'(by omega))]) ((w.map Val.str).drop (d.toNat + 1)) (by simp; omega)
  have a5 := padd_l (w.map .str) ((w.map Val.str).take 1) (by simp; omega)
  simp? only [x3, a3, padd_I, Psl, cut_fromI _ d10, d11, a4, c1, a5, padd_l, y0, z0]
  refine shuffled_wp hp3 (by simp; omega) (by simp; omega) fun ys p4 hperm hp4 => ?_
  obtain ⟨us, rfl, hus⟩ := perm_strs hperm
  simp? only [Psl, c2, padd_l]
  have tw : ∀ ss : List Str, (∀ y ∈ ss, y ∈ names) → ss.length ≤ 100 → Thing (.tup (ss.map .str)) := fun ss h hl => thing_tup ss hl fun y hy => cpk y (h y hy)
  have n0 : names[(0 : Int).toNat]'(by simp; omega) ∈ names := List.getElem_mem _
  have nf : names[f.toNat]'(by omega) ∈ names := List.getElem_mem _
  have w0 : w[(0 : Int).toNat]'(by simp; omega) ∈ names := hwn _ (List.getElem_mem _)
  refine q _ p4 (by simp) ?_ (hp4.mono (by simp; omega))
  intro v hv
  simp only [List.mem_cons, List.not_mem_nil, or_false] at hv
  have hsub : ∀ (k : Nat), ∀ y ∈ w.drop k, y ∈ names := fun k y hy => hwn y (List.mem_of_mem_drop hy)
  have hsub2 : ∀ (k : Nat), ∀ y ∈ w.take k, y ∈ names := fun k y hy => hwn y (List.mem_of_mem_take hy)
  rcases hv with rfl | rfl | rfl | rfl | rfl | rfl | rfl | rfl | rfl | rfl | rfl | rfl | rfl | rfl | rfl | rfl | rfl | rfl | rfl | rfl | rfl | rfl | rfl | rfl
  · exact tw w hwn (by omega)
  · rw [← List.map_drop, ← List.map_take, ← List.map_append]
    exact tw _ (fun y hy => (List.mem_append.mp hy).elim (hsub _ y) (hsub2 _ y)) (by simp; omega)
  · rw [← List.map_reverse]
    exact tw _ (fun y hy => hwn y (List.mem_reverse.mp hy)) (by simp; omega)
  · rw [← List.map_dropLast]
    exact tw _ (fun y hy => hwn y (List.mem_of_mem_take (by rw [← List.dropLast_eq_take]; exact hy))) (by simp; omega)
  · have : [w.map Val.str, w.map Val.str].flatten = (w ++ w).map .str := by simp
    rw [this]
    exact tw _ (fun y hy => (List.mem_append.mp hy).elim (hwn y) (hwn y)) (by simp; omega)
  · exact thing_of rfl fun _ z => nomatch z
  · have : (w.map Val.str).take d.toNat ++ [.str (names[f.toNat]'(by omega))] ++ (w.map Val.str).drop (d.toNat + 1) = (w.take d.toNat ++ [names[f.toNat]'(by omega)] ++ w.drop (d.toNat + 1)).map .str := by simp
    rw [this]
    refine tw _ (fun y hy => ?_) (by simp; omega)
    rcases List.mem_append.mp hy with z | z
    · rcases List.mem_append.mp z with z | z
      · exact hsub2 _ y z
      · rw [List.mem_singleton.mp z]; exact nf
    · exact hsub _ y z
  · rw [← List.map_take, ← List.map_append]
    exact tw _ (fun y hy => (List.mem_append.mp hy).elim (hwn y) (hsub2 _ y)) (by simp; omega)
  · exact tw [_] (fun y hy => by rw [List.mem_singleton.mp hy]; exact n0) (by simp)
  · exact tw [] (by simp) (by simp)
  · exact thing_of rfl fun _ z => nomatch z
  · exact thing_of rfl fun _ z => nomatch z
  · exact thing_of rfl fun _ z => nomatch z
  · exact thing_of rfl fun _ z => nomatch z
  · exact thing_of rfl fun _ z => nomatch z
  · exact thing_odd ⟨by simp [tyOf], rfl, rfl, by simp⟩
  · exact thing_odd ⟨by simp [tyOf], rfl, rfl, by simp⟩
  · have hc := shp_str (cpk _ w0)
    have h2 : shp (.tuple []) = true := by decide +kernel
    have h3 : shp (.tuple [.str (w[(0 : Int).toNat]'(by simp; omega)), .none]) = true := by
      revert hc
      show SeqAt.shaped _ = true → SeqAt.shaped _ = true
      simp only [SeqAt.shaped, PyData.canLay0, PyData.canLayAll0, PyData.depth, PyData.depthAll, Bool.and_true]
      intro hc
      simp at hc ⊢
      exact hc
    refine thing_odd ⟨by simp [tyOf], rfl, ?_, by simp⟩
    simp only [PeqX, orP, PeqS, Peq, toD, toDs, Option.map_some, h2, h3, and_self, if_true, PyData.eqv, PyData.eqvAll]
  · have h2 : shp (.tuple []) = true := by decide +kernel
    have h3 : shp (.tuple [.tuple [.str "a"]]) = true := by decide +kernel
    refine thing_odd ⟨by simp [tyOf], rfl, ?_, by simp⟩
    simp only [PeqX, orP, PeqS, Peq, toD, toDs, Option.map_some, h2, h3, and_self, if_true, PyData.eqv, PyData.eqvAll]
  · exact thing_odd ⟨by simp [tyOf], rfl, rfl, by simp⟩
  · exact tw us (fun y hy => hus.subset hy) (by rw [hus.length_eq]; omega)
  · rw [← List.map_take]
    exact tw _ (fun y hy => List.mem_of_mem_take hy) (by simp; omega)
  · exact thing_tup ["nosuch"] (by simp) (fun s hs => by rw [List.mem_singleton.mp hs]; unfold CpOk; decide +kernel)
  · exact thing_of rfl fun _ z => nomatch z
/-! the law -/
theorem toDkv_en (m : Nd) : toDkv (sd (en m)) = some (m.map fun p => (PyData.str p.1, PyData.tuple (p.2.map .str))) := by
  induction m with
  | nil => rfl
  | cons p m ih =>
    simp only [en, sd, List.map_cons] at ih ⊢
    simp only [toDkv, keyD, toD, toDs_strs, Option.map_some, ih]
theorem all_mapT {α β : Type} (f : β → Bool) (g : α → β) (xs : List α) (h : ∀ x ∈ xs, f (g x) = true) : (xs.map g).all f = true := by
  rw [List.all_map, List.all_eq_true]; exact h
theorem rszs_strs (ss : List Str) (h : ∀ s ∈ ss, IsName s) : rszs (ss.map .str) ≤ ss.length * 84 ∧ txOks (ss.map .str) = true ∧ PyData.showableAll (ss.map .str) = true ∧ PyData.depthAll (ss.map .str) = 0 ∧ noLsts (ss.map .str) = true := by
  induction ss with
  | nil => simp [rszs, txOks, PyData.showableAll, PyData.depthAll, noLsts]
  | cons s ss ih =>
    obtain ⟨h1, h2, h3, h4, h5⟩ := ih fun x hx => h x (List.mem_cons_of_mem _ hx)
    have hs := h s List.mem_cons_self
    have hl := hs.len
    simp only [List.map_cons, rszs, rsz, txOks, txOk, PyData.showableAll, PyData.showable, PyData.depthAll, PyData.depth, noLsts, noLst, h2, h3, h4, h5, strOk_iff.mpr hs.cp, List.length_cons, Bool.and_self, Nat.max_self, and_true]
    omega
theorem repr_kv (m : Nd) (hn : ∀ p ∈ m, IsName p.1) (hv : ∀ p ∈ m, p.2.length ≤ 7 ∧ ∀ y ∈ p.2, IsName y) :
    rszk (m.map fun p => (PyData.str p.1, PyData.tuple (p.2.map .str))) ≤ m.length * 700 ∧ txOkk (m.map fun p => (PyData.str p.1, PyData.tuple (p.2.map .str))) = true ∧ PyData.showableKv (m.map fun p => (PyData.str p.1, PyData.tuple (p.2.map .str))) = true ∧
      PyData.depthKv (m.map fun p => (PyData.str p.1, PyData.tuple (p.2.map .str))) ≤ 1 := by
  induction m with
  | nil => simp [rszk, txOkk, PyData.showableKv, PyData.depthKv]
  | cons p m ih =>
    obtain ⟨h1, h2, h3, h4⟩ := ih (fun x hx => hn x (List.mem_cons_of_mem _ hx)) (fun x hx => hv x (List.mem_cons_of_mem _ hx))
    have hs := hn p List.mem_cons_self
    have hl := hs.len
    have hv' := hv p List.mem_cons_self
    obtain ⟨g1, g2, g3, g4, g5⟩ := rszs_strs p.2 hv'.2
    simp only [List.map_cons, rszk, rsz, txOkk, txOk, PyData.showableKv, PyData.showable, PyData.depthKv, PyData.depth, g2, g3, g4, h2, h3, strOk_iff.mpr hs.cp, List.length_cons, Bool.and_self, and_true, true_and]
    constructor <;> omega
theorem repr_en {m : Nd} (hg : Good m) : ∃ x : Str, PreprX [enc m] = some (false, .str x) := by
  have hv : ∀ p ∈ m, p.2.length ≤ 7 ∧ ∀ y ∈ p.2, IsName y := fun p hp => ⟨(hg.vl p hp).1, fun y hy => hg.nm y ((hg.vl p hp).2 y hy)⟩
  obtain ⟨h1, h2, h3, h4⟩ := repr_kv m (fun p hp => hg.nm _ (List.mem_map.mpr ⟨p, hp, rfl⟩)) hv
  have hlen := hg.len
  refine ⟨(PyData.dict (m.map fun p => (PyData.str p.1, PyData.tuple (p.2.map .str)))).shown, ?_⟩
  simp only [PreprX, orP, PreprD, toDkv_en]
  have q1 : (PyData.dict (m.map fun p => (PyData.str p.1, PyData.tuple (p.2.map .str)))).shown.length ≤ sizeLine := by
    have := shown_le (.dict (m.map fun p => (PyData.str p.1, PyData.tuple (p.2.map .str)))) (by rw [txOk]; exact h2)
    rw [rsz] at this
    have e : sizeLine = 16777216 := rfl
    omega
  have q2 : ((m.map fun p => (PyData.str p.1, PyData.tuple (p.2.map .str))).all fun p => noLst p.2) = true := all_mapT _ _ _ fun p hp => by
    simp only [noLst]; exact (rszs_strs p.2 (hv p hp).2).2.2.2.2
  rw [if_pos ⟨q2, by rw [PyData.showable]; exact h3, by rw [PyData.depth]; omega, q1⟩]
theorem holds (ns : List Int) (hns : ns.length ≤ 63) : g_law [(false, .scr ns)] = .ok false (.bl true) none := by
  show wG g_law [(false, .scr ns)] fun x => x = .ok false (.bl true) none
  unfold g_law
  rw [wG_run (by rfl) (by simp [ownIx])]
  unfold b_law
  simp? only []
  refine pen_wp hns fun p hp => ?_
  simp? only [rng_nums 5 ⟨by decide, by decide⟩]
  obtain ⟨I, hI⟩ : ∃ I : List Val → M.Env → Prop, I = fun vs r => ∃ (k : Nat) (p : Val) (b2 b3 b4 b5 : M.Slot), vs = (nums (5 : Int).toNat).drop k ∧ k ≤ 5 ∧ Pen (k * 2000) p ∧ r = [some (false, .scr ns), some (true, p), b2, b3, b4, b5] := ⟨_, rfl⟩
  refine wL_inv I ?_ ?_ _ _ (by rw [hI]; exact ⟨0, p, none, none, none, none, rfl, by omega, hp, rfl⟩)
  · intro v vs r h
    rw [hI] at h
    obtain ⟨k, p, b2, b3, b4, b5, e, hk, hp, rfl⟩ := h
    obtain ⟨hk2, rfl, rfl⟩ := drop_step e
    rw [nums_get]
    rw [nums_len] at hk2
    have hk3 : k < 5 := hk2
    simp only [M.kT, M.tgN, List.set_cons_succ, List.set_cons_zero, L2_law]
    simp? only []
    refine draw_wp hp (by omega) (by decide) (by decide) fun d p1 d0 d1 hp1 => ?_
    simp? only [padd_I]
    refine tangle_wp hp1 (by omega) (by omega) (by omega) fun m p2 hg hp2 => ?_
    obtain ⟨x, hx⟩ := repr_en hg
    simp? only [hx]
    refine things_wp hp2 (by omega) hg fun ts p3 hl hts hp3 => ?_
    simp? only []
    obtain ⟨J, hJ⟩ : ∃ J : List Val → M.Env → Prop, J = fun vs r => ∃ (j : Nat) (b5 : M.Slot), vs = ts.drop j ∧ j ≤ ts.length ∧ r = [some (false, .scr ns), some (true, p3), some (false, .int (k : Nat)), some (false, enc m), some (false, .str x), b5] := ⟨_, rfl⟩
    refine wL_inv J ?_ ?_ _ _ (by rw [hJ]; exact ⟨0, b5, rfl, by omega, rfl⟩)
    · intro v vs r h
      rw [hJ] at h
      obtain ⟨j, b5, e, hj, rfl⟩ := h
      obtain ⟨hj2, rfl, rfl⟩ := drop_step e
      have ht := hts _ (List.getElem_mem hj2)
      obtain ⟨y, e1, e2⟩ := shown_bl (ringOf m ts[j])
      have e3 : PreprX [.bl (ringOf m ts[j])] = some (false, .str y) := by simpa only [PreprX, orP, PreprD] using e1
      simp only [M.kT, M.tgN, List.set_cons_succ, List.set_cons_zero, L1_law]
      simp? only []
      refine is_ring_wp ht ?_
      simp? only [e3]
      refine law_is_ring_wp ht ?_
      simp? only [e3, pneT, decide_true]
      rw [hJ]
      exact ⟨j + 1, _, rfl, hj2, rfl⟩
    · intro r h
      rw [hJ] at h
      obtain ⟨j, b5, e, hj, rfl⟩ := h
      simp? only [hx, pneT, decide_true]
      rw [hI]
      exact ⟨k + 1, p3, _, _, _, _, rfl, by omega, hp3.mono (by simp; omega), rfl⟩
  · intro r h
    rw [hI] at h
    obtain ⟨k, p, b2, b3, b4, b5, e, hk, hp, rfl⟩ := h
    have hput : putAll [] [(Val.str "a", Val.tup [Val.str "b"]), (Val.str "b", Val.tup [Val.str "a"])] = some (sd (en [("a", ["b"]), ("b", ["a"])])) := rfl
    have r1 : ringOf [("a", ["b"]), ("b", ["a"])] (.tup [.str "b", .str "a"]) = true := by decide +kernel
    have cp : ∀ s ∈ (["b", "a"] : List Str), CpOk s := fun s hs => by
      rcases List.mem_cons.mp hs with z | z
      · rw [z]; unfold CpOk; decide +kernel
      · rw [List.mem_singleton.mp z]; unfold CpOk; decide +kernel
    simp? only [hput]
    have ht : Thing (.tup [.str "b", .str "a"]) := thing_tup ["b", "a"] (by decide) cp
    refine is_ring_wp (m := [("a", ["b"]), ("b", ["a"])]) ht ?_
    simp? only [r1, Pis, decide_true, List.map_cons, List.map_nil]
    have ht0 : Thing (.tup []) := thing_tup [] (by decide) (by simp)
    have he0 : Val.dct false [] = enc [] := rfl
    rw [he0]
    refine is_ring_wp (m := []) ht0 ?_
    simp? only [Pis, decide_true, ringOf, asStrs, ringB]
    rfl
end K11
namespace K11
open PySem L2 M BB
abbrev top (i : Nat) : Stmt := PySem.Challenge.pw_passwidth_k11_what_is_a_ring.main.body.getD i (.Pass ⟨0, 0, 0, 0⟩)
abbrev s__law_pen : Stmt := top 3
abbrev s__law_draw : Stmt := top 4
abbrev s__law_names : Stmt := top 5
abbrev s__law_shuffled : Stmt := top 6
abbrev s__law_tangle : Stmt := top 7
abbrev s__law_walk : Stmt := top 10
abbrev s__law_things : Stmt := top 11
abbrev s_is_ring : Stmt := top 1
abbrev s__law_is_ring : Stmt := top 9
abbrev s_law : Stmt := top 12
theorem sc__law_pen : FnScope ["_law_script"] ["_law_script"] (defScope s__law_pen) := ⟨rfl, rfl, rfl, by decide +kernel, rfl, by decide +kernel, by decide +kernel⟩
theorem sc__law_draw : FnScope ["_law_pen_here", "_law_many", "_law_at", "_law_cell", "_law_mixed", "_law_digit", "_law_great"] ["_law_pen_here", "_law_many"] (defScope s__law_draw) := ⟨rfl, rfl, rfl, by decide +kernel, rfl, by decide +kernel, by decide +kernel⟩
theorem sc__law_names : FnScope ["_law_pen_here", "_law_many", "_law_letters", "_law_base", "_law_found", "_law_k", "_law_way", "_law_first", "_law_one", "_law_two"] ["_law_pen_here", "_law_many"] (defScope s__law_names) := ⟨rfl, rfl, rfl, by decide +kernel, rfl, by decide +kernel, by decide +kernel⟩
theorem sc__law_shuffled : FnScope ["_law_pen_here", "_law_some", "_law_left", "_law_k"] ["_law_pen_here", "_law_some"] (defScope s__law_shuffled) := ⟨rfl, rfl, rfl, by decide +kernel, rfl, by decide +kernel, by decide +kernel⟩
theorem sc__law_tangle : FnScope ["_law_pen_here", "_law_many", "_law_names_here", "_law_dense", "_law_found", "_law_k", "_law_some", "_law_one"] ["_law_pen_here", "_law_many"] (defScope s__law_tangle) := ⟨rfl, rfl, rfl, by decide +kernel, rfl, by decide +kernel, by decide +kernel⟩
theorem sc__law_walk : FnScope ["_law_pen_here", "_law_needs", "_law_names_here", "_law_walk_here", "_law_turn", "_law_some", "_law_one", "_law_name"] ["_law_pen_here", "_law_needs"] (defScope s__law_walk) := ⟨rfl, rfl, rfl, by decide +kernel, rfl, by decide +kernel, by decide +kernel⟩
theorem sc__law_things : FnScope ["_law_pen_here", "_law_needs", "_law_walk_here", "_law_names_here", "_law_at", "_law_some", "_law_name"] ["_law_pen_here", "_law_needs"] (defScope s__law_things) := ⟨rfl, rfl, rfl, by decide +kernel, rfl, by decide +kernel, by decide +kernel⟩
theorem sc_is_ring : FnScope ["needs", "thing", "name", "other"] ["needs", "thing"] (defScope s_is_ring) := ⟨rfl, rfl, rfl, by decide +kernel, rfl, by decide +kernel, by decide +kernel⟩
theorem sc__law_is_ring : FnScope ["_law_needs", "_law_thing", "_law_k"] ["_law_needs", "_law_thing"] (defScope s__law_is_ring) := ⟨rfl, rfl, rfl, by decide +kernel, rfl, by decide +kernel, by decide +kernel⟩
theorem sc_law : FnScope ["_law_script", "_law_pen_here", "_law_turn", "_law_needs", "_law_kept", "_law_thing"] ["_law_script"] (defScope s_law) := ⟨rfl, rfl, rfl, by decide +kernel, rfl, by decide +kernel, by decide +kernel⟩
structure Txt (K : PySem.W.Frag) (mg : Str → Option Value) : Prop where
  f__law_pen : ∃ f fd, mg "_law_pen" = some (.ref f) ∧ FunP K "_law_pen" s__law_pen f fd
  f__law_draw : ∃ f fd, mg "_law_draw" = some (.ref f) ∧ FunP K "_law_draw" s__law_draw f fd
  f__law_names : ∃ f fd, mg "_law_names" = some (.ref f) ∧ FunP K "_law_names" s__law_names f fd
  f__law_shuffled : ∃ f fd, mg "_law_shuffled" = some (.ref f) ∧ FunP K "_law_shuffled" s__law_shuffled f fd
  f__law_tangle : ∃ f fd, mg "_law_tangle" = some (.ref f) ∧ FunP K "_law_tangle" s__law_tangle f fd
  f__law_walk : ∃ f fd, mg "_law_walk" = some (.ref f) ∧ FunP K "_law_walk" s__law_walk f fd
  f__law_things : ∃ f fd, mg "_law_things" = some (.ref f) ∧ FunP K "_law_things" s__law_things f fd
  f_is_ring : ∃ f fd, mg "is_ring" = some (.ref f) ∧ FunP K "is_ring" s_is_ring f fd
  f__law_is_ring : ∃ f fd, mg "_law_is_ring" = some (.ref f) ∧ FunP K "_law_is_ring" s__law_is_ring f fd
  f_law : ∃ f fd, mg "law" = some (.ref f) ∧ FunP K "law" s_law f fd
  b_abs : mg "abs" = none
  b_all : mg "all" = none
  b_int : mg "int" = none
  b_isinstance : mg "isinstance" = none
  b_len : mg "len" = none
  b_list : mg "list" = none
  b_range : mg "range" = none
  b_repr : mg "repr" = none
  b_set : mg "set" = none
  b_str : mg "str" = none
  b_tuple : mg "tuple" = none
  b_zip : mg "zip" = none
section
variable {P : Program} {w : World} {K : PySem.W.Frag} {mg : Str → Option Value} {base : Heap} {CM : Str → Option Addr}
theorem ok__law_pen (T : Txt K mg) : DefP P w K mg base ⟨K, CM⟩ 1 "_law_pen" s__law_pen ["_law_script"] g__law_pen := by
  obtain ⟨f, fd, hm, F⟩ := T.f__law_pen
  refine def_mk (N := ["_law_script"]) (ios := [0]) (k := 0) hm F sc__law_pen (fun cdv A0 outer s H E hr => ⟨fun A W hw hio tk => ?_⟩) (fun _ _ _ _ _ _ us hl => match us, hl with | [_], _ => rfl)
  have c := cal_of (CM := CM) (N := ["_law_script"]) (mg := mg) (P := P) (w := w) (K := K) (base := base) (E := E) (f := f) (cdv := cdv) (H := H) (s := s) (A := A0) (outer := outer) (qual := "_law_pen") (scope := defScope s__law_pen) (k := 0) hr
  rw [← hw] at c
  have nd : (["_law_script"] : List Str).Nodup := sc__law_pen.nd
  have nio : ∀ i, i ∉ A.io ∨ i ∈ [0] := fun i => by by_cases h : i ∈ A.io; exact .inr (hio i h); exact .inl h
  exact (pss_one' (ps_ret' (pe_dsp (pps_Cons pe_cs (pe_slc c (po_S (pv 0)) po_pNo (po_pInt pe_ci)) (pps_Cons pe_cs pe_ci (pps_Cons pe_cs pe_ci pps_Nil))))))
theorem ok__law_draw (T : Txt K mg) : DefP P w K mg base ⟨K, CM⟩ 1 "_law_draw" s__law_draw ["_law_pen_here", "_law_many"] g__law_draw := by
  obtain ⟨f, fd, hm, F⟩ := T.f__law_draw
  refine def_mk (N := ["_law_pen_here", "_law_many", "_law_at", "_law_cell", "_law_mixed", "_law_digit", "_law_great"]) (ios := [0, 1]) (k := 0) hm F sc__law_draw (fun cdv A0 outer s H E hr => ⟨fun A W hw hio tk => ?_⟩) (fun _ _ _ _ _ _ us hl => match us, hl with | [_, _], _ => rfl)
  have c := cal_of (CM := CM) (N := ["_law_pen_here", "_law_many", "_law_at", "_law_cell", "_law_mixed", "_law_digit", "_law_great"]) (mg := mg) (P := P) (w := w) (K := K) (base := base) (E := E) (f := f) (cdv := cdv) (H := H) (s := s) (A := A0) (outer := outer) (qual := "_law_draw") (scope := defScope s__law_draw) (k := 0) hr
  rw [← hw] at c
  have nd : (["_law_pen_here", "_law_many", "_law_at", "_law_cell", "_law_mixed", "_law_digit", "_law_great"] : List Str).Nodup := sc__law_draw.nd
  have nio : ∀ i, i ∉ A.io ∨ i ∈ [0, 1] := fun i => by by_cases h : i ∈ A.io; exact .inr (hio i h); exact .inl h
  exact (pss_cons' (ps_if' (pt_cmpV opr_gt (po_V (pe_idx c (po_S (pv 0)) (po_V pe_cs))) (po_V pe_ci)) (pss_cons' (ps_asg' (i := 5) nd rfl (by first | exact .inl rfl | exact .inr rfl) (pe_bin (opr_mod c) (po_V (pe_idx c (po_S (pv 0)) (po_V pe_cs))) (po_S (pv 1))) ((nio 5).resolve_right (by decide)))
    (pss_cons' (ps_setIx c (pv 0) pe_cs (pe_bin (opr_div c) (po_V (pe_idx c (po_S (pv 0)) (po_V pe_cs))) (po_S (pv 1))))
    (pss_one' (ps_ret' (pe_mv (pv 5)))))) pss_nil')
    (pss_cons' (ps_asg' (i := 2) nd rfl (by first | exact .inl rfl | exact .inr rfl) (pe_idx c (po_S (pv 0)) (po_V pe_cs)) ((nio 2).resolve_right (by decide)))
    (pss_cons' (ps_setIx c (pv 0) pe_cs (pe_bin (opr_add c) (po_S (pv 2)) (po_V pe_ci)))
    (pss_cons' (ps_asg' (i := 3) nd rfl (by first | exact .inl rfl | exact .inr rfl) (pe_frz (pe_bin (opr_add c) (po_V (pe_bin (opr_mul c) (po_V pe_ci) (po_S (pv 2)))) (po_V pe_ci))) ((nio 3).resolve_right (by decide)))
    (pss_cons' (ps_if' (pt_cmpV (opr_neX c) (po_V (pe_idx c (po_S (pv 0)) (po_V pe_cs))) (po_V (pe_lst' pa_asNil))) (pss_one' (ps_asg' (i := 3) nd rfl (by first | exact .inl rfl | exact .inr rfl) (pe_idx c (po_V (pe_idx c (po_S (pv 0)) (po_V pe_cs))) (po_V (pe_bin (opr_mod c) (po_S (pv 2)) (po_V (pe_bi (bi_len c) rfl T.b_len bf_len (pa_osCons (po_V (pe_idx c (po_S (pv 0)) (po_V pe_cs))) pa_osNil)))))) ((nio 3).resolve_right (by decide)))) pss_nil')
    (pss_cons' (ps_if' (PW.pt (pw_and' (pt_cmpV opr_lt (po_S (pv 2)) (po_V (pe_bi (bi_len c) rfl T.b_len bf_len (pa_osCons (po_V (pe_idx c (po_S (pv 0)) (po_V pe_cs))) pa_osNil)))) (pw_and1 (pt_cmpV opr_ge (po_V (pe_bi bi_abs rfl T.b_abs bf_abs (pa_osCons (po_S (pv 3)) pa_osNil))) (po_V (pe_bin (opr_pow c) (po_V pe_ci) (po_V pe_ci))))))) (pss_cons' (ps_asg' (i := 6) nd rfl (by first | exact .inl rfl | exact .inr rfl) (pe_frz (pe_bin (opr_add c) (po_V (pe_bin (opr_mul c) (po_V pe_ci) (po_V (pe_bi bi_abs rfl T.b_abs bf_abs (pa_osCons (po_S (pv 3)) pa_osNil))))) (po_V (pe_bt bi_int rfl T.b_int bt_int (pa_osCons (po_V (pe_cmpV opr_lt (po_S (pv 3)) (po_V pe_ci))) pa_osNil))))) ((nio 6).resolve_right (by decide)))
    (pss_cons' (ps_setIx c (pv 0) pe_cs (pe_bin (opr_div c) (po_S (pv 6)) (po_S (pv 1))))
    (pss_one' (ps_ret' (pe_bin (opr_mod c) (po_S (pv 6)) (po_S (pv 1))))))) pss_nil')
    (pss_cons' (ps_asg' (i := 4) nd rfl (by first | exact .inl rfl | exact .inr rfl) (pe_frz (pe_bin (opr_mod c) (po_V (pe_bin (opr_pow c) (po_V (pe_bin (opr_add c) (po_V (pe_bin (opr_add c) (po_V (pe_bin (opr_mod c) (po_S (pv 3)) (po_V pe_ci))) (po_V (pe_bin (opr_mul c) (po_V pe_ci) (po_S (pv 2)))))) (po_V pe_ci))) (po_V pe_ci))) (po_V pe_ci))) ((nio 4).resolve_right (by decide)))
    (pss_cons' (ps_asg' (i := 4) nd rfl (by first | exact .inl rfl | exact .inr rfl) (pe_frz (pe_bin (opr_mod c) (po_V (pe_bin (opr_pow c) (po_V (pe_bin (opr_add c) (po_V (pe_bin (opr_mul c) (po_S (pv 4)) (po_V (pe_bin (opr_add c) (po_S (pv 2)) (po_V pe_ci))))) (po_V (pe_bin (opr_mul c) (po_V (pe_bin (opr_mul c) (po_V pe_ci) (po_S (pv 2)))) (po_S (pv 2)))))) (po_V pe_ci))) (po_V pe_ci))) ((nio 4).resolve_right (by decide)))
    (pss_one' (ps_ret' (pe_bin (opr_mod c) (po_V (pe_bin (opr_div c) (po_S (pv 4)) (po_V pe_ci))) (po_S (pv 1)))))))))))))
theorem ok__law_names (T : Txt K mg) : DefP P w K mg base ⟨K, CM⟩ 2 "_law_names" s__law_names ["_law_pen_here", "_law_many"] g__law_names := by
  obtain ⟨f, fd, hm, F⟩ := T.f__law_names
  have e__law_draw := ok__law_draw (P := P) (w := w) (base := base) (CM := CM) T
  refine def_mk (N := ["_law_pen_here", "_law_many", "_law_letters", "_law_base", "_law_found", "_law_k", "_law_way", "_law_first", "_law_one", "_law_two"]) (ios := [0, 1]) (k := 1) hm F sc__law_names (fun cdv A0 outer s H E hr => ⟨fun A W hw hio tk => ?_⟩) (fun _ _ _ _ _ _ us hl => match us, hl with | [_, _], _ => rfl)
  have c := cal_of (CM := CM) (N := ["_law_pen_here", "_law_many", "_law_letters", "_law_base", "_law_found", "_law_k", "_law_way", "_law_first", "_law_one", "_law_two"]) (mg := mg) (P := P) (w := w) (K := K) (base := base) (E := E) (f := f) (cdv := cdv) (H := H) (s := s) (A := A0) (outer := outer) (qual := "_law_names") (scope := defScope s__law_names) (k := 1) hr
  rw [← hw] at c
  have d__law_draw := e__law_draw; rw [← hw] at d__law_draw; clear e__law_draw
  have nd : (["_law_pen_here", "_law_many", "_law_letters", "_law_base", "_law_found", "_law_k", "_law_way", "_law_first", "_law_one", "_law_two"] : List Str).Nodup := sc__law_names.nd
  have nio : ∀ i, i ∉ A.io ∨ i ∈ [0, 1] := fun i => by by_cases h : i ∈ A.io; exact .inr (hio i h); exact .inl h
  exact (pss_cons' (ps_asg' (i := 2) nd rfl (by first | exact .inl rfl | exact .inr rfl) pe_cs ((nio 2).resolve_right (by decide)))
    (pss_cons' (ps_asg2 rfl nd (i := 6) (j := 7) rfl rfl (by decide) rfl rfl ((nio 6).resolve_right (by decide)) ((nio 7).resolve_right (by decide)) (pa_asCons (pe_cD d__law_draw (hr.le (by decide)) rfl tk (pa_osCons (po_S (pv 0)) (pa_osCons (po_V pe_ci) pa_osNil))) (pa_asCons (pe_cD d__law_draw (hr.le (by decide)) rfl tk (pa_osCons (po_S (pv 0)) (pa_osCons (po_V pe_ci) pa_osNil))) pa_asNil)))
    (pss_cons' (ps_asg' (i := 3) nd rfl (by first | exact .inl rfl | exact .inr rfl) (pe_idx c (po_V (pe_lst' (pa_asCons pe_cs (pa_asCons pe_cs (pa_asCons pe_cs pa_asNil))))) (po_S (pv 6))) ((nio 3).resolve_right (by decide)))
    (pss_cons' (ps_asg' (i := 4) nd rfl (by first | exact .inl rfl | exact .inr rfl) (pe_lst' pa_asNil) ((nio 4).resolve_right (by decide)))
    (pss_cons' (ps_for' (passes_of rfl) rfl (pi_rng1 rfl T.b_range (pa_asCons (pe_var' (pv 1)) pa_asNil)) (pg_N (i := 5) nd rfl (by first | exact .inl rfl | exact .inr rfl) ((nio 5).resolve_right (by decide))) (pss_cons' (ps_asg2 rfl nd (i := 8) (j := 9) rfl rfl (by decide) rfl rfl ((nio 8).resolve_right (by decide)) ((nio 9).resolve_right (by decide)) (pa_asCons (pe_idx c (po_S (pv 2)) (po_V (pe_bin (opr_mod c) (po_V (pe_bin (opr_add c) (po_S (pv 7)) (po_S (pv 5)))) (po_V pe_ci)))) (pa_asCons (pe_idx c (po_S (pv 2)) (po_V (pe_bin (opr_div c) (po_S (pv 5)) (po_V pe_ci)))) pa_asNil)))
    (pss_one' (ps_drop' (pe_mut PySem.F.plainAttrs_list PySem.F.slot_list_append PySem.F.type_list_append mutp_append (pv 4) (pa_asCons (pe_ite (PW.pt (pw_or' (pt_cmpV opr_gt (po_S (pv 6)) (po_V pe_ci)) (pw_or1 (pt_cmpV opr_gt (po_S (pv 5)) (po_V pe_ci))))) (pe_bin (opr_add c) (po_V (pe_bin (opr_add c) (po_S (pv 3)) (po_S (pv 8)))) (po_S (pv 9))) (pe_var' (pv 8))) pa_asNil))))))
    (pss_one' (ps_ret' (pe_mv (pv 4)))))))))
theorem ok__law_shuffled (T : Txt K mg) : DefP P w K mg base ⟨K, CM⟩ 2 "_law_shuffled" s__law_shuffled ["_law_pen_here", "_law_some"] g__law_shuffled := by
  obtain ⟨f, fd, hm, F⟩ := T.f__law_shuffled
  have e__law_draw := ok__law_draw (P := P) (w := w) (base := base) (CM := CM) T
  refine def_mk (N := ["_law_pen_here", "_law_some", "_law_left", "_law_k"]) (ios := [0, 1]) (k := 1) hm F sc__law_shuffled (fun cdv A0 outer s H E hr => ⟨fun A W hw hio tk => ?_⟩) (fun _ _ _ _ _ _ us hl => match us, hl with | [_, _], _ => rfl)
  have c := cal_of (CM := CM) (N := ["_law_pen_here", "_law_some", "_law_left", "_law_k"]) (mg := mg) (P := P) (w := w) (K := K) (base := base) (E := E) (f := f) (cdv := cdv) (H := H) (s := s) (A := A0) (outer := outer) (qual := "_law_shuffled") (scope := defScope s__law_shuffled) (k := 1) hr
  rw [← hw] at c
  have d__law_draw := e__law_draw; rw [← hw] at d__law_draw; clear e__law_draw
  have nd : (["_law_pen_here", "_law_some", "_law_left", "_law_k"] : List Str).Nodup := sc__law_shuffled.nd
  have nio : ∀ i, i ∉ A.io ∨ i ∈ [0, 1] := fun i => by by_cases h : i ∈ A.io; exact .inr (hio i h); exact .inl h
  exact (pss_cons' (ps_asg' (i := 2) nd rfl (by first | exact .inl rfl | exact .inr rfl) (pe_bt (bi_list c) rfl T.b_list bt_list (pa_osCons (po_S (pv 1)) pa_osNil)) ((nio 2).resolve_right (by decide)))
    (pss_one' (ps_ret' (pe_lcM rfl nd (pi_rng1 rfl T.b_range (pa_asCons (pe_bi (bi_len c) rfl T.b_len bf_len (pa_osCons (po_S (pv 2)) pa_osNil)) pa_asNil)) (blkOk_by (own := [("_law_k", 3)]) (by rfl)) (fun _ _ _ _ _ => (pg_N (i := 3) nd rfl (by first | exact .inl rfl | exact .inr rfl) ((nio 3).resolve_right (by decide)))) (fun _ _ _ _ _ => pts_no) (fun _ _ _ _ _ => (pe_mut PySem.F.plainAttrs_list PySem.F.slot_list_pop PySem.F.type_list_pop mutp_popAt (pv 2) (pa_asCons (pe_cD d__law_draw (hr.le (by decide)) rfl takes0 (pa_osCons (po_S (pv 0)) (pa_osCons (po_V (pe_frz (pe_bi (bi_len (Cal.blk c)) rfl T.b_len bf_len (pa_osCons (po_S (pv 2)) pa_osNil)))) pa_osNil))) pa_asNil))) (tok_N 3) (by decide) (fun i hi => (by decide : ∀ i ∈ ([0, 1] : List Nat), i ∉ _) i (hio i hi))))))
theorem ok__law_tangle (T : Txt K mg) : DefP P w K mg base ⟨K, CM⟩ 3 "_law_tangle" s__law_tangle ["_law_pen_here", "_law_many"] g__law_tangle := by
  obtain ⟨f, fd, hm, F⟩ := T.f__law_tangle
  have e__law_names := ok__law_names (P := P) (w := w) (base := base) (CM := CM) T
  have e__law_draw := ok__law_draw (P := P) (w := w) (base := base) (CM := CM) T
  have e__law_shuffled := ok__law_shuffled (P := P) (w := w) (base := base) (CM := CM) T
  refine def_mk (N := ["_law_pen_here", "_law_many", "_law_names_here", "_law_dense", "_law_found", "_law_k", "_law_some", "_law_one"]) (ios := [0, 1]) (k := 2) hm F sc__law_tangle (fun cdv A0 outer s H E hr => ⟨fun A W hw hio tk => ?_⟩) (fun _ _ _ _ _ _ us hl => match us, hl with | [_, _], _ => rfl)
  have c := cal_of (CM := CM) (N := ["_law_pen_here", "_law_many", "_law_names_here", "_law_dense", "_law_found", "_law_k", "_law_some", "_law_one"]) (mg := mg) (P := P) (w := w) (K := K) (base := base) (E := E) (f := f) (cdv := cdv) (H := H) (s := s) (A := A0) (outer := outer) (qual := "_law_tangle") (scope := defScope s__law_tangle) (k := 2) hr
  rw [← hw] at c
  have d__law_names := e__law_names; rw [← hw] at d__law_names; clear e__law_names
  have d__law_draw := e__law_draw; rw [← hw] at d__law_draw; clear e__law_draw
  have d__law_shuffled := e__law_shuffled; rw [← hw] at d__law_shuffled; clear e__law_shuffled
  have nd : (["_law_pen_here", "_law_many", "_law_names_here", "_law_dense", "_law_found", "_law_k", "_law_some", "_law_one"] : List Str).Nodup := sc__law_tangle.nd
  have nio : ∀ i, i ∉ A.io ∨ i ∈ [0, 1] := fun i => by by_cases h : i ∈ A.io; exact .inr (hio i h); exact .inl h
  exact (pss_cons' (ps_asg' (i := 2) nd rfl (by first | exact .inl rfl | exact .inr rfl) (pe_frz (pe_cD d__law_names (hr.le (by decide)) rfl tk (pa_osCons (po_S (pv 0)) (pa_osCons (po_V (pe_var' (pv 1))) pa_osNil)))) ((nio 2).resolve_right (by decide)))
    (pss_cons' (ps_asg' (i := 3) nd rfl (by first | exact .inl rfl | exact .inr rfl) (pe_frz (pe_cD d__law_draw (hr.le (by decide)) rfl tk (pa_osCons (po_S (pv 0)) (pa_osCons (po_V pe_ci) pa_osNil)))) ((nio 3).resolve_right (by decide)))
    (pss_cons' (ps_asg' (i := 4) nd rfl (by first | exact .inl rfl | exact .inr rfl) pe_dNewK ((nio 4).resolve_right (by decide)))
    (pss_cons' (ps_for' (passes_of rfl) rfl (pi_rng1 rfl T.b_range (pa_asCons (pe_var' (pv 1)) pa_asNil)) (pg_N (i := 5) nd rfl (by first | exact .inl rfl | exact .inr rfl) ((nio 5).resolve_right (by decide))) (pss_cons' (ps_asgLc rfl nd (i := 6) rfl rfl ((nio 6).resolve_right (by decide)) (sw_true rfl rfl rfl (by decide +kernel)) (pi_V c.K (pe_var' (pv 2))) (blkOk_by (own := [("_law_one", 7)]) (by rfl)) (fun _ _ _ _ _ => (pg_N (i := 7) nd rfl (by first | exact .inl rfl | exact .inr rfl) ((nio 7).resolve_right (by decide)))) (fun _ _ _ _ _ => (pts_1 (PW.pt (pw_and' (pt_cmpV opr_gt (po_S (pv 3)) (po_V pe_ci)) (pw_and1 (pt_cmpV (opr_eqX (Cal.blk c)) (po_V (pe_cD d__law_draw (hr.le (by decide)) rfl takes0 (pa_osCons (po_S (pv 0)) (pa_osCons (po_V (pe_idx (Cal.blk c) (po_V (pe_lst' (pa_asCons pe_ci (pa_asCons pe_ci (pa_asCons pe_ci (pa_asCons pe_ci (pa_asCons pe_ci pa_asNil))))))) (po_S (pv 3)))) pa_osNil)))) (po_V pe_ci))))))) (fun _ _ _ _ _ => (pe_var' (pv 7))) (tok_N 7) (by decide) (fun i hi => (by decide : ∀ i ∈ ([0, 1] : List Nat), i ∉ _) i (hio i hi)))
    (pss_cons' (ps_if' (pt_cmpV (opr_eqX c) (po_S (pv 3)) (po_V pe_ci)) (pss_one' (ps_asg' (i := 6) nd rfl (by first | exact .inl rfl | exact .inr rfl) (pe_frz (pe_lst' (pa_asCons (pe_idx c (po_S (pv 2)) (po_V (pe_bin (opr_mod c) (po_V (pe_bin (opr_add c) (po_S (pv 5)) (po_V pe_ci))) (po_S (pv 1))))) pa_asNil))) ((nio 6).resolve_right (by decide)))) pss_nil')
    (pss_cons' (ps_if' (pt_cmpV (opr_eqX c) (po_V (pe_cD d__law_draw (hr.le (by decide)) rfl tk (pa_osCons (po_S (pv 0)) (pa_osCons (po_V pe_ci) pa_osNil)))) (po_V pe_ci)) (pss_one' (ps_asg' (i := 6) nd rfl (by first | exact .inl rfl | exact .inr rfl) (pe_frz (pe_lst' (pa_asCons (pe_idx c (po_S (pv 2)) (po_S (pv 5))) pa_asNil))) ((nio 6).resolve_right (by decide)))) pss_nil')
    (pss_one' (ps_setIx c (pv 4) (pe_idx c (po_S (pv 2)) (po_S (pv 5))) (pe_bt (bi_tuple c) rfl T.b_tuple bt_tuple (pa_osCons (po_V (pe_cD d__law_shuffled (hr.le (by decide)) rfl tk (pa_osCons (po_S (pv 0)) (pa_osCons (po_V (pe_var' (pv 6))) pa_osNil)))) pa_osNil))))))))
    (pss_one' (ps_ret' (pe_mv (pv 4))))))))
theorem ok__law_walk (T : Txt K mg) : DefP P w K mg base ⟨K, CM⟩ 2 "_law_walk" s__law_walk ["_law_pen_here", "_law_needs"] g__law_walk := by
  obtain ⟨f, fd, hm, F⟩ := T.f__law_walk
  have e__law_draw := ok__law_draw (P := P) (w := w) (base := base) (CM := CM) T
  refine def_mk (N := ["_law_pen_here", "_law_needs", "_law_names_here", "_law_walk_here", "_law_turn", "_law_some", "_law_one", "_law_name"]) (ios := [0, 1]) (k := 1) hm F sc__law_walk (fun cdv A0 outer s H E hr => ⟨fun A W hw hio tk => ?_⟩) (fun _ _ _ _ _ _ us hl => match us, hl with | [_, _], _ => rfl)
  have c := cal_of (CM := CM) (N := ["_law_pen_here", "_law_needs", "_law_names_here", "_law_walk_here", "_law_turn", "_law_some", "_law_one", "_law_name"]) (mg := mg) (P := P) (w := w) (K := K) (base := base) (E := E) (f := f) (cdv := cdv) (H := H) (s := s) (A := A0) (outer := outer) (qual := "_law_walk") (scope := defScope s__law_walk) (k := 1) hr
  rw [← hw] at c
  have d__law_draw := e__law_draw; rw [← hw] at d__law_draw; clear e__law_draw
  have nd : (["_law_pen_here", "_law_needs", "_law_names_here", "_law_walk_here", "_law_turn", "_law_some", "_law_one", "_law_name"] : List Str).Nodup := sc__law_walk.nd
  have nio : ∀ i, i ∉ A.io ∨ i ∈ [0, 1] := fun i => by by_cases h : i ∈ A.io; exact .inr (hio i h); exact .inl h
  exact (pss_cons' (ps_asgLc rfl nd (i := 2) rfl rfl ((nio 2).resolve_right (by decide)) (sw_true rfl rfl rfl (by decide +kernel)) (pi_V c.K (pe_var' (pv 1))) (blkOk_by (own := [("_law_name", 7)]) (by rfl)) (fun _ _ _ _ _ => (pg_N (i := 7) nd rfl (by first | exact .inl rfl | exact .inr rfl) ((nio 7).resolve_right (by decide)))) (fun _ _ _ _ _ => pts_no) (fun _ _ _ _ _ => (pe_var' (pv 7))) (tok_N 7) (by decide) (fun i hi => (by decide : ∀ i ∈ ([0, 1] : List Nat), i ∉ _) i (hio i hi)))
    (pss_cons' (ps_asg' (i := 3) nd rfl (by first | exact .inl rfl | exact .inr rfl) (pe_lst' (pa_asCons (pe_idx c (po_S (pv 2)) (po_V (pe_cD d__law_draw (hr.le (by decide)) rfl tk (pa_osCons (po_S (pv 0)) (pa_osCons (po_V (pe_frz (pe_bi (bi_len c) rfl T.b_len bf_len (pa_osCons (po_S (pv 2)) pa_osNil)))) pa_osNil))))) pa_asNil)) ((nio 3).resolve_right (by decide)))
    (pss_cons' (ps_for' (passes_of rfl) rfl (pi_rng1 rfl T.b_range (pa_asCons (pe_bi (bi_len c) rfl T.b_len bf_len (pa_osCons (po_S (pv 2)) pa_osNil)) pa_asNil)) (pg_N (i := 4) nd rfl (by first | exact .inl rfl | exact .inr rfl) ((nio 4).resolve_right (by decide))) (pss_cons' (ps_asg' (i := 5) nd rfl (by first | exact .inl rfl | exact .inr rfl) (pe_idx c (po_S (pv 1)) (po_V (pe_idx c (po_S (pv 3)) (po_V (pe_neg (po_V pe_ci)))))) ((nio 5).resolve_right (by decide)))
    (pss_cons' (ps_if' (pt_cmpV (opr_eqX c) (po_S (pv 5)) (po_V (pe_tup' pa_asNil))) (pss_one' (ps_ret' (pe_mv (pv 3)))) pss_nil')
    (pss_cons' (ps_asg' (i := 6) nd rfl (by first | exact .inl rfl | exact .inr rfl) (pe_idx c (po_S (pv 5)) (po_V (pe_cD d__law_draw (hr.le (by decide)) rfl tk (pa_osCons (po_S (pv 0)) (pa_osCons (po_V (pe_frz (pe_bi (bi_len c) rfl T.b_len bf_len (pa_osCons (po_S (pv 5)) pa_osNil)))) pa_osNil))))) ((nio 6).resolve_right (by decide)))
    (pss_cons' (ps_if' (pt_cmpV (opr_inX c) (po_S (pv 6)) (po_S (pv 3))) (pss_one' (ps_ret' (pe_slc c (po_S (pv 3)) (po_pInt (pe_mt c (by decide) PySem.F.plainAttrs_list PySem.F.slot_list_index PySem.F.type_list_index (mtp_index c) (po_S (pv 3)) (pa_osCons (po_S (pv 6)) pa_osNil))) po_pNo))) pss_nil')
    (pss_one' (ps_drop' (pe_mut PySem.F.plainAttrs_list PySem.F.slot_list_append PySem.F.type_list_append mutp_append (pv 3) (pa_asCons (pe_var' (pv 6)) pa_asNil)))))))))
    (pss_one' (ps_ret' (pe_mv (pv 3)))))))
theorem ok__law_things (T : Txt K mg) : DefP P w K mg base ⟨K, CM⟩ 3 "_law_things" s__law_things ["_law_pen_here", "_law_needs"] g__law_things := by
  obtain ⟨f, fd, hm, F⟩ := T.f__law_things
  have e__law_walk := ok__law_walk (P := P) (w := w) (base := base) (CM := CM) T
  have e__law_draw := ok__law_draw (P := P) (w := w) (base := base) (CM := CM) T
  have e__law_shuffled := ok__law_shuffled (P := P) (w := w) (base := base) (CM := CM) T
  refine def_mk (N := ["_law_pen_here", "_law_needs", "_law_walk_here", "_law_names_here", "_law_at", "_law_some", "_law_name"]) (ios := [0, 1]) (k := 2) hm F sc__law_things (fun cdv A0 outer s H E hr => ⟨fun A W hw hio tk => ?_⟩) (fun _ _ _ _ _ _ us hl => match us, hl with | [_, _], _ => rfl)
  have c := cal_of (CM := CM) (N := ["_law_pen_here", "_law_needs", "_law_walk_here", "_law_names_here", "_law_at", "_law_some", "_law_name"]) (mg := mg) (P := P) (w := w) (K := K) (base := base) (E := E) (f := f) (cdv := cdv) (H := H) (s := s) (A := A0) (outer := outer) (qual := "_law_things") (scope := defScope s__law_things) (k := 2) hr
  rw [← hw] at c
  have d__law_walk := e__law_walk; rw [← hw] at d__law_walk; clear e__law_walk
  have d__law_draw := e__law_draw; rw [← hw] at d__law_draw; clear e__law_draw
  have d__law_shuffled := e__law_shuffled; rw [← hw] at d__law_shuffled; clear e__law_shuffled
  have nd : (["_law_pen_here", "_law_needs", "_law_walk_here", "_law_names_here", "_law_at", "_law_some", "_law_name"] : List Str).Nodup := sc__law_things.nd
  have nio : ∀ i, i ∉ A.io ∨ i ∈ [0, 1] := fun i => by by_cases h : i ∈ A.io; exact .inr (hio i h); exact .inl h
  exact (pss_cons' (ps_asg' (i := 2) nd rfl (by first | exact .inl rfl | exact .inr rfl) (pe_frz (pe_cD d__law_walk (hr.le (by decide)) rfl tk (pa_osCons (po_S (pv 0)) (pa_osCons (po_V (pe_var' (pv 1))) pa_osNil)))) ((nio 2).resolve_right (by decide)))
    (pss_cons' (ps_asgLc rfl nd (i := 3) rfl rfl ((nio 3).resolve_right (by decide)) (sw_true rfl rfl rfl (by decide +kernel)) (pi_V c.K (pe_var' (pv 1))) (blkOk_by (own := [("_law_name", 6)]) (by rfl)) (fun _ _ _ _ _ => (pg_N (i := 6) nd rfl (by first | exact .inl rfl | exact .inr rfl) ((nio 6).resolve_right (by decide)))) (fun _ _ _ _ _ => pts_no) (fun _ _ _ _ _ => (pe_var' (pv 6))) (tok_N 6) (by decide) (fun i hi => (by decide : ∀ i ∈ ([0, 1] : List Nat), i ∉ _) i (hio i hi)))
    (pss_cons' (ps_asg' (i := 4) nd rfl (by first | exact .inl rfl | exact .inr rfl) (pe_frz (pe_cD d__law_draw (hr.le (by decide)) rfl tk (pa_osCons (po_S (pv 0)) (pa_osCons (po_V (pe_frz (pe_bi (bi_len c) rfl T.b_len bf_len (pa_osCons (po_S (pv 2)) pa_osNil)))) pa_osNil)))) ((nio 4).resolve_right (by decide)))
    (pss_cons' (ps_asg' (i := 5) nd rfl (by first | exact .inl rfl | exact .inr rfl) (pe_frz (pe_lst' (pa_asCons (pe_bt (bi_tuple c) rfl T.b_tuple bt_tuple (pa_osCons (po_S (pv 2)) pa_osNil)) (pa_asCons (pe_bt (bi_tuple c) rfl T.b_tuple bt_tuple (pa_osCons (po_V (pe_bin (opr_add c) (po_V (pe_slc c (po_S (pv 2)) (po_pInt (pe_var' (pv 4))) po_pNo)) (po_V (pe_slc c (po_S (pv 2)) po_pNo (po_pInt (pe_var' (pv 4))))))) pa_osNil)) (pa_asCons (pe_bt (bi_tuple c) rfl T.b_tuple bt_tuple (pa_osCons (po_V (pe_rev c (po_S (pv 2)))) pa_osNil)) (pa_asCons (pe_bt (bi_tuple c) rfl T.b_tuple bt_tuple (pa_osCons (po_V (pe_slc c (po_S (pv 2)) po_pNo (po_pInt (pe_neg (po_V pe_ci))))) pa_osNil)) (pa_asCons (pe_bt (bi_tuple c) rfl T.b_tuple bt_tuple (pa_osCons (po_V (pe_bin (opr_mul c) (po_S (pv 2)) (po_V pe_ci))) pa_osNil)) (pa_asCons (pe_bt (bi_list c) rfl T.b_list bt_list (pa_osCons (po_S (pv 2)) pa_osNil)) pa_asNil)))))))) ((nio 5).resolve_right (by decide)))
    (pss_cons' (ps_asg' (i := 5) nd rfl (by first | exact .inl rfl | exact .inr rfl) (pe_frz (pe_bin (opr_add c) (po_S (pv 5)) (po_V (pe_lst' (pa_asCons (pe_bt (bi_tuple c) rfl T.b_tuple bt_tuple (pa_osCons (po_V (pe_bin (opr_add c) (po_V (pe_bin (opr_add c) (po_V (pe_slc c (po_S (pv 2)) po_pNo (po_pInt (pe_var' (pv 4))))) (po_V (pe_lst' (pa_asCons (pe_idx c (po_S (pv 3)) (po_V (pe_cD d__law_draw (hr.le (by decide)) rfl tk (pa_osCons (po_S (pv 0)) (pa_osCons (po_V (pe_frz (pe_bi (bi_len c) rfl T.b_len bf_len (pa_osCons (po_S (pv 3)) pa_osNil)))) pa_osNil))))) pa_asNil))))) (po_V (pe_slc c (po_S (pv 2)) (po_pInt (pe_bin (opr_add c) (po_S (pv 4)) (po_V pe_ci))) po_pNo)))) pa_osNil)) (pa_asCons (pe_bt (bi_tuple c) rfl T.b_tuple bt_tuple (pa_osCons (po_V (pe_bin (opr_add c) (po_S (pv 2)) (po_V (pe_slc c (po_S (pv 2)) po_pNo (po_pInt pe_ci))))) pa_osNil)) pa_asNil)))))) ((nio 5).resolve_right (by decide)))
    (pss_cons' (ps_asg' (i := 5) nd rfl (by first | exact .inl rfl | exact .inr rfl) (pe_frz (pe_bin (opr_add c) (po_S (pv 5)) (po_V (pe_lst' (pa_asCons (pe_tup' (pa_asCons (pe_idx c (po_S (pv 3)) (po_V pe_ci)) pa_asNil)) (pa_asCons (pe_tup' pa_asNil) (pa_asCons (pe_cst pe_non fun _ => rep_non.mpr rfl) (pa_asCons (pe_idx c (po_S (pv 3)) (po_V pe_ci)) (pa_asCons (pe_cst pe_bl fun _ => rep_bl.mpr rfl) (pa_asCons pe_ci (pa_asCons pe_dNewK (pa_asCons (pe_tup' (pa_asCons (pe_cst pe_non fun _ => rep_non.mpr rfl) pa_asNil)) (pa_asCons (pe_tup' (pa_asCons pe_ci (pa_asCons pe_ci pa_asNil))) (pa_asCons (pe_tup' (pa_asCons (pe_idx c (po_S (pv 2)) (po_V pe_ci)) (pa_asCons (pe_cst pe_non fun _ => rep_non.mpr rfl) pa_asNil))) (pa_asCons (pe_tup' (pa_asCons (pe_tup' (pa_asCons pe_cs pa_asNil)) pa_asNil)) (pa_asCons (pe_tup' (pa_asCons (pe_lst' pa_asNil) pa_asNil)) pa_asNil)))))))))))))))) ((nio 5).resolve_right (by decide)))
    (pss_one' (ps_ret' (pe_bin (opr_add c) (po_S (pv 5)) (po_V (pe_lst' (pa_asCons (pe_bt (bi_tuple c) rfl T.b_tuple bt_tuple (pa_osCons (po_V (pe_cD d__law_shuffled (hr.le (by decide)) rfl tk (pa_osCons (po_S (pv 0)) (pa_osCons (po_V (pe_var' (pv 3))) pa_osNil)))) pa_osNil)) (pa_asCons (pe_bt (bi_tuple c) rfl T.b_tuple bt_tuple (pa_osCons (po_V (pe_slc c (po_S (pv 3)) po_pNo (po_pInt pe_ci))) pa_osNil)) (pa_asCons (pe_tup' (pa_asCons pe_cs pa_asNil)) (pa_asCons (pe_var' (pv 1)) pa_asNil)))))))))))))))
theorem ok_is_ring (T : Txt K mg) : DefP P w K mg base ⟨K, CM⟩ 1 "is_ring" s_is_ring ["needs", "thing"] g_is_ring := by
  obtain ⟨f, fd, hm, F⟩ := T.f_is_ring
  refine def_mk (N := ["needs", "thing", "name", "other"]) (ios := [0, 1]) (k := 0) hm F sc_is_ring (fun cdv A0 outer s H E hr => ⟨fun A W hw hio tk => ?_⟩) (fun _ _ _ _ _ _ us hl => match us, hl with | [_, _], _ => rfl)
  have c := cal_of (CM := CM) (N := ["needs", "thing", "name", "other"]) (mg := mg) (P := P) (w := w) (K := K) (base := base) (E := E) (f := f) (cdv := cdv) (H := H) (s := s) (A := A0) (outer := outer) (qual := "is_ring") (scope := defScope s_is_ring) (k := 0) hr
  rw [← hw] at c
  have nd : (["needs", "thing", "name", "other"] : List Str).Nodup := sc_is_ring.nd
  have nio : ∀ i, i ∉ A.io ∨ i ∈ [0, 1] := fun i => by by_cases h : i ∈ A.io; exact .inr (hio i h); exact .inl h
  exact (pss_cons' (ps_if' (PW.pt (pw_or' (pt_not' (pt_tst (pe_bi (bi_isi c) rfl T.b_isinstance bf_isinstance (pa_osCons (po_S (pv 1)) (pa_osCons (po_V (pe_tyN rfl T.b_tuple bt_tuple)) pa_osNil))))) (pw_or1 (pt_cmpV (opr_eqX c) (po_V (pe_bi (bi_len c) rfl T.b_len bf_len (pa_osCons (po_S (pv 1)) pa_osNil))) (po_V pe_ci))))) (pss_one' (ps_ret' (pe_cst pe_bl fun _ => rep_bl.mpr rfl))) pss_nil')
    (pss_cons' (ps_if' (PW.pt (pw_or' (pt_not' (pt_tst (pe_bi (bi_all c) rfl T.b_all bf_all (pa_osCons (po_V (pe_lcM rfl nd (pi_V c.K (pe_var' (pv 1))) (blkOk_by (own := [("name", 2)]) (by rfl)) (fun _ _ _ _ _ => (pg_N (i := 2) nd rfl (by first | exact .inl rfl | exact .inr rfl) ((nio 2).resolve_right (by decide)))) (fun _ _ _ _ _ => pts_no) (fun _ _ _ _ _ => (pe_andV (pe_bi (bi_isi (Cal.blk c)) rfl T.b_isinstance bf_isinstance (pa_osCons (po_S (pv 2)) (pa_osCons (po_V (pe_tyN rfl T.b_str bt_str)) pa_osNil))) (pe_one (pe_cmpV (opr_inX (Cal.blk c)) (po_S (pv 2)) (po_S (pv 0)))))) (tok_N 2) (by decide) (fun i hi => (by decide : ∀ i ∈ ([0, 1] : List Nat), i ∉ _) i (hio i hi)))) pa_osNil)))) (pw_or1 (pt_cmpV opr_lt (po_V (pe_lenSet c rfl T.b_len rfl T.b_set (pe_var' (pv 1)))) (po_V (pe_bi (bi_len c) rfl T.b_len bf_len (pa_osCons (po_S (pv 1)) pa_osNil))))))) (pss_one' (ps_ret' (pe_cst pe_bl fun _ => rep_bl.mpr rfl))) pss_nil')
    (pss_one' (ps_ret' (pe_bi (bi_all c) rfl T.b_all bf_all (pa_osCons (po_V (pe_lcM rfl nd (pi_zip2 c.K rfl T.b_zip (pa_asCons (pe_var' (pv 1)) (pa_asCons (pe_tup' (pa_asStar c (pe_slc c (po_S (pv 1)) (po_pInt pe_ci) po_pNo) (pa_asCons (pe_idx c (po_S (pv 1)) (po_V pe_ci)) pa_asNil))) pa_asNil))) (blkOk_by (own := [("name", 2), ("other", 3)]) (by rfl)) (fun _ _ _ _ _ => (pg_T rfl (Cal.blk c).K (pgs_Cons (pg_N (i := 2) nd rfl (by first | exact .inl rfl | exact .inr rfl) ((nio 2).resolve_right (by decide))) (pgs_Cons (pg_N (i := 3) nd rfl (by first | exact .inl rfl | exact .inr rfl) ((nio 3).resolve_right (by decide))) pgs_Nil)) (tl_cons (tl_cons tl_nil)))) (fun _ _ _ _ _ => pts_no) (fun _ _ _ _ _ => (pe_cmpV (opr_inX (Cal.blk c)) (po_S (pv 3)) (po_V (pe_idx (Cal.blk c) (po_S (pv 0)) (po_S (pv 2)))))) (tok_T (tsok_cons (tok_N 2) (tsok_cons (tok_N 3) tsok_nil))) (by decide) (fun i hi => (by decide : ∀ i ∈ ([0, 1] : List Nat), i ∉ _) i (hio i hi)))) pa_osNil))))))
theorem ok__law_is_ring (T : Txt K mg) : DefP P w K mg base ⟨K, CM⟩ 1 "_law_is_ring" s__law_is_ring ["_law_needs", "_law_thing"] g__law_is_ring := by
  obtain ⟨f, fd, hm, F⟩ := T.f__law_is_ring
  refine def_mk (N := ["_law_needs", "_law_thing", "_law_k"]) (ios := [0, 1]) (k := 0) hm F sc__law_is_ring (fun cdv A0 outer s H E hr => ⟨fun A W hw hio tk => ?_⟩) (fun _ _ _ _ _ _ us hl => match us, hl with | [_, _], _ => rfl)
  have c := cal_of (CM := CM) (N := ["_law_needs", "_law_thing", "_law_k"]) (mg := mg) (P := P) (w := w) (K := K) (base := base) (E := E) (f := f) (cdv := cdv) (H := H) (s := s) (A := A0) (outer := outer) (qual := "_law_is_ring") (scope := defScope s__law_is_ring) (k := 0) hr
  rw [← hw] at c
  have nd : (["_law_needs", "_law_thing", "_law_k"] : List Str).Nodup := sc__law_is_ring.nd
  have nio : ∀ i, i ∉ A.io ∨ i ∈ [0, 1] := fun i => by by_cases h : i ∈ A.io; exact .inr (hio i h); exact .inl h
  exact (pss_cons' (ps_if' (PW.pt (pw_or' (pt_not' (pt_tst (pe_bi (bi_isi c) rfl T.b_isinstance bf_isinstance (pa_osCons (po_S (pv 1)) (pa_osCons (po_V (pe_tyN rfl T.b_tuple bt_tuple)) pa_osNil))))) (pw_or1 (pt_cmpV (opr_eqX c) (po_S (pv 1)) (po_V (pe_tup' pa_asNil)))))) (pss_one' (ps_ret' (pe_cst pe_bl fun _ => rep_bl.mpr rfl))) pss_nil')
    (pss_cons' (ps_for' (passes_of rfl) rfl (pi_rng1 rfl T.b_range (pa_asCons (pe_bi (bi_len c) rfl T.b_len bf_len (pa_osCons (po_S (pv 1)) pa_osNil)) pa_asNil)) (pg_N (i := 2) nd rfl (by first | exact .inl rfl | exact .inr rfl) ((nio 2).resolve_right (by decide))) (pss_one' (ps_if' (PW.pt (pw_or' (pt_not' (pt_tst (pe_bi (bi_isi c) rfl T.b_isinstance bf_isinstance (pa_osCons (po_V (pe_idx c (po_S (pv 1)) (po_S (pv 2)))) (pa_osCons (po_V (pe_tyN rfl T.b_str bt_str)) pa_osNil))))) (pw_or' (pt_cmpV (opr_notInX c) (po_V (pe_idx c (po_S (pv 1)) (po_S (pv 2)))) (po_S (pv 0))) (pw_or1 (pt_cmpV (opr_inX c) (po_V (pe_idx c (po_S (pv 1)) (po_S (pv 2)))) (po_V (pe_slc c (po_S (pv 1)) po_pNo (po_pInt (pe_var' (pv 2)))))))))) (pss_one' (ps_ret' (pe_cst pe_bl fun _ => rep_bl.mpr rfl))) pss_nil')))
    (pss_cons' (ps_for' (passes_of rfl) rfl (pi_rng1 rfl T.b_range (pa_asCons (pe_bi (bi_len c) rfl T.b_len bf_len (pa_osCons (po_S (pv 1)) pa_osNil)) pa_asNil)) (pg_N (i := 2) nd rfl (by first | exact .inl rfl | exact .inr rfl) ((nio 2).resolve_right (by decide))) (pss_one' (ps_if' (pt_cmpV (opr_notInX c) (po_V (pe_idx c (po_S (pv 1)) (po_V (pe_bin (opr_mod c) (po_V (pe_bin (opr_add c) (po_S (pv 2)) (po_V pe_ci))) (po_V (pe_bi (bi_len c) rfl T.b_len bf_len (pa_osCons (po_S (pv 1)) pa_osNil))))))) (po_V (pe_idx c (po_S (pv 0)) (po_V (pe_idx c (po_S (pv 1)) (po_S (pv 2))))))) (pss_one' (ps_ret' (pe_cst pe_bl fun _ => rep_bl.mpr rfl))) pss_nil')))
    (pss_one' (ps_ret' (pe_cst pe_bl fun _ => rep_bl.mpr rfl))))))
theorem ok_law (T : Txt K mg) : DefP P w K mg base ⟨K, CM⟩ 4 "law" s_law ["_law_script"] g_law := by
  obtain ⟨f, fd, hm, F⟩ := T.f_law
  have e__law_pen := ok__law_pen (P := P) (w := w) (base := base) (CM := CM) T
  have e__law_tangle := ok__law_tangle (P := P) (w := w) (base := base) (CM := CM) T
  have e__law_things := ok__law_things (P := P) (w := w) (base := base) (CM := CM) T
  have e_is_ring := ok_is_ring (P := P) (w := w) (base := base) (CM := CM) T
  have e__law_draw := ok__law_draw (P := P) (w := w) (base := base) (CM := CM) T
  have e__law_is_ring := ok__law_is_ring (P := P) (w := w) (base := base) (CM := CM) T
  refine def_mk (N := ["_law_script", "_law_pen_here", "_law_turn", "_law_needs", "_law_kept", "_law_thing"]) (ios := [0]) (k := 3) hm F sc_law (fun cdv A0 outer s H E hr => ⟨fun A W hw hio tk => ?_⟩) (fun _ _ _ _ _ _ us hl => match us, hl with | [_], _ => rfl)
  have c := cal_of (CM := CM) (N := ["_law_script", "_law_pen_here", "_law_turn", "_law_needs", "_law_kept", "_law_thing"]) (mg := mg) (P := P) (w := w) (K := K) (base := base) (E := E) (f := f) (cdv := cdv) (H := H) (s := s) (A := A0) (outer := outer) (qual := "law") (scope := defScope s_law) (k := 3) hr
  rw [← hw] at c
  have d__law_pen := e__law_pen; rw [← hw] at d__law_pen; clear e__law_pen
  have d__law_tangle := e__law_tangle; rw [← hw] at d__law_tangle; clear e__law_tangle
  have d__law_things := e__law_things; rw [← hw] at d__law_things; clear e__law_things
  have d_is_ring := e_is_ring; rw [← hw] at d_is_ring; clear e_is_ring
  have d__law_draw := e__law_draw; rw [← hw] at d__law_draw; clear e__law_draw
  have d__law_is_ring := e__law_is_ring; rw [← hw] at d__law_is_ring; clear e__law_is_ring
  have nd : (["_law_script", "_law_pen_here", "_law_turn", "_law_needs", "_law_kept", "_law_thing"] : List Str).Nodup := sc_law.nd
  have nio : ∀ i, i ∉ A.io ∨ i ∈ [0] := fun i => by by_cases h : i ∈ A.io; exact .inr (hio i h); exact .inl h
  exact (pss_cons' (ps_asg' (i := 1) nd rfl (by first | exact .inl rfl | exact .inr rfl) (pe_cD d__law_pen (hr.le (by decide)) rfl tk (pa_osCons (po_V (pe_var' (pv 0))) pa_osNil)) ((nio 1).resolve_right (by decide)))
    (pss_cons' (ps_for' (passes_of rfl) rfl (pi_rng1 rfl T.b_range (pa_asCons pe_ci pa_asNil)) (pg_N (i := 2) nd rfl (by first | exact .inl rfl | exact .inr rfl) ((nio 2).resolve_right (by decide))) (pss_cons' (ps_asg' (i := 3) nd rfl (by first | exact .inl rfl | exact .inr rfl) (pe_frz (pe_cD d__law_tangle (hr.le (by decide)) rfl tk (pa_osCons (po_S (pv 1)) (pa_osCons (po_V (pe_frz (pe_bin (opr_add c) (po_V pe_ci) (po_V (pe_cD d__law_draw (hr.le (by decide)) rfl tk (pa_osCons (po_S (pv 1)) (pa_osCons (po_V pe_ci) pa_osNil))))))) pa_osNil)))) ((nio 3).resolve_right (by decide)))
    (pss_cons' (ps_asg' (i := 4) nd rfl (by first | exact .inl rfl | exact .inr rfl) (pe_frz (pe_bi (bi_reprX c) rfl T.b_repr bf_repr (pa_osCons (po_S (pv 3)) pa_osNil))) ((nio 4).resolve_right (by decide)))
    (pss_cons' (ps_for' (passes_of rfl) rfl (pi_V c.K (pe_cD d__law_things (hr.le (by decide)) rfl tk (pa_osCons (po_S (pv 1)) (pa_osCons (po_V (pe_var' (pv 3))) pa_osNil)))) (pg_N (i := 5) nd rfl (by first | exact .inl rfl | exact .inr rfl) ((nio 5).resolve_right (by decide))) (pss_one' (ps_if' (pt_cmpV (opr_neX c) (po_V (pe_bi (bi_reprX c) rfl T.b_repr bf_repr (pa_osCons (po_V (pe_cD d_is_ring (hr.le (by decide)) rfl tk (pa_osCons (po_V (pe_var' (pv 3))) (pa_osCons (po_V (pe_var' (pv 5))) pa_osNil)))) pa_osNil))) (po_V (pe_bi (bi_reprX c) rfl T.b_repr bf_repr (pa_osCons (po_V (pe_cD d__law_is_ring (hr.le (by decide)) rfl tk (pa_osCons (po_V (pe_var' (pv 3))) (pa_osCons (po_V (pe_var' (pv 5))) pa_osNil)))) pa_osNil)))) (pss_one' (ps_ret' (pe_cst pe_bl fun _ => rep_bl.mpr rfl))) pss_nil')))
    (pss_one' (ps_if' (pt_cmpV (opr_neX c) (po_V (pe_bi (bi_reprX c) rfl T.b_repr bf_repr (pa_osCons (po_S (pv 3)) pa_osNil))) (po_S (pv 4))) (pss_one' (ps_ret' (pe_cst pe_bl fun _ => rep_bl.mpr rfl))) pss_nil'))))))
    (pss_one' (ps_ret' (pe_andV (pe_cmpV opr_is (po_V (pe_cD d_is_ring (hr.le (by decide)) rfl tk (pa_osCons (po_V (pe_frz (pe_dsp (pps_Cons pe_cs (pe_tup' (pa_asCons pe_cs pa_asNil)) (pps_Cons pe_cs (pe_tup' (pa_asCons pe_cs pa_asNil)) pps_Nil))))) (pa_osCons (po_V (pe_tup' (pa_asCons pe_cs (pa_asCons pe_cs pa_asNil)))) pa_osNil)))) (po_V (pe_cst pe_bl fun _ => rep_bl.mpr rfl))) (pe_one (pe_cmpV opr_is (po_V (pe_cD d_is_ring (hr.le (by decide)) rfl tk (pa_osCons (po_V (pe_frz pe_dNewK)) (pa_osCons (po_V (pe_tup' pa_asNil)) pa_osNil)))) (po_V (pe_cst pe_bl fun _ => rep_bl.mpr rfl)))))))))
end
theorem law_fn {K : PySem.W.Frag} {mg : Str → Option Value} (T : Txt K mg) {P : Program} {w : World} {base : Heap} {f : Addr} {fd : FuncData} (hm : mg "law" = some (.ref f)) (F : FunP K "law" s_law f fd) : FnG P w K mg base (L2.CX P w) 12 f fd ["_law_script"] (spF ⟨K, fun _ => none⟩ 1 g_law) := (ok_law T).at hm F (by decide)
/-! ### the head -/
def d__law_pen : He.DefD := ⟨("_law_pen", none), "_law_pen", "_law_pen", defArgs s__law_pen, defBody s__law_pen, defScope s__law_pen, [], []⟩
def d__law_draw : He.DefD := ⟨("_law_draw", none), "_law_draw", "_law_draw", defArgs s__law_draw, defBody s__law_draw, defScope s__law_draw, [], []⟩
def d__law_names : He.DefD := ⟨("_law_names", none), "_law_names", "_law_names", defArgs s__law_names, defBody s__law_names, defScope s__law_names, [], []⟩
def d__law_shuffled : He.DefD := ⟨("_law_shuffled", none), "_law_shuffled", "_law_shuffled", defArgs s__law_shuffled, defBody s__law_shuffled, defScope s__law_shuffled, [], []⟩
def d__law_tangle : He.DefD := ⟨("_law_tangle", none), "_law_tangle", "_law_tangle", defArgs s__law_tangle, defBody s__law_tangle, defScope s__law_tangle, [], []⟩
def d__law_walk : He.DefD := ⟨("_law_walk", none), "_law_walk", "_law_walk", defArgs s__law_walk, defBody s__law_walk, defScope s__law_walk, [], []⟩
def d__law_things : He.DefD := ⟨("_law_things", none), "_law_things", "_law_things", defArgs s__law_things, defBody s__law_things, defScope s__law_things, [], []⟩
def d_is_ring : He.DefD := ⟨("is_ring", none), "is_ring", "is_ring", defArgs s_is_ring, defBody s_is_ring, defScope s_is_ring, [], []⟩
def d__law_is_ring : He.DefD := ⟨("_law_is_ring", none), "_law_is_ring", "_law_is_ring", defArgs s__law_is_ring, defBody s__law_is_ring, defScope s__law_is_ring, [], []⟩
def d_law : He.DefD := ⟨("law", none), "law", "law", defArgs s_law, defBody s_law, defScope s_law, [], []⟩
def fn : List He.DefD := [d__law_pen, d__law_draw, d__law_names, d__law_shuffled, d__law_tangle, d__law_walk, d__law_things, d_is_ring, d__law_is_ring, d_law]
def fa : List He.Fa := [.glo "_law_pen", .glo "_law_draw", .glo "_law_names", .glo "_law_shuffled", .glo "_law_tangle", .glo "_law_walk", .glo "_law_things", .glo "is_ring", .glo "_law_is_ring", .glo "law", .free "abs", .free "all", .free "int", .free "isinstance", .free "len", .free "list", .free "range", .free "repr", .free "set", .free "str", .free "tuple", .free "zip"]
abbrev R : PySem.W.OpenRow := PySem.W.OpenLaw.row PySem.Challenge.rw_passwidth_k11_what_is_a_ring
abbrev hk : PySem.W.Hook := He.hookD 4 fa fn
def ob (s : PySem.W.SharedT) : He.AlD := He.obsDG 4 fa fn (HandSHeadRun.getT s)
theorem ob_eq (s : PySem.W.SharedT) : ob s = hk.obs s.abs := He.obsDG_eq (HandSHeadRun.getT_eq s)
def loose : List Str := ["is_ring", "_law_pen", "_law_draw", "_law_names", "_law_shuffled", "_law_tangle", "_law_has_ring", "_law_is_ring", "_law_walk", "_law_things"]
theorem run (w : World) : HandSHeadRun.RunEq R (PySem.W.view R.prog [12]) hk ob 3000 loose w := by
  intro os
  kernel_rfl
theorem txt {K : PySem.W.Frag} {h : Heap} {mg : Str → Option Value} (X : K.In h) (G : h.Ns mainGlobals mg) (c : He.SaysD fa fn K) : Txt K mg where
  f__law_pen := by
    obtain ⟨fd, F⟩ := c.def_ 0 (d := d__law_pen) rfl
    exact ⟨_, fd, He.glo_ok X G (c.fact 0 (f := .glo "_law_pen") rfl), F⟩
  f__law_draw := by
    obtain ⟨fd, F⟩ := c.def_ 1 (d := d__law_draw) rfl
    exact ⟨_, fd, He.glo_ok X G (c.fact 1 (f := .glo "_law_draw") rfl), F⟩
  f__law_names := by
    obtain ⟨fd, F⟩ := c.def_ 2 (d := d__law_names) rfl
    exact ⟨_, fd, He.glo_ok X G (c.fact 2 (f := .glo "_law_names") rfl), F⟩
  f__law_shuffled := by
    obtain ⟨fd, F⟩ := c.def_ 3 (d := d__law_shuffled) rfl
    exact ⟨_, fd, He.glo_ok X G (c.fact 3 (f := .glo "_law_shuffled") rfl), F⟩
  f__law_tangle := by
    obtain ⟨fd, F⟩ := c.def_ 4 (d := d__law_tangle) rfl
    exact ⟨_, fd, He.glo_ok X G (c.fact 4 (f := .glo "_law_tangle") rfl), F⟩
  f__law_walk := by
    obtain ⟨fd, F⟩ := c.def_ 5 (d := d__law_walk) rfl
    exact ⟨_, fd, He.glo_ok X G (c.fact 5 (f := .glo "_law_walk") rfl), F⟩
  f__law_things := by
    obtain ⟨fd, F⟩ := c.def_ 6 (d := d__law_things) rfl
    exact ⟨_, fd, He.glo_ok X G (c.fact 6 (f := .glo "_law_things") rfl), F⟩
  f_is_ring := by
    obtain ⟨fd, F⟩ := c.def_ 7 (d := d_is_ring) rfl
    exact ⟨_, fd, He.glo_ok X G (c.fact 7 (f := .glo "is_ring") rfl), F⟩
  f__law_is_ring := by
    obtain ⟨fd, F⟩ := c.def_ 8 (d := d__law_is_ring) rfl
    exact ⟨_, fd, He.glo_ok X G (c.fact 8 (f := .glo "_law_is_ring") rfl), F⟩
  f_law := by
    obtain ⟨fd, F⟩ := c.def_ 9 (d := d_law) rfl
    exact ⟨_, fd, He.glo_ok X G (c.fact 9 (f := .glo "law") rfl), F⟩
  b_abs := He.free_ok X G (c.fact 10 (f := .free "abs") rfl)
  b_all := He.free_ok X G (c.fact 11 (f := .free "all") rfl)
  b_int := He.free_ok X G (c.fact 12 (f := .free "int") rfl)
  b_isinstance := He.free_ok X G (c.fact 13 (f := .free "isinstance") rfl)
  b_len := He.free_ok X G (c.fact 14 (f := .free "len") rfl)
  b_list := He.free_ok X G (c.fact 15 (f := .free "list") rfl)
  b_range := He.free_ok X G (c.fact 16 (f := .free "range") rfl)
  b_repr := He.free_ok X G (c.fact 17 (f := .free "repr") rfl)
  b_set := He.free_ok X G (c.fact 18 (f := .free "set") rfl)
  b_str := He.free_ok X G (c.fact 19 (f := .free "str") rfl)
  b_tuple := He.free_ok X G (c.fact 20 (f := .free "tuple") rfl)
  b_zip := He.free_ok X G (c.fact 21 (f := .free "zip") rfl)
end K11
open PySem PySem.W PySem.Calls PyProof.Rows
theorem PySem.Challenge.cw_passwidth_k11_what_is_a_ring_holds : PySem.Challenge.rw_passwidth_k11_what_is_a_ring.Holds := by
  w_on; o_law
  refine HandSHeadRun.head_any (r := OpenLaw.row PySem.Challenge.rw_passwidth_k11_what_is_a_ring) (q := view (OpenLaw.row PySem.Challenge.rw_passwidth_k11_what_is_a_ring).prog [12]) (H := K11.hk) (ob := K11.ob) (M := 3000) (loose := K11.loose) (d := HandSHeadRun.topDef (OpenLaw.row PySem.Challenge.rw_passwidth_k11_what_is_a_ring).prog 12) (kwd := []) K11.ob_eq
    (by kernel_rfl) (fun s => by kernel_rfl) K11.run (by kernel_rfl) (by kernel_rfl) (by kernel_rfl) (by rfl) (by first | assumption | decide +kernel) (by decide +kernel) ⟨rfl, rfl, rfl, rfl, rfl, by decide +kernel⟩ ?hw ?hc
  case hw => w_witness2
  case hc =>
    refine M.walk_end (l := PySem.Challenge.rw_passwidth_k11_what_is_a_ring) (n := 63) (k := 12) (x := "_law_script") rfl (by decide) (by kernel_rfl) M.roomG_top ?F
    intro w mg fa h Y G hmg0
    obtain ⟨K, KX, c⟩ := Y
    have hmg : mg ("law" : PySem.Str) = some (.ref fa) := by
      have e : (HandSHeadRun.topDef (OpenLaw.row PySem.Challenge.rw_passwidth_k11_what_is_a_ring).prog 12).name = ("law" : PySem.Str) := by kernel_rfl
      rw [← e]
      exact hmg0
    have T := K11.txt KX G c
    obtain ⟨f, fd, hm, F⟩ := T.f_law
    have ef := hmg.symm.trans hm
    cases ef
    refine ⟨K, fun _ => none, fd, K11.g_law, KX, fun s v => L2.FunD.bindsA (ps := ["_law_script"]) F (fun _ _ _ _ _ _ us hl => match us, hl with | [_], _ => rfl) s [v] rfl, K11.holds, fun base _ _ => ?_⟩
    exact K11.law_fn T hm F
