import PyProof.Rows.All
import Wide.All
import OpenK.AllK
import Wide.FinOn
import HandS.ForMost
import HandS.Exc
import HandS.ExcOwn
import HandS.WordsExc
import HandS.IsInst
import HandS.Deep
import HandS.Style
import HandS.Text
import HandS.TupAny
import HandS.RaiseMore
import HandS.WordsDict
import HandS.TupLen
import HandS.More
import HandS.Ends
import HandS.Comp
import HandS.Defaults
import HandS.HeadHook1
import HandS.HeadHook2
import HandS.Head0
import HandS.Head1
import HandS.Head2
import PySem.Challenge.RW_passwidth_k01_names_recognized
set_option Elab.async false
set_option linter.all false
set_option autoImplicit false
set_option maxRecDepth 100000
set_option maxHeartbeats 4000000
/-! MP1: values without addresses, what stands for them in the abstract heap, the relation between slots. -/
namespace M
open PySem L2

inductive Val where
  | non | bl (b : Bool) | int (i : Int) | str (s : Str)
  | tup (xs : List Val) | lst (xs : List Val) | dct (t : Bool) (kvs : List (Val × Val))
  | obj (c : Str) (fs : List (Str × Val))
  | ty (n : String) | cls (c : Str)
  /-- the law's script -/
  | scr (ns : List Int)

/-- the world: the written part, the own classes -/
structure Wd where
  K : PySem.W.Frag
  CM : Str → Option Addr

def kv : Key → Val
  | .inl i => .int i
  | .inr s => .str s

def kb : Key → Prop
  | .inl _ => True
  | .inr s => s.length ≤ sizeLine

mutual
/-- a frozen value: x stands for v in the heap G, which never changes -/
def Rep (A : Wd) (G : Hp) : Val → V → Prop
  | .non, x => x = .non
  | .bl b, x => x = .bl b
  | .int i, x => x = .int i
  | .str s, x => x = .str s ∧ s.length ≤ sizeLine
  | .tup ds, x => ∃ a xs, x = .ref a ∧ SqT A.K G a xs ∧ Reps A G ds xs
  | .lst ds, x => ∃ a xs, x = .ref a ∧ G a = some (.lst xs) ∧ Reps A G ds xs
  | .dct t ds, x => ∃ a, x = .ref a ∧ ((t = false ∧ ∃ kvs o, G a = some (.frz o (.dK kvs)) ∧ RepK A G ds kvs) ∨ (t = true ∧ ∃ kvs o, G a = some (.frz o (.dT kvs)) ∧ RepT A G ds kvs))
  | .obj c fs, x => ∃ a C dx xs, x = .ref a ∧ G a = some (.ins C dx xs) ∧ A.CM c = some C ∧ RepF A G fs xs
  | .ty n, x => x = .ty n
  | .cls c, x => ∃ C, A.CM c = some C ∧ x = .ref C
  | .scr ns, x => ∃ a, x = .ref a ∧ SqL A.K G a (ns.map V.int)
def Reps (A : Wd) (G : Hp) : List Val → List V → Prop
  | [], xs => xs = []
  | d :: ds, xs => ∃ y ys, xs = y :: ys ∧ Rep A G d y ∧ Reps A G ds ys
def RepK (A : Wd) (G : Hp) : List (Val × Val) → List (Key × V) → Prop
  | [], xs => xs = []
  | (k, d) :: ds, xs => ∃ q y ys, xs = (q, y) :: ys ∧ (k = kv q ∧ kb q) ∧ Rep A G d y ∧ RepK A G ds ys
def RepT (A : Wd) (G : Hp) : List (Val × Val) → List (List Key × V) → Prop
  | [], xs => xs = []
  | (k, d) :: ds, xs => ∃ q y ys, xs = (q, y) :: ys ∧ (k = .tup (q.map kv) ∧ ∀ x ∈ q, kb x) ∧ Rep A G d y ∧ RepT A G ds ys
def RepF (A : Wd) (G : Hp) : List (Str × Val) → List (Str × V) → Prop
  | [], xs => xs = []
  | (k, d) :: ds, xs => ∃ y ys, xs = (k, y) :: ys ∧ Rep A G d y ∧ RepF A G ds ys
end

/-- G' knows at least what G knows -/
def Le (G G' : Hp) : Prop := ∀ a o, G a = some o → G' a = some o
theorem Le.refl (G : Hp) : Le G G := fun _ _ h => h
theorem Le.trans {G G1 G2 : Hp} (a : Le G G1) (b : Le G1 G2) : Le G G2 := fun x o h => b x o (a x o h)
theorem Le.back {G G' : Hp} (h : Le G G') {a : Addr} (e : G' a = none) : G a = none := by
  cases q : G a with
  | none => rfl
  | some o => rw [h a o q] at e; cases e
theorem Le.new {G : Hp} {p : Addr} {o : HO} (h : G p = none) : Le G (upd G p o) := fun a u e => by
  rw [upd_ne (ne_of_none e h)]; exact e
theorem Le.upd2 {G H : Hp} {p : Addr} {o : HO} (h : Le G H) : Le (upd G p o) (upd H p o) := fun a u e => by
  by_cases q : a = p
  · subst q; rw [upd_same] at e ⊢; exact e
  · rw [upd_ne q] at e ⊢; exact h a u e
theorem Le.updR {G H : Hp} {p : Addr} {o : HO} (h : Le G H) (n : G p = none) : Le G (upd H p o) := fun a u e => by
  rw [upd_ne (ne_of_none e n)]; exact h a u e
theorem rd_mono {G G' : Hp} (h : Le G G') {a : Addr} {u : HO} (r : Rd G a u) : Rd G' a u := by
  rcases r with r | ⟨o, r⟩
  · exact .inl (h _ _ r)
  · exact .inr ⟨o, h _ _ r⟩
theorem sql_mono {K : PySem.W.Frag} {G G' : Hp} (h : Le G G') {a : Addr} {xs : List V} (r : SqL K G a xs) : SqL K G' a xs := r.elim (fun r => .inl (rd_mono h r)) .inr
theorem sqt_mono {K : PySem.W.Frag} {G G' : Hp} (h : Le G G') {a : Addr} {xs : List V} (r : SqT K G a xs) : SqT K G' a xs := r.elim (fun r => .inl (rd_mono h r)) .inr

section
variable {A : Wd} {G G' H H' : Hp}
mutual
theorem Rep.mono (h : Le G G') : ∀ {v : Val} {x : V}, Rep A G v x → Rep A G' v x
  | .non, _, r => by rw [Rep] at r ⊢; exact r
  | .bl _, _, r => by rw [Rep] at r ⊢; exact r
  | .int _, _, r => by rw [Rep] at r ⊢; exact r
  | .str _, _, r => by rw [Rep] at r ⊢; exact r
  | .tup ds, _, r => by
    rw [Rep] at r ⊢; obtain ⟨a, xs, e, q, r⟩ := r
    exact ⟨a, xs, e, sqt_mono h q, Reps.mono h r⟩
  | .lst ds, _, r => by
    rw [Rep] at r ⊢; obtain ⟨a, xs, e, q, r⟩ := r
    exact ⟨a, xs, e, h _ _ q, Reps.mono h r⟩
  | .dct t ds, _, r => by
    rw [Rep] at r ⊢; obtain ⟨a, e, ⟨ht, kvs, o, q, r⟩ | ⟨ht, kvs, o, q, r⟩⟩ := r
    · exact ⟨a, e, .inl ⟨ht, kvs, o, h _ _ q, RepK.mono h r⟩⟩
    · exact ⟨a, e, .inr ⟨ht, kvs, o, h _ _ q, RepT.mono h r⟩⟩
  | .obj c fs, _, r => by
    rw [Rep] at r ⊢; obtain ⟨a, C, dx, xs, e, q, m, r⟩ := r
    exact ⟨a, C, dx, xs, e, h _ _ q, m, RepF.mono h r⟩
  | .ty _, _, r => by rw [Rep] at r ⊢; exact r
  | .cls _, _, r => by rw [Rep] at r ⊢; exact r
  | .scr _, _, r => by
    rw [Rep] at r ⊢; obtain ⟨a, e, q⟩ := r
    exact ⟨a, e, sql_mono h q⟩
theorem Reps.mono (h : Le G G') : ∀ {ds : List Val} {xs : List V}, Reps A G ds xs → Reps A G' ds xs
  | [], _, r => by rw [Reps] at r ⊢; exact r
  | d :: ds, _, r => by
    rw [Reps] at r ⊢; obtain ⟨y, ys, e, r1, r2⟩ := r
    exact ⟨y, ys, e, Rep.mono h r1, Reps.mono h r2⟩
theorem RepK.mono (h : Le G G') : ∀ {ds : List (Val × Val)} {xs : List (Key × V)}, RepK A G ds xs → RepK A G' ds xs
  | [], _, r => by rw [RepK] at r ⊢; exact r
  | (k, d) :: ds, _, r => by
    rw [RepK] at r ⊢; obtain ⟨q, y, ys, e, e2, r1, r2⟩ := r
    exact ⟨q, y, ys, e, e2, Rep.mono h r1, RepK.mono h r2⟩
theorem RepT.mono (h : Le G G') : ∀ {ds : List (Val × Val)} {xs : List (List Key × V)}, RepT A G ds xs → RepT A G' ds xs
  | [], _, r => by rw [RepT] at r ⊢; exact r
  | (k, d) :: ds, _, r => by
    rw [RepT] at r ⊢; obtain ⟨q, y, ys, e, e2, r1, r2⟩ := r
    exact ⟨q, y, ys, e, e2, Rep.mono h r1, RepT.mono h r2⟩
theorem RepF.mono (h : Le G G') : ∀ {ds : List (Str × Val)} {xs : List (Str × V)}, RepF A G ds xs → RepF A G' ds xs
  | [], _, r => by rw [RepF] at r ⊢; exact r
  | (k, d) :: ds, _, r => by
    rw [RepF] at r ⊢; obtain ⟨y, ys, e, r1, r2⟩ := r
    exact ⟨y, ys, e, Rep.mono h r1, RepF.mono h r2⟩
end

theorem reps_nil {xs : List V} : Reps A G [] xs ↔ xs = [] := by rw [Reps]
theorem reps_cons {d : Val} {ds : List Val} {xs : List V} : Reps A G (d :: ds) xs ↔ ∃ y ys, xs = y :: ys ∧ Rep A G d y ∧ Reps A G ds ys := by rw [Reps]
theorem reps_one {d : Val} {x : V} (r : Rep A G d x) : Reps A G [d] [x] := reps_cons.mpr ⟨_, _, rfl, r, reps_nil.mpr rfl⟩
theorem reps_length : ∀ {ds : List Val} {xs : List V}, Reps A G ds xs → ds.length = xs.length
  | [], _, r => by rw [reps_nil] at r; subst r; rfl
  | d :: ds, _, r => by
    rw [reps_cons] at r; obtain ⟨y, ys, e, r1, r2⟩ := r
    subst e; simp [reps_length r2]
theorem reps_get : ∀ {ds : List Val} {xs : List V} {i : Nat} {d : Val}, Reps A G ds xs → ds[i]? = some d → ∃ x, xs[i]? = some x ∧ Rep A G d x
  | [], _, _, _, r, e => by simp at e
  | d :: ds, _, 0, _, r, e => by
    rw [reps_cons] at r; obtain ⟨y, ys, e1, r1, r2⟩ := r
    subst e1; simp at e; subst e; exact ⟨y, rfl, r1⟩
  | d :: ds, _, i + 1, _, r, e => by
    rw [reps_cons] at r; obtain ⟨y, ys, e1, r1, r2⟩ := r
    subst e1; simp at e; obtain ⟨x, h1, h2⟩ := reps_get r2 e
    exact ⟨x, by simpa using h1, h2⟩
theorem reps_get' : ∀ {ds : List Val} {xs : List V} {i : Nat} {x : V}, Reps A G ds xs → xs[i]? = some x → ∃ d, ds[i]? = some d ∧ Rep A G d x
  | [], _, _, _, r, e => by rw [reps_nil] at r; subst r; simp at e
  | d :: ds, _, 0, _, r, e => by
    rw [reps_cons] at r; obtain ⟨y, ys, e1, r1, r2⟩ := r
    subst e1; simp at e; subst e; exact ⟨d, rfl, r1⟩
  | d :: ds, _, i + 1, _, r, e => by
    rw [reps_cons] at r; obtain ⟨y, ys, e1, r1, r2⟩ := r
    subst e1; simp at e; obtain ⟨x, h1, h2⟩ := reps_get' r2 e
    exact ⟨x, by simpa using h1, h2⟩
theorem reps_append : ∀ {ds es : List Val} {xs ys : List V}, Reps A G ds xs → Reps A G es ys → Reps A G (ds ++ es) (xs ++ ys)
  | [], _, _, _, r, q => by rw [reps_nil] at r; subst r; simpa using q
  | d :: ds, es, _, ys, r, q => by
    rw [reps_cons] at r; obtain ⟨y, zs, e1, r1, r2⟩ := r
    subst e1; exact reps_cons.mpr ⟨_, _, rfl, r1, reps_append r2 q⟩
theorem reps_take : ∀ {ds : List Val} {xs : List V} (n : Nat), Reps A G ds xs → Reps A G (ds.take n) (xs.take n)
  | _, _, 0, _ => by simpa using reps_nil.mpr rfl
  | [], _, n + 1, r => by rw [reps_nil] at r; subst r; simpa using reps_nil.mpr rfl
  | d :: ds, _, n + 1, r => by
    rw [reps_cons] at r; obtain ⟨y, ys, e1, r1, r2⟩ := r
    subst e1; exact reps_cons.mpr ⟨_, _, rfl, r1, reps_take n r2⟩
theorem reps_drop : ∀ {ds : List Val} {xs : List V} (n : Nat), Reps A G ds xs → Reps A G (ds.drop n) (xs.drop n)
  | _, _, 0, r => by simpa using r
  | [], _, n + 1, r => by rw [reps_nil] at r; subst r; simpa using reps_nil.mpr rfl
  | d :: ds, _, n + 1, r => by
    rw [reps_cons] at r; obtain ⟨y, ys, e1, r1, r2⟩ := r
    subst e1; exact reps_drop n r2
theorem reps_set {d : Val} {x : V} (q : Rep A G d x) : ∀ {ds : List Val} {xs : List V} (i : Nat), Reps A G ds xs → Reps A G (ds.set i d) (xs.set i x)
  | [], _, _, r => by rw [reps_nil] at r; subst r; simpa using reps_nil.mpr rfl
  | e :: ds, _, 0, r => by
    rw [reps_cons] at r; obtain ⟨y, ys, e1, r1, r2⟩ := r
    subst e1; exact reps_cons.mpr ⟨_, _, rfl, q, r2⟩
  | e :: ds, _, i + 1, r => by
    rw [reps_cons] at r; obtain ⟨y, ys, e1, r1, r2⟩ := r
    subst e1; exact reps_cons.mpr ⟨_, _, rfl, r1, reps_set q i r2⟩
theorem reps_erase : ∀ {ds : List Val} {xs : List V} (i : Nat), Reps A G ds xs → Reps A G (ds.eraseIdx i) (xs.eraseIdx i)
  | [], _, _, r => by rw [reps_nil] at r; subst r; simpa using reps_nil.mpr rfl
  | e :: ds, _, 0, r => by
    rw [reps_cons] at r; obtain ⟨y, ys, e1, r1, r2⟩ := r
    subst e1; simpa using r2
  | e :: ds, _, i + 1, r => by
    rw [reps_cons] at r; obtain ⟨y, ys, e1, r1, r2⟩ := r
    subst e1; exact reps_cons.mpr ⟨_, _, rfl, r1, reps_erase i r2⟩
theorem reps_reverse : ∀ {ds : List Val} {xs : List V}, Reps A G ds xs → Reps A G ds.reverse xs.reverse
  | [], _, r => by rw [reps_nil] at r; subst r; simpa using reps_nil.mpr rfl
  | e :: ds, _, r => by
    rw [reps_cons] at r; obtain ⟨y, ys, e1, r1, r2⟩ := r
    subst e1; rw [List.reverse_cons, List.reverse_cons]; exact reps_append (reps_reverse r2) (reps_one r1)
theorem reps_strs : ∀ {ss : List Str} {xs : List V}, Reps A G (ss.map Val.str) xs → xs = ss.map V.str
  | [], _, r => by rw [List.map_nil, reps_nil] at r; subst r; rfl
  | s :: ss, _, r => by
    rw [List.map_cons, reps_cons] at r; obtain ⟨y, ys, e, r1, r2⟩ := r
    rw [Rep] at r1; subst e; rw [r1.1, reps_strs r2]; rfl
theorem reps_ints : ∀ {ns : List Int} {xs : List V}, Reps A G (ns.map Val.int) xs → xs = ns.map V.int
  | [], _, r => by rw [List.map_nil, reps_nil] at r; subst r; rfl
  | s :: ss, _, r => by
    rw [List.map_cons, reps_cons] at r; obtain ⟨y, ys, e, r1, r2⟩ := r
    rw [Rep] at r1; subst e; rw [r1, reps_ints r2]; rfl
theorem reps_of_ints : ∀ {ns : List Int}, Reps A G (ns.map Val.int) (ns.map V.int)
  | [] => reps_nil.mpr rfl
  | n :: ns => reps_cons.mpr ⟨_, _, rfl, by rw [Rep], reps_of_ints⟩
theorem reps_bls : ∀ {ns : List Bool} {xs : List V}, Reps A G (ns.map Val.bl) xs → xs = ns.map V.bl
  | [], _, r => by rw [List.map_nil, reps_nil] at r; subst r; rfl
  | s :: ss, _, r => by
    rw [List.map_cons, reps_cons] at r; obtain ⟨y, ys, e, r1, r2⟩ := r
    rw [Rep] at r1; subst e; rw [r1, reps_bls r2]; rfl
theorem rep_non {x : V} : Rep A G .non x ↔ x = .non := by rw [Rep]
theorem rep_bl {b : Bool} {x : V} : Rep A G (.bl b) x ↔ x = .bl b := by rw [Rep]
theorem rep_int {i : Int} {x : V} : Rep A G (.int i) x ↔ x = .int i := by rw [Rep]
theorem rep_str {s : Str} {x : V} : Rep A G (.str s) x ↔ x = .str s ∧ s.length ≤ sizeLine := by rw [Rep]
theorem rep_ty {s : String} {x : V} : Rep A G (.ty s) x ↔ x = .ty s := by rw [Rep]
theorem rep_tup {ds : List Val} {x : V} : Rep A G (.tup ds) x ↔ ∃ a xs, x = .ref a ∧ SqT A.K G a xs ∧ Reps A G ds xs := by rw [Rep]
theorem rep_lst {ds : List Val} {x : V} : Rep A G (.lst ds) x ↔ ∃ a xs, x = .ref a ∧ G a = some (.lst xs) ∧ Reps A G ds xs := by rw [Rep]
end

/-- a container that may be changed in place: it stands at a in H, what is in it is frozen -/
def Root (A : Wd) (G H : Hp) (v : Val) (a : Addr) : Prop := match v with
  | .lst ds => ∃ xs, H a = some (.lst xs) ∧ Reps A G ds xs
  | .dct t ds => (t = false ∧ ∃ kvs, H a = some (.dK kvs) ∧ RepK A G ds kvs) ∨ (t = true ∧ ∃ kvs, H a = some (.dT kvs) ∧ RepT A G ds kvs)
  | .obj c fs => ∃ C dx xs, H a = some (.ins C dx xs) ∧ A.CM c = some C ∧ RepF A G fs xs
  | _ => False
theorem Root.has {A : Wd} {G H : Hp} {v : Val} {a : Addr} (r : Root A G H v a) : ∃ o, H a = some o ∧ Mut (some o) := by
  cases v with
  | lst ds => obtain ⟨xs, e, _⟩ := r; exact ⟨_, e, True.intro⟩
  | dct t ds => obtain ⟨_, xs, e, _⟩ | ⟨_, xs, e, _⟩ := r <;> exact ⟨_, e, True.intro⟩
  | obj c fs => obtain ⟨C, dx, xs, e, _⟩ := r; exact ⟨_, e, True.intro⟩
  | _ => exact r.elim
theorem Root.mono {A : Wd} {G H G' H' : Hp} {v : Val} {a : Addr} (r : Root A G H v a) (h : Le G G') (e : ∀ o, H a = some o → H' a = some o) : Root A G' H' v a := by
  cases v with
  | lst ds => obtain ⟨xs, q, r⟩ := r; exact ⟨xs, e _ q, r.mono h⟩
  | dct t ds =>
    obtain ⟨ht, xs, q, r⟩ | ⟨ht, xs, q, r⟩ := r
    · exact .inl ⟨ht, xs, e _ q, r.mono h⟩
    · exact .inr ⟨ht, xs, e _ q, r.mono h⟩
  | obj c fs => obtain ⟨C, dx, xs, q, m, r⟩ := r; exact ⟨C, dx, xs, e _ q, m, r.mono h⟩
  | _ => exact r.elim

/-- slots: none unknown; some (own, v) -/
abbrev Slot := Option (Bool × Val)
abbrev Env := List Slot

/-- what is fixed through a def's run: the entry's frozen heap, the entry's heap, the containers that were lent to it, the parameters that stay -/
structure Act where
  w : Wd
  G0 : Hp
  H0 : Hp
  L : Addr → Prop
  io : List Nat
  x0 : Nat → Option V

/-- the roots that slots own -/
def Rt (r : Env) (σ : L2.St) (a : Addr) : Prop := ∃ (i : Nat) (v : Val), r[i]? = some (some (true, v)) ∧ σ[i]? = some (some (.ref a))

structure Ok (A : Act) (G H : Hp) (σ : L2.St) (r : Env) : Prop where
  ex0 : Le A.G0 G
  gr0 : ∀ a, G a ≠ none → A.G0 a ≠ none ∨ A.H0 a = none ∨ A.L a
  fr0 : ∀ a o, A.H0 a = some o → ¬ A.L a → H a = some o
  sub : Le G H
  len : σ.length = r.length
  fz : ∀ (i : Nat) (v : Val), r[i]? = some (some (false, v)) → ∃ x, σ[i]? = some (some x) ∧ Rep A.w G v x
  ow : ∀ (i : Nat) (v : Val), r[i]? = some (some (true, v)) → ∃ a, σ[i]? = some (some (.ref a)) ∧ Root A.w G H v a ∧ G a = none ∧ (A.L a ∨ A.H0 a = none)
  sep : ∀ (i j : Nat) (v w : Val) (a : Addr), r[i]? = some (some (true, v)) → r[j]? = some (some (true, w)) → σ[i]? = some (some (.ref a)) → σ[j]? = some (some (.ref a)) → i = j
  fx : ∀ i ∈ A.io, σ[i]? = some (A.x0 i)

/-- what an expression does to the state -/
structure Step (σ : L2.St) (r : Env) (G H : Hp) (r' : Env) (G' H' : Hp) : Prop where
  ex : Le G G'
  keep : ∀ a o, H a = some o → ¬ Rt r σ a → H' a = some o
  grow : ∀ a, G a = none → G' a ≠ none → H a = none ∨ Rt r σ a
  rts : ∀ a, Rt r' σ a → Rt r σ a
theorem Step.refl {σ : L2.St} {r : Env} {G H : Hp} : Step σ r G H r G H := ⟨Le.refl _, fun _ _ h _ => h, fun _ h h' => absurd h h', fun _ h => h⟩
theorem Step.trans {σ : L2.St} {r r1 r2 : Env} {G H G1 H1 G2 H2 : Hp} (a : Step σ r G H r1 G1 H1) (b : Step σ r1 G1 H1 r2 G2 H2) : Step σ r G H r2 G2 H2 where
  ex := a.ex.trans b.ex
  keep := fun x o h n => b.keep x o (a.keep x o h n) fun z => n (a.rts x z)
  grow := fun x h h' => by
    by_cases q : G1 x = none
    · rcases b.grow x q h' with z | z
      · by_cases n : Rt r σ x
        · exact .inr n
        · refine .inl ?_
          cases e : H x with
          | none => rfl
          | some o => rw [a.keep x o e n] at z; cases z
      · exact .inr (a.rts x z)
    · exact a.grow x h q
  rts := fun x h => a.rts x (b.rts x h)

section
variable {A : Act} {G H G' H' : Hp} {σ : L2.St} {r r' : Env}
theorem Ok.rt {a : Addr} (k : Ok A G H σ r) (h : Rt r σ a) : (∃ o, H a = some o) ∧ G a = none ∧ (A.L a ∨ A.H0 a = none) := by
  obtain ⟨i, v, h1, h2⟩ := h
  obtain ⟨b, e, ro, n, l⟩ := k.ow i v h1
  rw [h2] at e; cases e
  obtain ⟨o, e, _⟩ := ro.has
  exact ⟨⟨o, e⟩, n, l⟩
theorem Ok.notRt {a : Addr} (k : Ok A G H σ r) (h : H a = none) : ¬ Rt r σ a := fun z => by
  obtain ⟨⟨o, e⟩, _⟩ := k.rt z
  rw [e] at h; cases h
theorem Ok.fresh {a : Addr} (k : Ok A G H σ r) (h : H a = none) : A.L a ∨ A.H0 a = none := by
  by_cases l : A.L a
  · exact .inl l
  · refine .inr ?_
    cases e : A.H0 a with
    | none => rfl
    | some o => rw [k.fr0 a o e l] at h; cases h
/-- an expression's state may grow: new objects alone -/
structure Grow (G H G' H' : Hp) : Prop where
  g : Le G G'
  h : Le H H'
  s : Le G' H'
  n : ∀ a, G a = none → G' a ≠ none → H a = none
theorem Grow.refl (s : Le G H) : Grow G H G H := ⟨Le.refl _, Le.refl _, s, fun _ h h' => absurd h h'⟩
theorem Grow.trans {G1 H1 G2 H2 : Hp} (a : Grow G H G1 H1) (b : Grow G1 H1 G2 H2) : Grow G H G2 H2 :=
  ⟨a.g.trans b.g, a.h.trans b.h, b.s, fun x h h' => by
    by_cases q : G1 x = none
    · exact a.h.back (b.n x q h')
    · exact a.n x h q⟩
theorem Grow.step (g : Grow G H G' H') : Step σ r G H r G' H' := ⟨g.g, fun a o h _ => g.h a o h, fun a h h' => .inl (g.n a h h'), fun _ h => h⟩
theorem Ok.grow (k : Ok A G H σ r) (g : Grow G H G' H') : Ok A G' H' σ r where
  ex0 := k.ex0.trans g.g
  gr0 := fun a h => by
    by_cases q : G a = none
    · rcases k.fresh (g.n a q h) with z | z
      · exact .inr (.inr z)
      · exact .inr (.inl z)
    · exact k.gr0 a q
  fr0 := fun a o h n => g.h _ _ (k.fr0 a o h n)
  sub := g.s
  len := k.len
  fz := fun i v h => let ⟨x, e, q⟩ := k.fz i v h; ⟨x, e, q.mono g.g⟩
  ow := fun i v h => by
    obtain ⟨a, e, q, n, l⟩ := k.ow i v h
    refine ⟨a, e, q.mono g.g (g.h a), ?_, l⟩
    cases z : G' a with
    | none => rfl
    | some o =>
      obtain ⟨o', e', _⟩ := q.has
      have := g.n a n (by rw [z]; simp)
      rw [e'] at this; cases this
  sep := k.sep
  fx := k.fx
/-- a new object, frozen at once -/
theorem Grow.laidG {p : Addr} {o : HO} (s : Le G H) (n : H p = none) : Grow G H (upd G p o) (upd H p o) :=
  ⟨Le.new (s.back n), Le.new n, s.upd2, fun a h h' => by
    by_cases q : a = p
    · subst q; exact n
    · rw [upd_ne q] at h'; exact absurd h h'⟩
/-- a new object, owned -/
theorem Grow.laidH {p : Addr} {o : HO} (s : Le G H) (n : H p = none) : Grow G H G (upd H p o) :=
  ⟨Le.refl _, Le.new n, s.updR (s.back n), fun a h h' => absurd h h'⟩
end

/-- the value of an expression: own, it is a container that nobody else holds -/
def TRep (A : Act) (G H : Hp) (σ : L2.St) (r : Env) (o : Bool) (v : Val) (x : V) : Prop := match o with
  | true => ∃ a, x = .ref a ∧ Root A.w G H v a ∧ G a = none ∧ ¬ Rt r σ a ∧ (A.L a ∨ A.H0 a = none)
  | false => Rep A.w G v x
/-- a value that can be read -/
def RRep (A : Wd) (G H : Hp) (v : Val) (x : V) : Prop := Rep A G v x ∨ ∃ a, x = .ref a ∧ Root A G H v a
/-- a new value -/
def NRep (A : Wd) (G H G' H' : Hp) (o : Bool) (v : Val) (x : V) : Prop := match o with
  | true => ∃ a, x = .ref a ∧ Root A G' H' v a ∧ G' a = none ∧ H a = none
  | false => Rep A G' v x

section
variable {A : Act} {G H G' H' : Hp} {σ : L2.St} {r r' : Env} {o : Bool} {v : Val} {x : V}
theorem TRep.step (t : TRep A G H σ r o v x) (st : Step σ r G H r' G' H') : TRep A G' H' σ r' o v x := by
  cases o with
  | true =>
    obtain ⟨a, e, ro, n, nr, l⟩ := t
    obtain ⟨u, hu, _⟩ := ro.has
    refine ⟨a, e, ro.mono st.ex fun o h => st.keep a o h nr, ?_, fun z => nr (st.rts a z), l⟩
    cases q : G' a with
    | none => rfl
    | some w =>
      rcases st.grow a n (by rw [q]; simp) with z | z
      · rw [hu] at z; cases z
      · exact absurd z nr
  | false => exact Rep.mono st.ex t
theorem TRep.rrep (t : TRep A G H σ r o v x) : RRep A.w G H v x := by
  cases o with
  | true => obtain ⟨a, e, ro, _⟩ := t; exact .inr ⟨a, e, ro⟩
  | false => exact .inl t
theorem NRep.trep (k : Ok A G H σ r) (t : NRep A.w G H G' H' o v x) : TRep A G' H' σ r o v x := by
  cases o with
  | true =>
    obtain ⟨a, e, ro, n, n2⟩ := t
    exact ⟨a, e, ro, n, k.notRt n2, k.fresh n2⟩
  | false => exact t
end
end M
/-! MP2: results, operands, primitive operations, calls, tests; the rules over HandS's judgements. -/
namespace M
open PySem L2
/-! ### how a call is written down: what a rule may ask of it (each holds by rfl where the call is at hand) -/
/-- e bears no star -/
abbrev NoStar (X : Cx) (e : Expr) (es : List Expr) : Prop := starEach (e :: es) X.env = (false, eval e X.env) :: starEach es X.env
/-- nor do these -/
abbrev NoStars (X : Cx) (es : List Expr) (at_ : Pos) : Prop := (backTo at_ (starEach es X.env)).any (·.1) = false
/-- o.name asks o as it stands -/
abbrev AsItIs (X : Cx) (o : Expr) (name : Str) : Prop := attributeBase o name X.env (eval o X.env) = eval o X.env
/-- few values, none with a star or a name -/
abbrev FewPlain (X : Cx) (es : List Expr) (at_ : Pos) : Prop :=
  (((backTo at_ (starEach es X.env)).all (!·.1) && (backToKw at_ (keywordEach [] X.env)).all (·.1.isSome)) && decide (es.length + 0 + 0 < 30)) = true
/-- o.m(..) is read as a method's call -/
abbrev MCall (X : Cx) (o : Expr) (m : Str) (es : List Expr) (dot at_ : Pos) (pl : Sem Bool) : Prop :=
  eval (.Call (.Attribute o m dot) es [] at_) X.env = eval o X.env >>= fun v => standAt dot.atName >>= fun _ => holding [v] (getMethod v m pl) >>= fun q => callWith at_ q.1 q.2 (backTo at_ (starEach es X.env)) (backToKw at_ (keywordEach [] X.env))
/-- f(..), f any expression -/
abbrev PCall (X : Cx) (f : Expr) (es : List Expr) (at_ : Pos) : Prop :=
  eval (.Call f es [] at_) X.env = eval f X.env >>= fun v => callWith at_ v [] (backTo at_ (starEach es X.env)) (backToKw at_ (keywordEach [] X.env))
/-- x(k = v, ..) likewise -/
abbrev KCall (X : Cx) (x : Str) (kws : List Keyword) (p at_ : Pos) : Prop :=
  eval (.Call (.Name x p) [] kws at_) X.env = eval (.Name x p) X.env >>= fun f => callWith at_ f [] (backTo at_ (starEach [] X.env)) (backToKw at_ (keywordEach kws X.env))
/-- no star among the values, each keyword has a name -/
abbrev KPlain (X : Cx) (es : List Expr) (kws : List Keyword) (at_ : Pos) : Prop := ((backTo at_ (starEach es X.env)).any (·.1) || (backToKw at_ (keywordEach kws X.env)).any (·.1.isNone)) = false

/-! ### what is wished of an exception -/
inductive ER where
  | ok (o : Bool) (v : Val) (r : Env) | ex (e : Val) (r : Env) | bad
inductive Hd where
  | tmp (o : Bool) (w : Val) | sl (i : Nat)
inductive OR where
  | ok (h : Hd) (r : Env) | ex (e : Val) (r : Env) | bad
inductive OsR where
  | ok (hs : List Hd) (r : Env) | ex (e : Val) (r : Env) | bad
inductive BR where
  | ok (b : Bool) (r : Env) | ex (e : Val) (r : Env) | bad
inductive SR where
  | nx (r : Env) | rt (o : Bool) (v : Val) (r : Env) | bk (r : Env) | ct (r : Env) | ex (e : Val) (r : Env) | bad
abbrev EF := Env → ER
abbrev OF := Env → OR
abbrev OsF := Env → OsR
abbrev BF := Env → BR
abbrev SF := Env → SR

def Hd.get (r : Env) : Hd → Option Val
  | .tmp _ w => some w
  | .sl i => match r[i]? with
    | some (some (_, v)) => some v
    | _ => none
def getAll (r : Env) : List Hd → Option (List Val)
  | [] => some []
  | h :: hs => match h.get r with
    | some v => match getAll r hs with
      | some vs => some (v :: vs)
      | none => none
    | none => none

/-- an exception on its way: W takes it -/
def ExP (A : Act) (W : WX) (G0 : Hp) (σ : L2.St) (e : Val) (r : Env) : Prop := match e with
  | .obj c fs => ∀ G H C dx xs, Ok A G H σ r → Le G0 G → A.w.CM c = some C → H dx = some (.xd xs) → RepF A.w G fs xs → W (.ref C) (some dx) σ H
  | _ => False

theorem ExP.mono {A : Act} {W : WX} {G0 G1 : Hp} {σ : L2.St} {e : Val} {r : Env} (le : Le G0 G1) (h : ExP A W G0 σ e r) : ExP A W G1 σ e r := by
  cases e with
  | obj c fs => exact fun G H C dx xs k l => h G H C dx xs k (le.trans l)
  | _ => exact h
def HRep (A : Act) (G H : Hp) (σ : L2.St) (r : Env) (h : Hd) (x : V) : Prop := match h with
  | .tmp o v => TRep A G H σ r o v x
  | .sl i => σ[i]? = some (some x)
def HReps (A : Act) (G H : Hp) (σ : L2.St) (r : Env) : List Hd → List V → Prop
  | [], xs => xs = []
  | h :: hs, xs => ∃ y ys, xs = y :: ys ∧ HRep A G H σ r h y ∧ HReps A G H σ r hs ys
def RReps (A : Wd) (G H : Hp) : List Val → List V → Prop
  | [], xs => xs = []
  | v :: vs, xs => ∃ y ys, xs = y :: ys ∧ RRep A G H v y ∧ RReps A G H vs ys

section
variable {A : Act} {G H G' H' : Hp} {σ : L2.St} {r r' : Env}
theorem HRep.step {h : Hd} {x : V} (t : HRep A G H σ r h x) (st : Step σ r G H r' G' H') : HRep A G' H' σ r' h x := by
  cases h with
  | tmp o v => exact TRep.step t st
  | sl i => exact t
theorem HReps.step : ∀ {hs : List Hd} {xs : List V}, HReps A G H σ r hs xs → Step σ r G H r' G' H' → HReps A G' H' σ r' hs xs
  | [], _, h, _ => h
  | _ :: _, _, ⟨y, ys, e, a, b⟩, st => ⟨y, ys, e, a.step st, b.step st⟩
theorem Ok.slot {i : Nat} {o : Bool} {v : Val} (k : Ok A G H σ r) (h : r[i]? = some (some (o, v))) : ∃ x, σ[i]? = some (some x) ∧ RRep A.w G H v x := by
  cases o with
  | true => obtain ⟨a, e, ro, _⟩ := k.ow i v h; exact ⟨_, e, .inr ⟨a, rfl, ro⟩⟩
  | false => obtain ⟨x, e, q⟩ := k.fz i v h; exact ⟨x, e, .inl q⟩
theorem HRep.get {h : Hd} {x : V} {v : Val} (k : Ok A G H σ r) (t : HRep A G H σ r h x) (e : h.get r = some v) : RRep A.w G H v x := by
  cases h with
  | tmp o w => simp only [Hd.get, Option.some.injEq] at e; subst e; exact TRep.rrep t
  | sl i =>
    simp only [Hd.get] at e
    split at e
    · rename_i o w q
      cases e
      obtain ⟨y, e1, e2⟩ := k.slot q
      have t' : σ[i]? = some (some x) := t
      rw [t'] at e1; cases e1; exact e2
    · cases e
theorem HReps.get (k : Ok A G H σ r) : ∀ {hs : List Hd} {xs : List V} {vs : List Val}, HReps A G H σ r hs xs → getAll r hs = some vs → RReps A.w G H vs xs
  | [], _, vs, h, e => by
    simp only [getAll, Option.some.injEq] at e; subst e; exact h
  | h :: hs, _, vs, ⟨y, ys, e1, a, b⟩, e => by
    simp only [getAll] at e
    split at e
    · rename_i v q
      split at e
      · rename_i ws q2
        cases e
        exact ⟨y, ys, e1, a.get k q, HReps.get k b q2⟩
      · cases e
    · cases e
end

/-! ### what HandS's judgements are told -/
/-- behind an expression: its value; what it owns is new (or was a slot's) -/
structure Res (A : Act) (σ : L2.St) (r : Env) (G H : Hp) (r' : Env) (G' H' : Hp) (o : Bool) (v : Val) (x : V) : Prop where
  ok : Ok A G' H' σ r'
  st : Step σ r G H r' G' H'
  tr : TRep A G' H' σ r' o v x
  fr : o = true → ∀ a, x = .ref a → H a = none ∨ Rt r σ a
theorem Step.fresh {σ : L2.St} {r r' : Env} {G H G' H' : Hp} (st : Step σ r G H r' G' H') {a : Addr} (h : H' a = none) : H a = none ∨ Rt r σ a := by
  by_cases n : Rt r σ a
  · exact .inr n
  · refine .inl ?_
    cases e : H a with
    | none => rfl
    | some o => rw [st.keep a o e n] at h; cases h
def tE (A : Act) (W : WX) (f : EF) : TE := fun σ H Q => ∃ r G, Ok A G H σ r ∧ match f r with
  | .ok o v r' => ∀ x G' H', Res A σ r G H r' G' H' o v x → Q x H'
  | .ex e r' => ExP A W G σ e r'
  | .bad => False
def tO (A : Act) (W : WX) (f : OF) : TE := fun σ H Q => ∃ r G, Ok A G H σ r ∧ match f r with
  | .ok h r' => ∀ x G' H', Ok A G' H' σ r' → Step σ r G H r' G' H' → HRep A G' H' σ r' h x → Q x H'
  | .ex e r' => ExP A W G σ e r'
  | .bad => False
def tOs (A : Act) (W : WX) (f : OsF) : TA := fun σ H Q => ∃ r G, Ok A G H σ r ∧ match f r with
  | .ok hs r' => ∀ xs G' H', Ok A G' H' σ r' → Step σ r G H r' G' H' → HReps A G' H' σ r' hs xs → Q xs H'
  | .ex e r' => ExP A W G σ e r'
  | .bad => False
def tBo (A : Act) (W : WX) (f : BF) : TT := fun σ H Q => ∃ r G, Ok A G H σ r ∧ match f r with
  | .ok b r' => ∀ G' H', Ok A G' H' σ r' → Step σ r G H r' G' H' → Q b H'
  | .ex e r' => ExP A W G σ e r'
  | .bad => False
/-- behind a statement: the slots may be others -/
def Fin (A : Act) (W : WX) (G : Hp) (D : Ends) : SR → Prop
  | .nx r' => ∀ σ' G' H', Ok A G' H' σ' r' → Le G G' → D.nx σ' H'
  | .rt o v r' => ∀ x σ' G' H', Ok A G' H' σ' r' → Le G G' → TRep A G' H' σ' r' o v x → D.rt x H'
  | .bk r' => ∀ σ' G' H', Ok A G' H' σ' r' → Le G G' → D.bk σ' H'
  | .ct r' => ∀ σ' G' H', Ok A G' H' σ' r' → Le G G' → D.ct σ' H'
  | .ex e r' => ∀ σ', ExP A W G σ' e r'
  | .bad => False
def tSt (A : Act) (W : WX) (f : SF) : TS := fun D σ H => ∃ r G, Ok A G H σ r ∧ Fin A W G D (f r)
theorem Fin.mono {A : Act} {W : WX} {G G1 : Hp} {D : Ends} {s : SR} (le : Le G G1) (h : Fin A W G D s) : Fin A W G1 D s := by
  cases s with
  | nx r => exact fun σ' G' H' k l => h σ' G' H' k (le.trans l)
  | rt o v r => exact fun x σ' G' H' k l => h x σ' G' H' k (le.trans l)
  | bk r => exact fun σ' G' H' k l => h σ' G' H' k (le.trans l)
  | ct r => exact fun σ' G' H' k l => h σ' G' H' k (le.trans l)
  | ex e r => exact fun σ' => (h σ').mono le
  | bad => exact h

theorem PE.imp {X : Cx} {e : Expr} {t t' : TE} (h : PE X e t) (hi : ∀ σ H Q, t' σ H Q → t σ H Q) : PE X e t' := ⟨fun pins s σ H Q I q => h.run pins s σ H Q I (hi _ _ _ q)⟩
theorem PA.imp {X : Cx} {e : List Expr} {t t' : TA} (h : PA X e t) (hi : ∀ σ H Q, t' σ H Q → t σ H Q) : PA X e t' := ⟨fun pos pins s σ H Q I q => h.run pos pins s σ H Q I (hi _ _ _ q)⟩
theorem PT.imp {X : Cx} {e : Expr} {t t' : TT} (h : PT X e t) (hi : ∀ σ H Q, t' σ H Q → t σ H Q) : PT X e t' := ⟨fun pins s σ H Q I q => h.run pins s σ H Q I (hi _ _ _ q)⟩
theorem PS.imp {X : Cx} {e : Stmt} {t t' : TS} (h : PS X e t) (hi : ∀ D σ H, t' D σ H → t D σ H) : PS X e t' := ⟨fun pins s σ H D I q => h.run pins s σ H D I (hi _ _ _ q)⟩
theorem PSs.imp {X : Cx} {e : List Stmt} {t t' : TS} (h : PSs X e t) (hi : ∀ D σ H, t' D σ H → t D σ H) : PSs X e t' := ⟨fun pins s σ H D I q => h.run pins s σ H D I (hi _ _ _ q)⟩

/-- a container that stands in H may be locked for good -/
def GQ (Q : VK) : VK := fun x H => Q x H ∨ ∃ a u, H a = some u ∧ Mut (some u) ∧ ∀ od, Q x (upd H a (.frz od u))
theorem PE.ghost {X : Cx} {e : Expr} {t : TE} (h : PE X e t) : PE X e (fun σ H Q => t σ H (GQ Q)) := by
  refine ⟨fun pins s σ H Q I q => ?_⟩
  refine thn (h.run pins s σ H _ I q) fun u s1 ⟨x, H1, I1, r1, q1⟩ => ?_
  rcases q1 with q1 | ⟨a, u, e, m, q1⟩
  · exact ⟨x, H1, I1, r1, q1⟩
  · obtain ⟨od, I2⟩ := I1.lock e m
    exact ⟨x, _, I2, r1, q1 od⟩

theorem upd_self {H : Hp} {a : Addr} {o : HO} (h : H a = some o) : upd H a o = H := by
  funext b
  by_cases e : b = a
  · subst e; rw [upd_same, h]
  · rw [upd_ne e]

section
variable {A : Act} {G H : Hp} {σ : L2.St} {r : Env} {v : Val} {a : Addr} {x : V}
/-- a container is frozen: as it stands, or locked -/
theorem freeze_root {w : Wd} (ro : Root w G H v a) (n : G a = none) : (∃ o, H a = some o ∧ Rep w (upd G a o) v (.ref a)) ∨ (∃ u, H a = some u ∧ Mut (some u) ∧ ∀ od, Rep w (upd G a (.frz od u)) v (.ref a)) := by
  cases v with
  | lst ds =>
    obtain ⟨xs, e, q⟩ := ro
    exact .inl ⟨_, e, rep_lst.mpr ⟨a, xs, rfl, upd_same, q.mono (Le.new n)⟩⟩
  | dct t ds =>
    obtain ⟨ht, kvs, e, q⟩ | ⟨ht, kvs, e, q⟩ := ro
    · exact .inr ⟨_, e, True.intro, fun od => by rw [Rep]; exact ⟨a, rfl, .inl ⟨ht, kvs, od, upd_same, q.mono (Le.new n)⟩⟩⟩
    · exact .inr ⟨_, e, True.intro, fun od => by rw [Rep]; exact ⟨a, rfl, .inr ⟨ht, kvs, od, upd_same, q.mono (Le.new n)⟩⟩⟩
  | obj c fs =>
    obtain ⟨C, dx, xs, e, m, q⟩ := ro
    exact .inl ⟨_, e, by rw [Rep]; exact ⟨a, C, dx, xs, rfl, upd_same, m, q.mono (Le.new n)⟩⟩
  | _ => exact ro.elim
/-- the state behind it: a is no slot's -/
theorem Ok.freezeT {o : HO} (k : Ok A G H σ r) (n : G a = none) (nr : ¬ Rt r σ a) (l : A.L a ∨ A.H0 a = none) : Ok A (upd G a o) (upd H a o) σ r where
  ex0 := k.ex0.trans (Le.new n)
  gr0 := fun b h => by
    by_cases e : b = a
    · subst e; rcases l with l | l
      · exact .inr (.inr l)
      · exact .inr (.inl l)
    · rw [upd_ne e] at h; exact k.gr0 b h
  fr0 := fun b u h nl => by
    by_cases e : b = a
    · subst e
      rcases l with l | l
      · exact absurd l nl
      · rw [l] at h; cases h
    · rw [upd_ne e]; exact k.fr0 b u h nl
  sub := k.sub.upd2
  len := k.len
  fz := fun i v h => let ⟨x, e, q⟩ := k.fz i v h; ⟨x, e, q.mono (Le.new n)⟩
  ow := fun i v h => by
    obtain ⟨b, e, q, nb, lb⟩ := k.ow i v h
    have ne : b ≠ a := fun z => nr ⟨i, v, h, by rw [e, z]⟩
    exact ⟨b, e, q.mono (Le.new n) (fun o h => by rw [upd_ne ne]; exact h), by rw [upd_ne ne]; exact nb, lb⟩
  sep := k.sep
  fx := k.fx
end

/-- e, its value frozen -/
def frz (f : EF) : EF := fun r => match f r with
  | .ok _ v r' => .ok false v r'
  | .ex e r' => .ex e r'
  | .bad => .bad
theorem pe_frz {X : Cx} {A : Act} {W : WX} {e : Expr} {f : EF} (h : PE X e (tE A W f)) : PE X e (tE A W (frz f)) := by
  refine PE.imp (PE.ghost h) fun σ H Q ⟨r, G, k, m⟩ => ⟨r, G, k, ?_⟩
  unfold frz at m
  cases hf : f r with
  | bad => rw [hf] at m; exact m.elim
  | ex e r' => rw [hf] at m; exact m
  | ok o v r' =>
    rw [hf] at m
    intro x G1 H1 R
    cases o with
    | false => exact .inl (m x G1 H1 R)
    | true =>
      obtain ⟨a, e, ro, n, nr, l⟩ := R.tr
      subst e
      have fr := R.fr rfl a rfl
      have fin : ∀ o, Rep A.w (upd G1 a o) v (.ref a) → Q (.ref a) (upd H1 a o) := fun o rp => by
        refine m _ (upd G1 a o) (upd H1 a o) ⟨R.ok.freezeT n nr l, ⟨R.st.ex.trans (Le.new n), fun b u h nb => ?_, fun b h h' => ?_, R.st.rts⟩, rp, fun z => nomatch z⟩
        · have ne : b ≠ a := fun z => by
            subst z; rcases fr with z | z
            · rw [z] at h; cases h
            · exact nb z
          rw [upd_ne ne]; exact R.st.keep b u h nb
        · by_cases z : b = a
          · subst z; exact fr
          · rw [upd_ne z] at h'; exact R.st.grow b h h'
      rcases freeze_root ro n with ⟨u, hu, rp⟩ | ⟨u, hu, mu, rp⟩
      · left
        have q := fin u rp
        rw [upd_self hu] at q
        exact q
      · exact .inr ⟨a, u, hu, mu, fun od => fin _ (rp od)⟩

/-! ### constants, names -/
def cst (v : Val) : EF := fun r => .ok false v r
/-- a name as a value: what it owns is frozen -/
def var (i : Nat) : EF := fun r => match r[i]? with
  | some (some (false, v)) => .ok false v r
  | some (some (true, v)) => .ok false v (r.set i (some (false, v)))
  | _ => .bad
/-- a name that isn't needed any more: its value goes -/
def mv (i : Nat) : EF := fun r => match r[i]? with
  | some (some (o, v)) => .ok o v (r.set i none)
  | _ => .bad
theorem set_some {r : Env} {i j : Nat} {s s' : Slot} {t : Bool × Val} (h : (r.set i s)[j]? = some s') (e : s' = some t) : (j = i ∧ s = s') ∨ (j ≠ i ∧ r[j]? = some s') := by
  by_cases q : i = j
  · subst q
    left
    by_cases l : i < r.length
    · rw [List.getElem?_set_self l] at h; cases h; exact ⟨rfl, rfl⟩
    · rw [List.getElem?_eq_none (by simpa using l)] at h; cases h
  · rw [List.getElem?_set_ne q] at h
    exact .inr ⟨fun z => q z.symm, h⟩
section
variable {A : Act} {W : WX} {G H : Hp} {σ : L2.St} {r : Env} {i : Nat} {v : Val} {a : Addr}
/-- slot i is no longer held: frozen with G' (o its object), or gone -/
theorem Ok.drop (k : Ok A G H σ r) (h : r[i]? = some (some (true, v))) (hσ : σ[i]? = some (some (.ref a))) {o : HO} (s : Slot) (hs : ∀ w, s = some (false, w) → Rep A.w (upd G a o) w (.ref a)) (hn : ∀ w, s ≠ some (true, w)) : Ok A (upd G a o) (upd H a o) σ (r.set i s) := by
  obtain ⟨a', e, ro, n, l⟩ := k.ow i v h
  rw [hσ] at e; cases e
  have nr : ¬ Rt (r.set i s) σ a := fun ⟨j, w, h1, h2⟩ => by
    rcases set_some h1 rfl with ⟨e1, e2⟩ | ⟨e1, e2⟩
    · exact hn _ e2
    · exact e1 (k.sep j i w v a e2 h h2 hσ)
  refine ⟨k.ex0.trans (Le.new n), fun b h => ?_, fun b u h nl => ?_, k.sub.upd2, by rw [List.length_set]; exact k.len, fun j w h1 => ?_, fun j w h1 => ?_, fun p q v' w' b h1 h2 h3 h4 => ?_, k.fx⟩
  · by_cases e : b = a
    · subst e; rcases l with l | l
      · exact .inr (.inr l)
      · exact .inr (.inl l)
    · rw [upd_ne e] at h; exact k.gr0 b h
  · by_cases e : b = a
    · subst e
      rcases l with l | l
      · exact absurd l nl
      · rw [l] at h; cases h
    · rw [upd_ne e]; exact k.fr0 b u h nl
  · rcases set_some h1 rfl with ⟨e1, e2⟩ | ⟨e1, e2⟩
    · subst e1; exact ⟨_, hσ, hs _ e2⟩
    · obtain ⟨x, e, q⟩ := k.fz j w e2; exact ⟨x, e, q.mono (Le.new n)⟩
  · rcases set_some h1 rfl with ⟨e1, e2⟩ | ⟨e1, e2⟩
    · exact absurd e2 (hn _)
    · obtain ⟨b, e, q, nb, lb⟩ := k.ow j w e2
      have ne : b ≠ a := fun z => e1 (k.sep j i w v a e2 h (by rw [e, z]) hσ)
      exact ⟨b, e, q.mono (Le.new n) (fun o h => by rw [upd_ne ne]; exact h), by rw [upd_ne ne]; exact nb, lb⟩
  · rcases set_some h1 rfl with ⟨e1, e2⟩ | ⟨e1, e2⟩
    · exact absurd e2 (hn _)
    · rcases set_some h2 rfl with ⟨e3, e4⟩ | ⟨e3, e4⟩
      · exact absurd e4 (hn _)
      · exact k.sep p q v' w' b e2 e4 h3 h4
theorem step_drop (n : G a = none) (h : r[i]? = some (some (true, v))) (hσ : σ[i]? = some (some (.ref a))) {o : HO} (s : Slot) (hn : ∀ w, s ≠ some (true, w)) : Step σ r G H (r.set i s) (upd G a o) (upd H a o) :=
  ⟨Le.new n, fun b u hb nb => by
    have ne : b ≠ a := fun z => nb (by subst z; exact ⟨i, v, h, hσ⟩)
    rw [upd_ne ne]; exact hb, fun b hb hb' => by
    by_cases e : b = a
    · subst e; exact .inr ⟨i, v, h, hσ⟩
    · rw [upd_ne e] at hb'; exact absurd hb hb', fun b ⟨j, w, h1, h2⟩ => by
    rcases set_some h1 rfl with ⟨e1, e2⟩ | ⟨e1, e2⟩
    · exact absurd e2 (hn _)
    · exact ⟨j, w, e2, h2⟩⟩
end
theorem pe_cst {X : Cx} {A : Act} {W : WX} {e : Expr} {x : V} {v : Val} (h : PE X e (tC x)) (hv : ∀ G, Rep A.w G v x) : PE X e (tE A W (cst v)) :=
  PE.imp h fun σ H Q ⟨r, G, k, m⟩ => m x G H ⟨k, Step.refl, hv G, fun z => nomatch z⟩
theorem pe_var' {X : Cx} {A : Act} {W : WX} {e : Expr} {i : Nat} (h : PE X e (tVar i)) : PE X e (tE A W (var i)) := by
  refine PE.imp (PE.ghost h) fun σ H Q ⟨r, G, k, m⟩ => ?_
  rcases q : r[i]? with _ | _ | ⟨_ | _, v⟩
  · simp only [var, q] at m
  · simp only [var, q] at m
  · simp only [var, q] at m
    obtain ⟨x, e1, e2⟩ := k.fz i v q
    exact ⟨x, e1, .inl (m x G H ⟨k, Step.refl, e2, fun z => nomatch z⟩)⟩
  · simp only [var, q] at m
    obtain ⟨a, e1, ro, n, l⟩ := k.ow i v q
    refine ⟨.ref a, e1, ?_⟩
    have fin : ∀ o, Rep A.w (upd G a o) v (.ref a) → Q (.ref a) (upd H a o) := fun o rp =>
      m _ _ _ ⟨k.drop q e1 _ (fun w e => by cases e; exact rp) (fun w e => by cases e), step_drop n q e1 _ (fun w e => by cases e), rp, fun z => nomatch z⟩
    rcases freeze_root ro n with ⟨u, hu, rp⟩ | ⟨u, hu, mu, rp⟩
    · left
      have q := fin u rp
      rw [upd_self hu] at q
      exact q
    · exact .inr ⟨a, u, hu, mu, fun od => fin _ (rp od)⟩
theorem Ok.forget {A : Act} {G H : Hp} {σ : L2.St} {r : Env} (k : Ok A G H σ r) (i : Nat) : Ok A G H σ (r.set i none) := by
  have back : ∀ {j : Nat} {t : Bool × Val}, (r.set i none)[j]? = some (some t) → r[j]? = some (some t) ∧ j ≠ i := fun {j t} h => by
    rcases set_some h rfl with ⟨e1, e2⟩ | ⟨e1, e2⟩
    · cases e2
    · exact ⟨e2, e1⟩
  exact ⟨k.ex0, k.gr0, k.fr0, k.sub, by rw [List.length_set]; exact k.len, fun j v h => k.fz j v (back h).1, fun j v h => k.ow j v (back h).1, fun p q v w a h1 h2 => k.sep p q v w a (back h1).1 (back h2).1, k.fx⟩
theorem pe_mv {X : Cx} {A : Act} {W : WX} {e : Expr} {i : Nat} (h : PE X e (tVar i)) : PE X e (tE A W (mv i)) := by
  refine PE.imp h fun σ H Q ⟨r, G, k, m⟩ => ?_
  have rt : ∀ b, Rt (r.set i none) σ b → Rt r σ b := fun b ⟨j, w, h1, h2⟩ => by
    rcases set_some h1 rfl with ⟨e1, e2⟩ | ⟨e1, e2⟩
    · cases e2
    · exact ⟨j, w, e2, h2⟩
  have st : Step σ r G H (r.set i none) G H := ⟨Le.refl _, fun _ _ h _ => h, fun _ h h' => absurd h h', rt⟩
  rcases q : r[i]? with _ | _ | ⟨_ | _, v⟩
  · simp only [mv, q] at m
  · simp only [mv, q] at m
  · simp only [mv, q] at m
    obtain ⟨x, e1, e2⟩ := k.fz i v q
    exact ⟨x, e1, m x G H ⟨k.forget i, st, e2, fun z => nomatch z⟩⟩
  · simp only [mv, q] at m
    obtain ⟨a, e1, ro, n, l⟩ := k.ow i v q
    refine ⟨.ref a, e1, m _ G H ⟨k.forget i, st, ⟨a, rfl, ro, n, ?_, l⟩, fun _ b e => by cases e; exact .inr ⟨i, v, q, e1⟩⟩⟩
    rintro ⟨j, w, h1, h2⟩
    rcases set_some h1 rfl with ⟨e1', e2⟩ | ⟨e1', e2⟩
    · cases e2
    · exact e1' (k.sep j i w v a e2 q h2 e1)

/-! ### operands -/
def oV (f : EF) : OF := fun r => match f r with
  | .ok o v r' => .ok (.tmp o v) r'
  | .ex e r' => .ex e r'
  | .bad => .bad
def oS (i : Nat) : OF := fun r => match r[i]? with
  | some (some _) => .ok (.sl i) r
  | _ => .bad
def osNil : OsF := fun r => .ok [] r
def osCons (f : OF) (g : OsF) : OsF := fun r => match f r with
  | .ok h r1 => match g r1 with
    | .ok hs r2 => .ok (h :: hs) r2
    | .ex e r2 => .ex e r2
    | .bad => .bad
  | .ex e r1 => .ex e r1
  | .bad => .bad
section
variable {X : Cx} {A : Act} {W : WX} {e : Expr} {es : List Expr} {f : EF} {fo : OF} {g : OsF} {i : Nat}
theorem po_V (h : PE X e (tE A W f)) : PE X e (tO A W (oV f)) := PE.imp h fun σ H Q ⟨r, G, k, m⟩ => ⟨r, G, k, by
  unfold oV at m
  cases hf : f r with
  | bad => rw [hf] at m; exact m.elim
  | ex e r' => rw [hf] at m; exact m
  | ok o v r' => rw [hf] at m; exact fun x G1 H1 R => m x G1 H1 R.ok R.st R.tr⟩
theorem po_S (h : PE X e (tVar i)) : PE X e (tO A W (oS i)) := PE.imp h fun σ H Q ⟨r, G, k, m⟩ => by
  rcases q : r[i]? with _ | _ | ⟨o, v⟩
  · simp only [oS, q] at m
  · simp only [oS, q] at m
  · simp only [oS, q] at m
    obtain ⟨x, e1, e2⟩ := k.slot q
    exact ⟨x, e1, m x G H k Step.refl e1⟩
theorem pa_osNil : PA X [] (tOs A W osNil) := PA.imp pa_nil fun σ H Q ⟨r, G, k, m⟩ => m [] G H k Step.refl rfl
/-- the first operand, then the others -/
theorem os_cons {σ : L2.St} {H : Hp} {Q : List V → Hp → Prop} (h : tOs A W (osCons fo g) σ H Q) : tO A W fo σ H fun x H1 => tOs A W g σ H1 fun xs H2 => Q (x :: xs) H2 := by
  obtain ⟨r, G, k, m⟩ := h
  refine ⟨r, G, k, ?_⟩
  unfold osCons at m
  cases hf : fo r with
  | bad => rw [hf] at m; exact m.elim
  | ex e r' => rw [hf] at m; exact m
  | ok h r1 =>
    simp only [hf] at m
    intro x G1 H1 k1 st1 t1
    refine ⟨r1, G1, k1, ?_⟩
    cases hg : g r1 with
    | bad => simp only [hg] at m
    | ex e r2 => simp only [hg] at m ⊢; exact m.mono st1.ex
    | ok hs r2 =>
      simp only [hg] at m ⊢
      intro xs G2 H2 k2 st2 t2
      exact m (x :: xs) G2 H2 k2 (st1.trans st2) ⟨x, xs, rfl, t1.step st2, t2⟩
theorem pa_osCons (he : PE X e (tO A W fo)) (hr : PA X es (tOs A W g)) (hs : NoStar X e es := by rfl) : PA X (e :: es) (tOs A W (osCons fo g)) :=
  PA.imp (pa_cons he hr hs) fun _ _ _ h => os_cons h
end

/-! ### primitive operations -/
def prim (P : List Val → Option (Bool × Val)) (f : OsF) : EF := fun r => match f r with
  | .ok hs r1 => match getAll r1 hs with
    | some vs => match P vs with
      | some (o, z) => .ok o z r1
      | none => .bad
    | none => .bad
  | .ex e r1 => .ex e r1
  | .bad => .bad
/-- what HandS asks of values, held by P -/
def ROk (w : Wd) (R : List V → Hp → VK → Prop) (P : List Val → Option (Bool × Val)) : Prop :=
  ∀ G H vs xs o z, Le G H → RReps w G H vs xs → P vs = some (o, z) → ∀ Q : VK, (∀ u G' H', Grow G H G' H' → NRep w G H G' H' o z u → Q u H') → R xs H Q
/-- HandS's reading that P says -/
def rOf (w : Wd) (P : List Val → Option (Bool × Val)) : List V → Hp → VK → Prop := fun xs H Q => ∃ G vs o z, Le G H ∧ RReps w G H vs xs ∧ P vs = some (o, z) ∧ ∀ u G' H', Grow G H G' H' → NRep w G H G' H' o z u → Q u H'
theorem rok_rOf (w : Wd) (P : List Val → Option (Bool × Val)) : ROk w (rOf w P) P := fun G H vs xs o z le rr hp Q q => ⟨G, vs, o, z, le, rr, hp, q⟩
def r2Of (w : Wd) (P : List Val → Option (Bool × Val)) : R2 := fun x y H Q => rOf w P [x, y] H Q
section
variable {X : Cx} {A : Act} {W : WX} {e : Expr} {es : List Expr} {g : OsF} {P : List Val → Option (Bool × Val)} {R : List V → Hp → VK → Prop}
theorem prim_os {σ : L2.St} {H : Hp} {Q : VK} (hR : ROk A.w R P) (h : tE A W (prim P g) σ H Q) : tOs A W g σ H fun xs H1 => R xs H1 Q := by
  obtain ⟨r, G, k, m⟩ := h
  refine ⟨r, G, k, ?_⟩
  unfold prim at m
  cases hf : g r with
  | bad => rw [hf] at m; exact m.elim
  | ex e r' => rw [hf] at m; exact m
  | ok hs r1 =>
    simp only [hf] at m
    intro xs G1 H1 k1 st1 t1
    cases hg : getAll r1 hs with
    | none => simp only [hg] at m
    | some vs =>
      simp only [hg] at m
      cases hp : P vs with
      | none => simp only [hp] at m
      | some oz =>
        obtain ⟨o, z⟩ := oz
        simp only [hp] at m
        refine hR G1 H1 vs xs o z k1.sub (t1.get k1 hg) hp Q fun u G2 H2 gr nr => ?_
        refine m u G2 H2 ⟨k1.grow gr, st1.trans gr.step, nr.trep k1, fun eo a ea => ?_⟩
        subst eo
        obtain ⟨b, e1, _, _, n⟩ := nr
        rw [ea] at e1; cases e1
        exact st1.fresh n
/-- two operands -/
theorem prim_os2 {fa fb : OF} {σ : L2.St} {H : Hp} {Q : VK} (h : tE A W (prim P (osCons fa (osCons fb osNil))) σ H Q) : tOp (r2Of A.w P) (tO A W fa) (tO A W fb) σ H Q := by
  have h2 := os_cons (prim_os (rok_rOf A.w P) h)
  obtain ⟨r, G, k, m⟩ := h2
  refine ⟨r, G, k, ?_⟩
  cases hf : fa r with
  | bad => rw [hf] at m; exact m.elim
  | ex e r' => rw [hf] at m; exact m
  | ok h r1 =>
    simp only [hf] at m ⊢
    intro x G1 H1 k1 st1 t1
    have h3 := os_cons (m x G1 H1 k1 st1 t1)
    obtain ⟨r', G', k', m'⟩ := h3
    refine ⟨r', G', k', ?_⟩
    cases hb : fb r' with
    | bad => rw [hb] at m'; exact m'.elim
    | ex e r' => rw [hb] at m'; exact m'
    | ok h r1 =>
      simp only [hb] at m' ⊢
      intro y G2 H2 k2 st2 t2
      obtain ⟨r4, G4, k4, m4⟩ := m' y G2 H2 k2 st2 t2
      exact m4 [] G4 H2 k4 Step.refl rfl
theorem prim_os1 {fa : OF} {σ : L2.St} {H : Hp} {Q : VK} (h : tE A W (prim P (osCons fa osNil)) σ H Q) : tO A W fa σ H fun x H1 => rOf A.w P [x] H1 Q := by
  have h2 := os_cons (prim_os (rok_rOf A.w P) h)
  obtain ⟨r, G, k, m⟩ := h2
  refine ⟨r, G, k, ?_⟩
  cases hf : fa r with
  | bad => rw [hf] at m; exact m.elim
  | ex e r' => rw [hf] at m; exact m
  | ok h r1 =>
    simp only [hf] at m ⊢
    intro x G1 H1 k1 st1 t1
    obtain ⟨r4, G4, k4, m4⟩ := m x G1 H1 k1 st1 t1
    exact m4 [] G4 H1 k4 Step.refl rfl
end
end M
/-! MP3: tests, truth, displays, calls, what a def promises. -/
namespace M
open PySem L2

/-! ### tests -/
def tst (f : EF) : BF := fun r => match f r with
  | .ok _ v r' => match v with
    | .bl b => .ok b r'
    | _ => .bad
  | .ex e r' => .ex e r'
  | .bad => .bad
def andB (f g : BF) : BF := fun r => match f r with
  | .ok true r' => g r'
  | x => x
def orB (f g : BF) : BF := fun r => match f r with
  | .ok false r' => g r'
  | x => x
def notB (f : BF) : BF := fun r => match f r with
  | .ok b r' => .ok (!b) r'
  | x => x
theorem trep_f {A : Act} {G H : Hp} {σ : L2.St} {r : Env} {v : Val} {x : V} (h : Rep A.w G v x) : TRep A G H σ r false v x := h
theorem trep_t {A : Act} {G H : Hp} {σ : L2.St} {r : Env} {v : Val} {a : Addr} (h : Root A.w G H v a) (n : G a = none) (nr : ¬ Rt r σ a) (l : A.L a ∨ A.H0 a = none) : TRep A G H σ r true v (.ref a) := ⟨a, rfl, h, n, nr, l⟩
theorem root_lst {w : Wd} {G H : Hp} {a : Addr} {ds : List Val} {xs : List V} (h : H a = some (.lst xs)) (q : Reps w G ds xs) : Root w G H (.lst ds) a := ⟨xs, h, q⟩
theorem nrep_f {w : Wd} {G H G' H' : Hp} {v : Val} {x : V} (h : Rep w G' v x) : NRep w G H G' H' false v x := h
theorem no_own {x : V} {H : Hp} {σ : L2.St} {r : Env} : false = true → ∀ a, x = .ref a → H a = none ∨ Rt r σ a := fun z => nomatch z
theorem bl_of {A : Act} {σ : L2.St} {H : Hp} {G : Hp} {r : Env} {o : Bool} {b : Bool} {u : V} (t : TRep A G H σ r o (.bl b) u) : u = .bl b := by
  cases o with
  | true => obtain ⟨a, _, ro, _⟩ := t; exact ro.elim
  | false => exact rep_bl.mp (show Rep A.w G (.bl b) u from t)
section
variable {X : Cx} {A : Act} {W : WX} {e : Expr} {f : EF} {fa fb : OF} {P : List Val → Option (Bool × Val)} {r2 : R2} {b c : BF} {σ : L2.St} {H : Hp} {Q : Bool → Hp → Prop}
theorem tst_of (h : tBo A W (tst f) σ H Q) : tE A W f σ H fun x H1 => ∃ k, x = .bl k ∧ Q k H1 := by
  obtain ⟨r, G, k, m⟩ := h
  refine ⟨r, G, k, ?_⟩
  unfold tst at m
  cases hf : f r with
  | bad => rw [hf] at m; exact m.elim
  | ex e r' => rw [hf] at m; exact m
  | ok o v r' =>
    simp only [hf] at m
    intro x G1 H1 R
    cases v with
    | bl b =>
      exact ⟨b, bl_of R.tr, m G1 H1 R.ok R.st⟩
    | _ => exact False.elim m
theorem pt_tst (h : PE X e (tE A W f)) (he : ∀ whole, isTrue e X.env whole = (do let v ← whole; standAt e.pos; holding [v] (truthy v)) := by intro _; rfl) : PT X e (tBo A W (tst f)) :=
  PT.imp (pt_val h he) fun _ _ _ q => tst_of q
theorem pt_cmp' {x y : Expr} {op : CmpOp} {pos : Pos} (ho : OpR X (compareOp op) (r2Of A.w P)) (ha : PE X x (tO A W fa)) (hb : PE X y (tO A W fb)) (hm : behindInMarks op y = false) :
    PT X (.Compare x [op] [y] pos) (tBo A W (tst (prim P (osCons fa (osCons fb osNil))))) :=
  PT.imp (pt_cmpR ho ha hb hm) fun _ _ _ q => prim_os2 (tst_of q)
theorem and_of {Q} (h : tBo A W (andB b c) σ H Q) : tAnd (tBo A W b) (tBo A W c) σ H Q := by
  obtain ⟨r, G, k, m⟩ := h
  refine ⟨r, G, k, ?_⟩
  unfold andB at m
  rcases hf : b r with ⟨_ | _, r1⟩ | _ | _
  · simp only [hf] at m ⊢
    intro G1 H1 k1 st1
    simp only [Bool.false_eq_true, if_false]
    exact m G1 H1 k1 st1
  · simp only [hf] at m ⊢
    intro G1 H1 k1 st1
    simp only [if_true]
    refine ⟨r1, G1, k1, ?_⟩
    cases hg : c r1 with
    | bad => simp only [hg] at m
    | ex e r' => simp only [hg] at m ⊢; exact m.mono st1.ex
    | ok d r' => simp only [hg] at m ⊢; exact fun G2 H2 k2 st2 => m G2 H2 k2 (st1.trans st2)
  · simp only [hf] at m ⊢; exact m
  · simp only [hf] at m
theorem or_of {Q} (h : tBo A W (orB b c) σ H Q) : tOr (tBo A W b) (tBo A W c) σ H Q := by
  obtain ⟨r, G, k, m⟩ := h
  refine ⟨r, G, k, ?_⟩
  unfold orB at m
  rcases hf : b r with ⟨_ | _, r1⟩ | _ | _
  · simp only [hf] at m ⊢
    intro G1 H1 k1 st1
    simp only [Bool.false_eq_true, if_false]
    refine ⟨r1, G1, k1, ?_⟩
    cases hg : c r1 with
    | bad => simp only [hg] at m
    | ex e r' => simp only [hg] at m ⊢; exact m.mono st1.ex
    | ok d r' => simp only [hg] at m ⊢; exact fun G2 H2 k2 st2 => m G2 H2 k2 (st1.trans st2)
  · simp only [hf] at m ⊢
    intro G1 H1 k1 st1
    simp only [if_true]
    exact m G1 H1 k1 st1
  · simp only [hf] at m ⊢; exact m
  · simp only [hf] at m
theorem not_of' {Q} (h : tBo A W (notB b) σ H Q) : tNot (tBo A W b) σ H Q := by
  obtain ⟨r, G, k, m⟩ := h
  refine ⟨r, G, k, ?_⟩
  unfold notB at m
  cases hf : b r with
  | ok d r1 => simp only [hf] at m ⊢; exact m
  | ex e r1 => simp only [hf] at m ⊢; exact m
  | bad => simp only [hf] at m
theorem pw_and' {x y : Expr} {rest : List Expr} {pos : Pos} (ha : PT X x (tBo A W b)) (hb : PW X (.BoolOp .And (y :: rest) pos) (tBo A W c)) : PW X (.BoolOp .And (x :: y :: rest) pos) (tBo A W (andB b c)) :=
  ⟨fun wh pins s σ H Q I h => (pw_and ha hb).run wh pins s σ H Q I (and_of h)⟩
theorem pw_or' {x y : Expr} {rest : List Expr} {pos : Pos} (ha : PT X x (tBo A W b)) (hb : PW X (.BoolOp .Or (y :: rest) pos) (tBo A W c)) : PW X (.BoolOp .Or (x :: y :: rest) pos) (tBo A W (orB b c)) :=
  ⟨fun wh pins s σ H Q I h => (pw_or ha hb).run wh pins s σ H Q I (or_of h)⟩
theorem pt_not' {x : Expr} {pos : Pos} (ha : PT X x (tBo A W b)) : PT X (.UnaryOp .Not x pos) (tBo A W (notB b)) := PT.imp (pt_not ha) fun _ _ _ q => not_of' q
end

/-! ### and, or, not, if as values -/
def andV (f g : EF) : EF := fun r => match f r with
  | .ok _ v r' => match v with
    | .bl true => g r'
    | .bl false => .ok false (.bl false) r'
    | _ => .bad
  | x => x
def orV (f g : EF) : EF := fun r => match f r with
  | .ok _ v r' => match v with
    | .bl true => .ok false (.bl true) r'
    | .bl false => g r'
    | _ => .bad
  | x => x
def notV (f : EF) : EF := fun r => match f r with
  | .ok _ v r' => match v with
    | .bl b => .ok false (.bl (!b)) r'
    | _ => .bad
  | x => x
def ite (c : BF) (f g : EF) : EF := fun r => match c r with
  | .ok true r' => f r'
  | .ok false r' => g r'
  | .ex e r' => .ex e r'
  | .bad => .bad
section
variable {X : Cx} {A : Act} {W : WX} {e : Expr} {f g : EF} {c : BF} {σ : L2.St} {H : Hp} {Q : VK} {x y : Expr} {rest : List Expr} {pos : Pos}
/-- an expression in a row behind a state that has gone on -/
theorem tE_step {r r1 : Env} {G G1 H1 : Hp} (k1 : Ok A G1 H1 σ r1) (st1 : Step σ r G H r1 G1 H1)
    (m : match g r1 with
      | .ok o v r' => ∀ x G' H', Res A σ r G H r' G' H' o v x → Q x H'
      | .ex e r' => ExP A W G σ e r'
      | .bad => False) : tE A W g σ H1 Q := by
  refine ⟨r1, G1, k1, ?_⟩
  cases hg : g r1 with
  | bad => simp only [hg] at m
  | ex e r' => simp only [hg] at m ⊢; exact m.mono st1.ex
  | ok o v r' =>
    simp only [hg] at m ⊢
    intro x G2 H2 R
    refine m x G2 H2 ⟨R.ok, st1.trans R.st, R.tr, fun eo a ea => ?_⟩
    rcases R.fr eo a ea with z | z
    · exact st1.fresh z
    · exact .inr (st1.rts a z)
theorem pe_andV (ha : PE X x (tE A W f)) (hb : PE X (.BoolOp .And (y :: rest) pos) (tE A W g)) : PE X (.BoolOp .And (x :: y :: rest) pos) (tE A W (andV f g)) := by
  refine PE.imp (pe_and ha hb) fun σ H Q ⟨r, G, k, m⟩ => ⟨r, G, k, ?_⟩
  unfold andV at m
  cases hf : f r with
  | bad => simp only [hf] at m
  | ex e r' => simp only [hf] at m ⊢; exact m
  | ok o v r' =>
    simp only [hf] at m ⊢
    intro u G1 H1 R
    cases v with
    | bl b =>
      refine ⟨b, bl_of R.tr, ?_⟩
      cases b with
      | true => simp only [if_true]; exact tE_step R.ok R.st m
      | false => simp only [Bool.false_eq_true, if_false]; exact m _ _ _ ⟨R.ok, R.st, trep_f (rep_bl.mpr rfl), no_own⟩
    | _ => exact False.elim m
theorem pe_orV (ha : PE X x (tE A W f)) (hb : PE X (.BoolOp .Or (y :: rest) pos) (tE A W g)) : PE X (.BoolOp .Or (x :: y :: rest) pos) (tE A W (orV f g)) := by
  refine PE.imp (pe_or ha hb) fun σ H Q ⟨r, G, k, m⟩ => ⟨r, G, k, ?_⟩
  unfold orV at m
  cases hf : f r with
  | bad => simp only [hf] at m
  | ex e r' => simp only [hf] at m ⊢; exact m
  | ok o v r' =>
    simp only [hf] at m ⊢
    intro u G1 H1 R
    cases v with
    | bl b =>
      refine ⟨b, bl_of R.tr, ?_⟩
      cases b with
      | true => simp only [if_true]; exact m _ _ _ ⟨R.ok, R.st, trep_f (rep_bl.mpr rfl), no_own⟩
      | false => simp only [Bool.false_eq_true, if_false]; exact tE_step R.ok R.st m
    | _ => exact False.elim m
theorem pe_notV (ha : PE X x (tE A W f)) : PE X (.UnaryOp .Not x pos) (tE A W (notV f)) := by
  refine PE.imp (pe_not ha) fun σ H Q ⟨r, G, k, m⟩ => ⟨r, G, k, ?_⟩
  unfold notV at m
  cases hf : f r with
  | bad => simp only [hf] at m
  | ex e r' => simp only [hf] at m ⊢; exact m
  | ok o v r' =>
    simp only [hf] at m ⊢
    intro u G1 H1 R
    cases v with
    | bl b => exact ⟨b, bl_of R.tr, m _ _ _ ⟨R.ok, R.st, trep_f (rep_bl.mpr rfl), no_own⟩⟩
    | _ => exact False.elim m
theorem pe_ite {t : Expr} (hc : PT X t (tBo A W c)) (ha : PE X x (tE A W f)) (hb : PE X y (tE A W g)) : PE X (.IfExp t x y pos) (tE A W (ite c f g)) := by
  refine PE.imp (pe_ifExp hc ha hb) fun σ H Q ⟨r, G, k, m⟩ => ⟨r, G, k, ?_⟩
  unfold ite at m
  rcases hf : c r with ⟨_ | _, r1⟩ | _ | _
  · simp only [hf] at m ⊢
    intro G1 H1 k1 st1
    simp only [Bool.false_eq_true, if_false]
    exact tE_step k1 st1 m
  · simp only [hf] at m ⊢
    intro G1 H1 k1 st1
    simp only [if_true]
    exact tE_step k1 st1 m
  · simp only [hf] at m ⊢; exact m
  · simp only [hf] at m
end

/-! ### values in a row, frozen -/
inductive AR where
  | ok (vs : List Val) (r : Env) | ex (e : Val) (r : Env) | bad
abbrev AF := Env → AR
def asNil : AF := fun r => .ok [] r
def asCons (f : EF) (g : AF) : AF := fun r => match frz f r with
  | .ok _ v r1 => match g r1 with
    | .ok vs r2 => .ok (v :: vs) r2
    | .ex e r2 => .ex e r2
    | .bad => .bad
  | .ex e r1 => .ex e r1
  | .bad => .bad
def tAs (A : Act) (W : WX) (f : AF) : TA := fun σ H Q => ∃ r G, Ok A G H σ r ∧ match f r with
  | .ok vs r' => ∀ xs G' H', Ok A G' H' σ r' → Step σ r G H r' G' H' → Reps A.w G' vs xs → Q xs H'
  | .ex e r' => ExP A W G σ e r'
  | .bad => False
def tup (g : AF) : EF := fun r => match g r with
  | .ok vs r1 => if vs.length ≤ 100000 then .ok false (.tup vs) r1 else .bad
  | .ex e r1 => .ex e r1
  | .bad => .bad
def lst (g : AF) : EF := fun r => match g r with
  | .ok vs r1 => if vs.length ≤ 100000 then .ok true (.lst vs) r1 else .bad
  | .ex e r1 => .ex e r1
  | .bad => .bad
theorem line_of {n : Nat} (h : n ≤ 100000) : n ≤ sizeLine := Nat.le_trans h (by decide)
theorem frz_false {f : EF} {r r' : Env} {o : Bool} {v : Val} (h : frz f r = .ok o v r') : o = false := by
  unfold frz at h
  split at h <;> first | (cases h; rfl) | cases h
section
variable {X : Cx} {A : Act} {W : WX} {e : Expr} {es : List Expr} {f : EF} {g : AF} {pos : Pos}
theorem pa_asNil : PA X [] (tAs A W asNil) := PA.imp pa_nil fun σ H Q ⟨r, G, k, m⟩ => m [] G H k Step.refl (reps_nil.mpr rfl)
theorem pa_asCons (he : PE X e (tE A W f)) (hr : PA X es (tAs A W g)) (hs : NoStar X e es := by rfl) : PA X (e :: es) (tAs A W (asCons f g)) := by
  refine PA.imp (pa_cons (pe_frz he) hr hs) fun σ H Q ⟨r, G, k, m⟩ => ⟨r, G, k, ?_⟩
  unfold asCons at m
  cases hf : frz f r with
  | bad => simp only [hf] at m
  | ex e r' => simp only [hf] at m ⊢; exact m
  | ok o v r1 =>
    have eo := frz_false hf
    subst eo
    simp only [hf] at m ⊢
    intro x G1 H1 R1
    refine ⟨r1, G1, R1.ok, ?_⟩
    cases hg : g r1 with
    | bad => simp only [hg] at m
    | ex e r2 => simp only [hg] at m ⊢; exact m.mono R1.st.ex
    | ok vs r2 =>
      simp only [hg] at m ⊢
      intro xs G2 H2 k2 st2 rs
      exact m (x :: xs) G2 H2 k2 (R1.st.trans st2) (reps_cons.mpr ⟨x, xs, rfl, Rep.mono st2.ex R1.tr, rs⟩)
theorem pe_tup' {k1} (h : PA X es (tAs A W g)) : PE X (.Tuple es k1 pos) (tE A W (tup g)) := by
  refine PE.imp (pe_tup h) fun σ H Q ⟨r, G, k, m⟩ => ⟨r, G, k, ?_⟩
  unfold tup at m
  cases hf : g r with
  | bad => simp only [hf] at m
  | ex e r' => simp only [hf] at m ⊢; exact m
  | ok vs r1 =>
    simp only [hf] at m ⊢
    intro xs G1 H1 k1 st1 rs
    by_cases hl : vs.length ≤ 100000
    · simp only [if_pos hl] at m
      refine ⟨by rw [← reps_length rs]; exact line_of hl, fun p hp => ?_⟩
      have gr := Grow.laidG (o := .tup xs) k1.sub hp
      exact m _ _ _ ⟨k1.grow gr, st1.trans gr.step, trep_f (rep_tup.mpr ⟨p, xs, rfl, SqT.of upd_same, rs.mono gr.g⟩), no_own⟩
    · simp only [if_neg hl] at m
theorem pe_lst' (h : PA X es (tAs A W g)) : PE X (.List es pos) (tE A W (lst g)) := by
  refine PE.imp (pe_lst h) fun σ H Q ⟨r, G, k, m⟩ => ⟨r, G, k, ?_⟩
  unfold lst at m
  cases hf : g r with
  | bad => simp only [hf] at m
  | ex e r' => simp only [hf] at m ⊢; exact m
  | ok vs r1 =>
    simp only [hf] at m ⊢
    intro xs G1 H1 k1 st1 rs
    by_cases hl : vs.length ≤ 100000
    · simp only [if_pos hl] at m
      refine ⟨by rw [← reps_length rs]; exact line_of hl, fun p hp => ?_⟩
      have gr := Grow.laidH (o := .lst xs) k1.sub hp
      refine m _ _ _ ⟨k1.grow gr, st1.trans gr.step, trep_t (root_lst upd_same rs) (k1.sub.back hp) (k1.notRt hp) (k1.fresh hp), fun _ a e => ?_⟩
      cases e
      exact st1.fresh hp
    · simp only [if_neg hl] at m
end

/-! ### calls -/
inductive GR where
  | ok (o : Bool) (v : Val) (out : Option (Bool × Val)) | ex (e : Val) (out : Option (Bool × Val)) | bad
abbrev GF := List (Bool × Val) → GR
/-- the arguments at a call: frozen values, one slot's container at most -/
def ARel (w : Wd) (G H : Hp) : List (Bool × Val) → List V → Prop
  | [], xs => xs = []
  | (false, v) :: as, xs => ∃ y ys, xs = y :: ys ∧ Rep w G v y ∧ ARel w G H as ys
  | (true, v) :: as, xs => ∃ a ys, xs = .ref a :: ys ∧ Root w G H v a ∧ G a = none ∧ ARel w G H as ys
def Lent (as : List (Bool × Val)) (xs : List V) (a : Addr) : Prop := ∃ (i : Nat) (v : Val), as[i]? = some (true, v) ∧ xs[i]? = some (.ref a)
def lents (as : List (Bool × Val)) : Nat := (as.filter (·.1)).length
def OutRel (w : Wd) (G H : Hp) (a : Addr) : Option (Bool × Val) → Prop
  | some (true, v) => Root w G H v a ∧ G a = none
  | some (false, v) => Rep w G v (.ref a)
  | none => False
/-- behind a call -/
structure Post (w : Wd) (G H : Hp) (as : List (Bool × Val)) (xs : List V) (out : Option (Bool × Val)) (G' H' : Hp) : Prop where
  g : Le G G'
  s : Le G' H'
  gr : ∀ a, G a = none → G' a ≠ none → H a = none ∨ Lent as xs a
  kp : ∀ a o, H a = some o → ¬ Lent as xs a → H' a = some o
  out : ∀ a, Lent as xs a → OutRel w G' H' a out
/-- a def's promise: called with as it is worth g as -/
def spF (w : Wd) (n : Nat) (g : GF) : Sp := fun vs H Q E => ∃ G as, vs.length = n ∧ Le G H ∧ ARel w G H as vs ∧ lents as ≤ 1 ∧ match g as with
  | .ok o z out => ∀ u G' H', Post w G H as vs out G' H' → NRep w G H G' H' o z u → Q u H'
  | .ex e out => match e with
    | .obj c fs => ∀ G' H' C dx xs, Post w G H as vs out G' H' → w.CM c = some C → H' dx = some (.xd xs) → RepF w G' fs xs → E (.ref C) (some dx) H'
    | _ => False
  | .bad => False
/-- the arguments as the slots are: temporaries are frozen -/
def lend (r : Env) : List Hd → Option (List (Bool × Val))
  | [] => some []
  | .tmp false v :: hs => match lend r hs with
    | some as => some ((false, v) :: as)
    | none => none
  | .tmp true _ :: _ => none
  | .sl i :: hs => match r[i]? with
    | some (some t) => match lend r hs with
      | some as => some (t :: as)
      | none => none
    | _ => none
/-- the slot that is lent -/
def lentIx (r : Env) : List Hd → Option Nat
  | [] => none
  | .sl i :: hs => match r[i]? with
    | some (some (true, _)) => some i
    | _ => lentIx r hs
  | _ :: hs => lentIx r hs
/-- the slots behind a call -/
def back (r : Env) (ix : Option Nat) (out : Option (Bool × Val)) : Env := match ix with
  | some i => r.set i out
  | none => r
def callG (n : Nat) (g : GF) (f : OsF) : EF := fun r => match f r with
  | .ok hs r1 => match lend r1 hs with
    | some as => if lents as ≤ 1 ∧ as.length = n then match g as with
      | .ok o z out => .ok o z (back r1 (lentIx r1 hs) out)
      | .ex e out => .ex e (back r1 (lentIx r1 hs) out)
      | .bad => .bad
      else .bad
    | none => .bad
  | .ex e r1 => .ex e r1
  | .bad => .bad

theorem lents_zero : ∀ {as : List (Bool × Val)}, lents as = 0 → ∀ {p : Nat} {v : Val}, as[p]? ≠ some (true, v)
  | [], _, p, v => by simp
  | (b, w) :: as, h, p, v => by
    cases b with
    | true => simp [lents] at h
    | false =>
      have h' : lents as = 0 := by simpa [lents] using h
      cases p with
      | zero => simp
      | succ p => simpa using lents_zero h' (p := p) (v := v)
section
variable {A : Act} {W : WX} {G H G' H' : Hp} {σ : L2.St} {r : Env}
theorem lend_rel (k : Ok A G H σ r) : ∀ {hs : List Hd} {xs : List V} {as : List (Bool × Val)}, lend r hs = some as → HReps A G H σ r hs xs → ARel A.w G H as xs
  | [], _, as, e, h => by simp only [lend, Option.some.injEq] at e; subst e; exact h
  | .tmp false v :: hs, _, as, e, ⟨y, ys, e1, a, b⟩ => by
    simp only [lend] at e
    split at e
    · rename_i as' q
      cases e
      exact ⟨y, ys, e1, a, lend_rel k q b⟩
    · cases e
  | .tmp true v :: hs, _, as, e, _ => by simp only [lend] at e; cases e
  | .sl i :: hs, _, as, e, ⟨y, ys, e1, a, b⟩ => by
    simp only [lend] at e
    split at e
    · rename_i t q
      split at e
      · rename_i as' q2
        cases e
        obtain ⟨o, v⟩ := t
        have a' : σ[i]? = some (some y) := a
        cases o with
        | false =>
          obtain ⟨x, e2, rp⟩ := k.fz i v q
          rw [a'] at e2; cases e2
          exact ⟨y, ys, e1, rp, lend_rel k q2 b⟩
        | true =>
          obtain ⟨c, e2, ro, n, _⟩ := k.ow i v q
          rw [a'] at e2; cases e2
          exact ⟨c, ys, e1, ro, n, lend_rel k q2 b⟩
      · cases e
    · cases e
theorem lend_none : ∀ {hs : List Hd} {as : List (Bool × Val)}, lend r hs = some as → lents as = 0 → lentIx r hs = none
  | [], _, _, _ => rfl
  | .tmp false v :: hs, as, e, h => by
    simp only [lend] at e
    split at e
    · rename_i as' q
      cases e
      exact lend_none (hs := hs) q (by simpa [lents] using h)
    · cases e
  | .tmp true v :: hs, as, e, _ => by simp only [lend] at e; cases e
  | .sl i :: hs, as, e, h => by
    simp only [lend] at e
    split at e
    · rename_i t q
      split at e
      · rename_i as' q2
        cases e
        obtain ⟨o, v⟩ := t
        cases o with
        | false => simp only [lentIx, q]; exact lend_none q2 (by simpa [lents] using h)
        | true => simp [lents] at h
      · cases e
    · cases e
theorem lend_at : ∀ {hs : List Hd} {as : List (Bool × Val)} {xs : List V} {p : Nat} {v : Val} {x : V}, lend r hs = some as → lents as ≤ 1 → HReps A G H σ r hs xs → as[p]? = some (true, v) → xs[p]? = some x →
    ∃ i, lentIx r hs = some i ∧ r[i]? = some (some (true, v)) ∧ σ[i]? = some (some x)
  | [], as, _, p, v, x, e, _, _, h, _ => by simp only [lend, Option.some.injEq] at e; subst e; simp at h
  | .tmp false w :: hs, as, _, p, v, x, e, hl, ⟨y, ys, e1, a, b⟩, h, hx => by
    simp only [lend] at e
    split at e
    · rename_i as' q
      cases e; subst e1
      cases p with
      | zero => simp at h
      | succ p =>
        obtain ⟨i, h1, h2, h3⟩ := lend_at q (by simpa [lents] using hl) b (p := p) (by simpa using h) (by simpa using hx)
        exact ⟨i, h1, h2, h3⟩
    · cases e
  | .tmp true v :: hs, as, _, _, _, _, e, _, _, _, _ => by simp only [lend] at e; cases e
  | .sl i :: hs, as, _, p, v, x, e, hl, ⟨y, ys, e1, a, b⟩, h, hx => by
    simp only [lend] at e
    split at e
    · rename_i t q
      split at e
      · rename_i as' q2
        cases e; subst e1
        obtain ⟨o, w⟩ := t
        cases o with
        | false =>
          cases p with
          | zero => simp at h
          | succ p =>
            obtain ⟨i', h1, h2, h3⟩ := lend_at q2 (by simpa [lents] using hl) b (p := p) (by simpa using h) (by simpa using hx)
            exact ⟨i', by simp only [lentIx, q]; exact h1, h2, h3⟩
        | true =>
          have z : lents as' = 0 := by
            have e : lents ((true, w) :: as') = lents as' + 1 := by simp [lents]
            omega
          cases p with
          | zero =>
            simp at h hx; subst h; subst hx
            exact ⟨i, by simp only [lentIx, q], q, a⟩
          | succ p => exact absurd (by simpa using h) (lents_zero z (p := p) (v := v))
      · cases e
    · cases e
/-- a heap behind a call that was lent nothing -/
theorem Ok.post0 (k : Ok A G H σ r) (g : Le G G') (s : Le G' H') (gr : ∀ a, G a = none → G' a ≠ none → H a = none) (kp : Le H H') : Ok A G' H' σ r := k.grow ⟨g, kp, s, gr⟩
/-- .. that was lent slot i's container -/
theorem Ok.post1 {i : Nat} {v : Val} {a : Addr} {out : Slot} (k : Ok A G H σ r) (hi : r[i]? = some (some (true, v))) (hσ : σ[i]? = some (some (.ref a))) (g : Le G G') (s : Le G' H') (gr : ∀ b, G b = none → G' b ≠ none → H b = none ∨ b = a)
    (kp : ∀ b o, H b = some o → b ≠ a → H' b = some o) (out' : OutRel A.w G' H' a out) : Ok A G' H' σ (r.set i out) := by
  obtain ⟨a', e, ro, n, l⟩ := k.ow i v hi
  rw [hσ] at e; cases e
  have il : i < r.length := (List.getElem?_eq_some_iff.mp hi).1
  refine ⟨k.ex0.trans g, fun b h => ?_, fun b o h nl => ?_, s, by rw [List.length_set]; exact k.len, fun j w h1 => ?_, fun j w h1 => ?_, fun p q v' w' b h1 h2 h3 h4 => ?_, k.fx⟩
  · by_cases q : G b = none
    · rcases gr b q h with z | z
      · rcases k.fresh z with z | z
        · exact .inr (.inr z)
        · exact .inr (.inl z)
      · subst z; rcases l with l | l
        · exact .inr (.inr l)
        · exact .inr (.inl l)
    · exact k.gr0 b q
  · refine kp b o (k.fr0 b o h nl) fun z => ?_
    subst z
    rcases l with l | l
    · exact nl l
    · rw [l] at h; cases h
  · rcases set_some h1 rfl with ⟨e1, e2⟩ | ⟨e1, e2⟩
    · subst e1; subst e2; exact ⟨_, hσ, out'⟩
    · obtain ⟨x, e, q⟩ := k.fz j w e2; exact ⟨x, e, q.mono g⟩
  · rcases set_some h1 rfl with ⟨e1, e2⟩ | ⟨e1, e2⟩
    · subst e1; subst e2; exact ⟨a, hσ, out'.1, out'.2, l⟩
    · obtain ⟨b, e, q, nb, lb⟩ := k.ow j w e2
      have ne : b ≠ a := fun z => e1 (k.sep j i w v a e2 hi (by rw [e, z]) hσ)
      refine ⟨b, e, q.mono g (fun o h => kp b o h ne), ?_, lb⟩
      cases z : G' b with
      | none => rfl
      | some o =>
        obtain ⟨u, hu, _⟩ := q.has
        rcases gr b nb (by rw [z]; simp) with y | y
        · rw [hu] at y; cases y
        · exact absurd y ne
  · have own : ∀ {j : Nat} {w : Val}, (r.set i out)[j]? = some (some (true, w)) → ∃ w', r[j]? = some (some (true, w')) := fun {j w} h => by
      rcases set_some h rfl with ⟨e1, e2⟩ | ⟨e1, e2⟩
      · subst e1; exact ⟨v, hi⟩
      · exact ⟨w, e2⟩
    obtain ⟨w1, o1⟩ := own h1
    obtain ⟨w2, o2⟩ := own h2
    exact k.sep p q w1 w2 b o1 o2 h3 h4
theorem rt_set {i : Nat} {v : Val} {out : Slot} (hi : r[i]? = some (some (true, v))) {b : Addr} (h : Rt (r.set i out) σ b) : Rt r σ b := by
  obtain ⟨j, w, h1, h2⟩ := h
  rcases set_some h1 rfl with ⟨e1, e2⟩ | ⟨e1, e2⟩
  · subst e1; exact ⟨j, v, hi, h2⟩
  · exact ⟨j, w, e2, h2⟩
/-- the state behind a call -/
theorem call_state {hs : List Hd} {as : List (Bool × Val)} {xs : List V} {out : Option (Bool × Val)} (k : Ok A G H σ r) (hl : lend r hs = some as) (h1 : lents as ≤ 1) (hr : HReps A G H σ r hs xs) (p : Post A.w G H as xs out G' H') :
    Ok A G' H' σ (back r (lentIx r hs) out) ∧ Step σ r G H (back r (lentIx r hs) out) G' H' := by
  by_cases z : lents as = 0
  · have nl : ∀ a, ¬ Lent as xs a := fun a ⟨q, v, h, _⟩ => lents_zero z h
    rw [lend_none hl z]
    have kp : Le H H' := fun a o h => p.kp a o h (nl a)
    have gr : ∀ a, G a = none → G' a ≠ none → H a = none := fun a h h' => (p.gr a h h').resolve_right (nl a)
    exact ⟨k.post0 p.g p.s gr kp, p.g, fun a o h _ => kp a o h, fun a h h' => .inl (gr a h h'), fun a h => h⟩
  · -- one is lent
    have ⟨q, v, hq⟩ : ∃ (q : Nat) (v : Val), as[q]? = some (true, v) := by
      have : ∀ {as : List (Bool × Val)}, lents as ≠ 0 → ∃ (q : Nat) (v : Val), as[q]? = some (true, v) := by
        intro as
        induction as with
        | nil => intro h; exact absurd rfl h
        | cons t as ih =>
          intro h
          obtain ⟨b, w⟩ := t
          cases b with
          | true => exact ⟨0, w, rfl⟩
          | false =>
            obtain ⟨q, v, e⟩ := ih (by simpa [lents] using h)
            exact ⟨q + 1, v, by simpa using e⟩
      exact this z
    have lx : ∃ x, xs[q]? = some x := by
      have : ∀ {as : List (Bool × Val)} {xs : List V} {q : Nat} {t : Bool × Val}, ARel A.w G H as xs → as[q]? = some t → ∃ x, xs[q]? = some x := by
        intro as
        induction as with
        | nil => intro xs q t _ h; simp at h
        | cons u as ih =>
          intro xs q t h e
          obtain ⟨b, w⟩ := u
          cases b with
          | true =>
            obtain ⟨a, ys, e1, _, _, rest⟩ := h
            subst e1
            cases q with
            | zero => exact ⟨_, rfl⟩
            | succ q => obtain ⟨x, hx⟩ := ih rest (q := q) (by simpa using e); exact ⟨x, by simpa using hx⟩
          | false =>
            obtain ⟨a, ys, e1, _, rest⟩ := h
            subst e1
            cases q with
            | zero => exact ⟨_, rfl⟩
            | succ q => obtain ⟨x, hx⟩ := ih rest (q := q) (by simpa using e); exact ⟨x, by simpa using hx⟩
      exact this (lend_rel k hl hr) hq
    obtain ⟨x, hx⟩ := lx
    obtain ⟨i, e1, e2, e3⟩ := lend_at hl h1 hr hq hx
    obtain ⟨a, e4, ro, n, l⟩ := k.ow i v e2
    rw [e3] at e4
    cases e4
    have only : ∀ b, Lent as xs b → b = a := fun b ⟨q', v', h, h'⟩ => by
      obtain ⟨i', f1, f2, f3⟩ := lend_at hl h1 hr h h'
      rw [e1] at f1; cases f1
      rw [e3] at f3; cases f3; rfl
    have here : Lent as xs a := ⟨q, v, hq, hx⟩
    rw [e1]
    have gr : ∀ b, G b = none → G' b ≠ none → H b = none ∨ b = a := fun b h h' => (p.gr b h h').imp id (only b)
    have kp : ∀ b o, H b = some o → b ≠ a → H' b = some o := fun b o h ne => p.kp b o h fun z => ne (only b z)
    refine ⟨k.post1 e2 e3 p.g p.s gr kp (p.out a here), p.g, fun b o h nb => kp b o h fun z => ?_, fun b h h' => (gr b h h').imp id fun z => ?_, fun b h => rt_set e2 h⟩
    · subst z; exact nb ⟨i, v, e2, e3⟩
    · subst z; exact ⟨i, v, e2, e3⟩
theorem call_of {n : Nat} {g : GF} {f : OsF} {Q : VK} (h : tE A W (callG n g f) σ H Q) : tOs A W f σ H fun vs H1 => spF A.w n g vs H1 Q (fun cls d H2 => W cls d σ H2) := by
  obtain ⟨r, G, k, m⟩ := h
  refine ⟨r, G, k, ?_⟩
  unfold callG at m
  cases hf : f r with
  | bad => rw [hf] at m; exact m.elim
  | ex e r' => rw [hf] at m; exact m
  | ok hs r1 =>
    simp only [hf] at m
    intro xs G1 H1 k1 st1 t1
    cases hl : lend r1 hs with
    | none => simp only [hl] at m
    | some as =>
      simp only [hl] at m
      by_cases hc : lents as ≤ 1 ∧ as.length = n
      · simp only [if_pos hc] at m
        have ar := lend_rel k1 hl t1
        have len : ∀ {as : List (Bool × Val)} {xs : List V}, ARel A.w G1 H1 as xs → xs.length = as.length := by
          intro as
          induction as with
          | nil => intro xs h; have h' : xs = [] := h; subst h'; rfl
          | cons t as ih =>
            intro xs h
            obtain ⟨b, w⟩ := t
            cases b with
            | true => obtain ⟨a, ys, e1, _, _, rest⟩ := h; subst e1; simp [ih rest]
            | false => obtain ⟨a, ys, e1, _, rest⟩ := h; subst e1; simp [ih rest]
        refine ⟨G1, as, by rw [len ar, hc.2], k1.sub, ar, hc.1, ?_⟩
        cases hg : g as with
        | bad => simp only [hg] at m
        | ok o z out =>
          simp only [hg] at m ⊢
          intro u G' H' p nr
          obtain ⟨k2, st2⟩ := call_state k1 hl hc.1 t1 p
          refine m u G' H' ⟨k2, st1.trans st2, ?_, fun eo a ea => ?_⟩
          · cases o with
            | true =>
              obtain ⟨a, e, ro, n, n2⟩ := nr
              exact ⟨a, e, ro, n, fun z => k1.notRt n2 (st2.rts a z), k1.fresh n2⟩
            | false => exact nr
          · subst eo
            obtain ⟨b, e, _, _, n2⟩ := nr
            rw [ea] at e; cases e
            exact st1.fresh n2
        | ex e out =>
          simp only [hg] at m ⊢
          cases e with
          | obj c fs =>
            intro G' H' C dx ys p hC hd hF
            obtain ⟨k2, st2⟩ := call_state k1 hl hc.1 t1 p
            exact m G' H' C dx ys k2 (st1.trans st2).ex hC hd hF
          | _ => exact m
      · simp only [if_neg hc] at m
end
end M
/-! MPG: defs that are called where no repr is under way (the stack of guards is empty). -/
namespace M
open PySem L2

structure RoomG (k : Nat) (A : Around) : Prop where
  room : Room k A
  gs : A.guards = some []
theorem RoomG.le {j k : Nat} {A : Around} (r : RoomG k A) (h : j ≤ k) : RoomG j A := ⟨r.room.mono h, r.gs⟩
theorem RoomG.deep {k : Nat} {A : Around} (r : RoomG (k + 1) A) (env : PySem.Env) : RoomG k (A.deeper env) := ⟨r.room.deeper env, r.gs⟩
/-- the def at f keeps the promise sp -/
structure FnG (P : Program) (w : World) (K : PySem.W.Frag) (mg : Str → Option Value) (base : Heap) (CX : CXT) (k : Nat) (f : Addr) (fd : FuncData) (ps : List Str) (sp : Sp) : Prop where
  len : ∀ vs H Q E, sp vs H Q E → vs.length = ps.length
  go : ∀ (A : Around) (outer : List PySem.Env) (s : Shared) (H : Hp) (args : Args) (us : List Value) (vs : List V) (Q : VK) (E : XK),
    RoomG k A → Env0 P w K mg base A outer s H → BindsTo s fd args (ps.zip us) → Vals vs us → sp vs H Q E → codeAny (model P w) A (.call (.ref f) args) (CR CX outer P w H s Q E) s
section
variable {P : Program} {w : World} {K : PySem.W.Frag} {mg : Str → Option Value} {base : Heap} {CX : CXT} {k : Nat}
theorem FnG.up {j : Nat} {f : Addr} {fd : FuncData} {ps : List Str} {sp : Sp} (F : FnG P w K mg base CX j f fd ps sp) (h : j ≤ k) : FnG P w K mg base CX k f fd ps sp :=
  ⟨F.len, fun A o s H args us vs Q E hr => F.go A o s H args us vs Q E (hr.le h)⟩
theorem FnG.weak {f : Addr} {fd : FuncData} {ps : List Str} {sp sp' : Sp} (F : FnG P w K mg base CX k f fd ps sp) (h : ∀ vs H Q E, sp' vs H Q E → sp vs H Q E) : FnG P w K mg base CX k f fd ps sp' :=
  ⟨fun vs H Q E q => F.len vs H Q E (h _ _ _ _ q), fun A o s H args us vs Q E hr e b r q => F.go A o s H args us vs Q E hr e b r (h _ _ _ _ q)⟩
/-- from the body -/
theorem fnG_of {f : Addr} {name qual : Str} {params : Arguments} {body : List Stmt} {scope : Scope} {dV kV doc pm cdv ct oc : Value} {an od : Option Addr} {osl : Array (Option Value)} {N ps : List Str} {sp : Sp}
    (lk : K.lookup f = some ⟨oc, od, .func (PySem.W.fnOf name qual params body scope dV kV doc pm an cdv ct), osl⟩) (hcd : PySem.W.codeIn K cdv qual = true) (S : FnScope N ps scope) (len : ∀ vs H Q E, sp vs H Q E → vs.length = ps.length)
    (hb : ∀ (A : Around) (outer : List PySem.Env) (s : Shared) (H : Hp) (vs : List V) (Q : VK) (E : XK), RoomG k (A.deeper (PyProof.Rows.envOfC qual scope s.heap.objs.size f cdv)) → sp vs H Q E →
      ∃ t, PSs (cxOf CX P w K mg base N qual scope f cdv A outer s H E) body t ∧ t { nx := fun _ H' => Q .non H', rt := Q } (L2.start N vs) H) :
    FnG P w K mg base CX (k + 1) f (PySem.W.fnOf name qual params body scope dV kV doc pm an cdv ct) ps sp := by
  constructor
  case len => exact len
  case go =>
    intro A outer s H args us vs Q E hr e0 hbind rv hsp
    have inK : K.In s.heap := e0.mod.kin.keeps fun b o e => (e0.bs b o e).1
    have obj := inK _ _ lk
    obtain ⟨t, ht, q0⟩ := hb A outer s H vs Q E (hr.deep _) hsp
    apply codeAny_call_function hr.room.depth obj rfl S.co S.gen rfl (PySem.W.codeRec_of inK hcd)
    apply hbind
    apply wpAny_newFunctionEnv_cells S.kind
    · rintro ⟨n, v⟩ hy
      rcases S.par n (List.of_mem_zip hy).1 with z | z
      · left; exact z
      · right; exact ⟨z, PySem.W.cellsFrom_some _ _ _ (.inl z)⟩
    · intro env he s1 x
      subst he
      constructor
      · exact (e0.mod.nolimit.keeps fun b o e => (e0.bs b o e).1).keeps x.toInCall.keep
      · apply codeAny_func
        have I0 := inv_start (CX := CX) (P := P) (w := w) (K := K) (mg := mg) (base := base) (E := E) S hr.room.hd e0 (len _ _ _ _ hsp) rv x
        apply wpAny_mono (ht.run [] s1 (L2.start N vs) H _ I0 q0)
        · intro fl s' z
          cases fl with
          | next => obtain ⟨σ', H', J, y⟩ := z; exact ⟨.non, H', J.os, J.bare, J.base, J.hok, rfl, y⟩
          | ret u => obtain ⟨v, σ', H', J, r', y⟩ := z; exact ⟨v, H', J.os, J.bare, J.base, J.hok, r', y⟩
          | brk => obtain ⟨_, _, _, y⟩ := z; exact y.elim
          | cont => obtain ⟨_, _, _, y⟩ := z; exact y.elim
        · intro e s' z; exact z
end
section
variable {X : Cx} {CX : CXT} {k : Nat} {f : Addr} {fd : FuncData} {ps : List Str} {sp : Sp} {pins : List (Addr × Obj)} {σ : L2.St} {H : Hp} {s : Shared} {Q : VK} {E : XK}
/-- what is left behind a callee's run -/
theorem ran (I : Inv X pins σ H s) (hx : ∀ e s', CX X.stack H s E e s' → X.xe e s') {args : Args} (h : codeAny (model X.prog X.w) X.A (.call (.ref f) args) (CR CX X.stack X.prog X.w H s Q E) s) :
    wpAny (model X.prog X.w) X.A (call (.ref f) args.pos args.kw) (EP X pins σ Q) X.xe s := by
  apply wpAny_call
  apply codeAny_mono h
  intro r s' z
  match r, z with
  | .error e, z => exact hx e s' z
  | .ok (.ret u), z => exact I.after z
  | .ok .next, z => exact z.elim
  | .ok .brk, z => exact z.elim
  | .ok .cont, z => exact z.elim
theorem run_G (F : FnG X.prog X.w X.K X.mg X.base CX k f fd ps sp) (hr : RoomG k X.A) (hx : ∀ e s', CX X.stack H s E e s' → X.xe e s') (I : Inv X pins σ H s) {args : Args} {us : List Value} {vs : List V} (hb : BindsTo s fd args (ps.zip us)) (r : Vals vs us)
    (h : sp vs H Q E) : wpAny (model X.prog X.w) X.A (call (.ref f) args.pos args.kw) (EP X pins σ Q) X.xe s := ran I hx (F.go X.A X.stack s H args us vs Q E hr I.env0 hb r h)
end
end M
/-! MP4: a def's body, statements, loops, comprehensions. -/
namespace M
open PySem L2

/-! ### a def -/
def ownIx : List (Bool × Val) → Option Nat
  | [] => none
  | (true, _) :: _ => some 0
  | (false, _) :: as => (ownIx as).map (· + 1)
def outOf (as : List (Bool × Val)) (r : Env) : Option (Option (Bool × Val)) := match ownIx as with
  | none => some none
  | some i => match r[i]? with
    | some (some t) => some (some t)
    | _ => none
def runDef (ios : List Nat) (np N : Nat) (body : SF) : GF := fun as =>
  if as.length = np ∧ (∀ i ∈ ownIx as, i ∈ ios) then
    match body (as.map some ++ List.replicate (N - np) none) with
    | .nx r => match outOf as r with
      | some out => .ok false .non out
      | none => .bad
    | .rt o v r => match outOf as r with
      | some out => if o = true ∧ out.map (·.1) = some false then .bad else .ok o v out
      | none => .bad
    | .ex e r => match outOf as r with
      | some out => .ex e out
      | none => .bad
    | _ => .bad
  else .bad
theorem ownIx_none : ∀ {as : List (Bool × Val)}, ownIx as = none → ∀ {p : Nat} {v : Val}, as[p]? ≠ some (true, v)
  | [], _, p, v => by simp
  | (true, w) :: as, h, _, _ => by simp [ownIx] at h
  | (false, w) :: as, h, p, v => by
    have h' : ownIx as = none := by simpa [ownIx] using h
    cases p with
    | zero => simp
    | succ p => simpa using ownIx_none h' (p := p) (v := v)
theorem ownIx_some : ∀ {as : List (Bool × Val)} {i : Nat}, ownIx as = some i → ∃ v, as[i]? = some (true, v)
  | [], i, h => by simp [ownIx] at h
  | (true, w) :: as, i, h => by simp [ownIx] at h; subst h; exact ⟨w, rfl⟩
  | (false, w) :: as, i, h => by
    simp only [ownIx, Option.map_eq_some_iff] at h
    obtain ⟨j, h, e⟩ := h
    subst e
    obtain ⟨v, e⟩ := ownIx_some h
    exact ⟨v, by simpa using e⟩
theorem own_one : ∀ {as : List (Bool × Val)} {p q : Nat} {v w : Val}, lents as ≤ 1 → as[p]? = some (true, v) → as[q]? = some (true, w) → p = q
  | [], _, _, _, _, _, h, _ => by simp at h
  | (true, u) :: as, p, q, v, w, h, h1, h2 => by
    have z : lents as = 0 := by
      have e : lents ((true, u) :: as) = lents as + 1 := by simp [lents]
      omega
    cases p with
    | zero =>
      cases q with
      | zero => rfl
      | succ q => exact absurd (by simpa using h2) (lents_zero z (p := q) (v := w))
    | succ p => exact absurd (by simpa using h1) (lents_zero z (p := p) (v := v))
  | (false, u) :: as, p, q, v, w, h, h1, h2 => by
    cases p with
    | zero => simp at h1
    | succ p =>
      cases q with
      | zero => simp at h2
      | succ q =>
        have := own_one (as := as) (p := p) (q := q) (by simpa [lents] using h) (by simpa using h1) (by simpa using h2)
        omega
theorem arel_get {w : Wd} {G H : Hp} : ∀ {as : List (Bool × Val)} {xs : List V} {p : Nat} {o : Bool} {v : Val}, ARel w G H as xs → as[p]? = some (o, v) → ∃ x, xs[p]? = some x ∧ match o with
    | true => ∃ a, x = .ref a ∧ Root w G H v a ∧ G a = none
    | false => Rep w G v x
  | [], _, _, _, _, _, h => by simp at h
  | (true, u) :: as, _, p, o, v, ⟨a, ys, e, r, n, t⟩, h => by
    subst e
    cases p with
    | zero => simp at h; obtain ⟨h1, h2⟩ := h; subst h1; subst h2; exact ⟨_, rfl, a, rfl, r, n⟩
    | succ p => obtain ⟨x, e, q⟩ := arel_get t (p := p) (by simpa using h); exact ⟨x, by simpa using e, q⟩
  | (false, u) :: as, _, p, o, v, ⟨a, ys, e, r, t⟩, h => by
    subst e
    cases p with
    | zero => simp at h; obtain ⟨h1, h2⟩ := h; subst h1; subst h2; exact ⟨_, rfl, r⟩
    | succ p => obtain ⟨x, e, q⟩ := arel_get t (p := p) (by simpa using h); exact ⟨x, by simpa using e, q⟩
theorem arel_length {w : Wd} {G H : Hp} : ∀ {as : List (Bool × Val)} {xs : List V}, ARel w G H as xs → xs.length = as.length
  | [], _, h => by have h' : _ = [] := h; subst h'; rfl
  | (true, u) :: as, _, ⟨a, ys, e, _, _, t⟩ => by subst e; simp [arel_length t]
  | (false, u) :: as, _, ⟨a, ys, e, _, t⟩ => by subst e; simp [arel_length t]
/-- the act of a call -/
def actOf (w : Wd) (G H : Hp) (as : List (Bool × Val)) (vs : List V) : Act := ⟨w, G, H, Lent as vs, (ownIx as).toList, fun i => vs[i]?⟩
theorem start_get {N : List Str} {vs : List V} {i : Nat} {x : V} (h : vs[i]? = some x) : (L2.start N vs)[i]? = some (some x) := by
  unfold L2.start
  have hl : i < vs.length := (List.getElem?_eq_some_iff.mp h).1
  rw [List.getElem?_append_left (by simpa using hl), List.getElem?_map, h]; rfl
theorem env0_get {as : List (Bool × Val)} {k i : Nat} {t : Bool × Val} (h : (as.map some ++ List.replicate k (none : Slot))[i]? = some (some t)) : as[i]? = some t := by
  by_cases hl : i < as.length
  · rw [List.getElem?_append_left (by simpa using hl), List.getElem?_map] at h
    cases e : as[i]? with
    | none => rw [e] at h; cases h
    | some u => rw [e] at h; cases h; rfl
  · rw [List.getElem?_append_right (by simpa using hl), List.getElem?_replicate] at h
    split at h <;> cases h
theorem act_ok {w : Wd} {G H : Hp} {as : List (Bool × Val)} {vs : List V} {N : List Str} (g : Le G H) (ar : ARel w G H as vs) (l1 : lents as ≤ 1) (hl : vs.length ≤ N.length) : Ok (actOf w G H as vs) G H (L2.start N vs) (as.map some ++ List.replicate (N.length - as.length) none) where
  ex0 := Le.refl _
  gr0 := fun a h => .inl h
  fr0 := fun a o h _ => h
  sub := g
  len := by
    have := arel_length ar
    unfold L2.start
    simp
    omega
  fz := fun i v h => by
    obtain ⟨x, e, q⟩ := arel_get ar (env0_get h)
    exact ⟨x, start_get e, q⟩
  ow := fun i v h => by
    have h' := env0_get h
    obtain ⟨x, e, a, e2, q, n⟩ := arel_get ar h'
    subst e2
    exact ⟨a, start_get e, q, n, .inl ⟨i, v, h', e⟩⟩
  sep := fun i j v w a h1 h2 _ _ => own_one l1 (env0_get h1) (env0_get h2)
  fx := fun i hi => by
    have hi' : ownIx as = some i := by simpa [actOf] using hi
    obtain ⟨v, e⟩ := ownIx_some hi'
    obtain ⟨x, e1, _⟩ := arel_get ar e
    show (L2.start N vs)[i]? = some vs[i]?
    rw [e1]; exact start_get e1
theorem act_post {w : Wd} {G H G' H' : Hp} {as : List (Bool × Val)} {vs : List V} {σ : L2.St} {r : Env} {out : Option (Bool × Val)} (ar : ARel w G H as vs) (l1 : lents as ≤ 1) (k : Ok (actOf w G H as vs) G' H' σ r) (ho : outOf as r = some out) : Post w G H as vs out G' H' where
  g := k.ex0
  s := k.sub
  gr := fun a h h' => (k.gr0 a h').elim (fun z => absurd h z) id
  kp := k.fr0
  out := fun a ⟨i, v, h1, h2⟩ => by
    have hi : ownIx as = some i := by
      cases e : ownIx as with
      | none => exact absurd h1 (ownIx_none e)
      | some j =>
        obtain ⟨w', e'⟩ := ownIx_some e
        rw [own_one l1 e' h1]
    have fx : σ[i]? = some vs[i]? := k.fx i (by simp [actOf, hi])
    rw [h2] at fx
    unfold outOf at ho
    rw [hi] at ho
    simp only at ho
    split at ho
    · rename_i t q
      cases ho
      obtain ⟨b, u⟩ := t
      cases b with
      | true =>
        obtain ⟨c, e, ro, n, _⟩ := k.ow i u q
        rw [fx] at e; cases e
        exact ⟨ro, n⟩
      | false =>
        obtain ⟨x, e, rp⟩ := k.fz i u q
        rw [fx] at e; cases e
        exact rp
    · cases ho

/-- what a body's rule says, whatever it runs over -/
structure SV (X : Cx) (w : Wd) (ios : List Nat) (sts : List Stmt) (f : SF) : Prop where
  run : ∀ (A : Act) (W : WX), A.w = w → (∀ i ∈ A.io, i ∈ ios) → Takes X W → PSs X sts (tSt A W f)
section
variable {P : Program} {w : World} {K : PySem.W.Frag} {mg : Str → Option Value} {base : Heap}
theorem def_ok {x qual : Str} {st : Stmt} {f : Addr} {fd : FuncData} {N ps : List Str} {k : Nat} {wd : Wd} {ios : List Nat} {body : SF} {g : GF} (F : Fun K x qual st f fd) (S : FnScope N ps (defScope st))
    (hb : ∀ (cdv : Value) (A : Around) (outer : List PySem.Env) (s : Shared) (H : Hp) (E : XK), RoomG k (A.deeper (PyProof.Rows.envOfC qual (defScope st) s.heap.objs.size f cdv)) →
      SV (cxOf (L2.CX P w) P w K mg base N qual (defScope st) f cdv A outer s H E) wd ios (defBody st) body)
    (hg : ∀ as, g as = .bad ∨ g as = runDef ios ps.length N.length body as) : FnG P w K mg base (L2.CX P w) (k + 1) f fd ps (spF wd ps.length g) := by
  obtain ⟨oc, od, kV, doc, pm, an, cdv, ct, osl, rfl, lk, hcd⟩ := F.ex
  refine fnG_of lk hcd S (fun vs H Q E ⟨G, as, h, _⟩ => h) fun A outer s H vs Q E hr ⟨G, as, hlen, hle, ar, l1, hm⟩ => ?_
  have h1 : g as = runDef ios ps.length N.length body as := (hg as).resolve_left fun z => by rw [z] at hm; exact hm
  rw [h1] at hm
  unfold runDef at hm
  by_cases hc : as.length = ps.length ∧ (∀ i ∈ ownIx as, i ∈ ios)
  case neg => rw [if_neg hc] at hm; exact hm.elim
  rw [if_pos hc] at hm
  have hN : ps.length ≤ N.length := by
    have := congrArg List.length S.pre
    rw [List.length_take] at this; omega
  refine ⟨_, (hb cdv A outer s H E hr).run (actOf wd G H as vs) (fun cls d _ H => E cls d H) rfl (fun i hi => hc.2 i (by simpa [actOf] using hi)) (takes_of rfl rfl rfl rfl), _, G, act_ok (N := N) hle ar l1 (by omega), ?_⟩
  rw [← hc.1] at hm
  generalize hB : body (as.map some ++ List.replicate (N.length - as.length) none) = res at hm ⊢
  cases res with
  | bad => exact hm.elim
  | bk r => exact hm.elim
  | ct r => exact hm.elim
  | nx r =>
    intro σ' G' H' k' _
    cases ho : outOf as r with
    | none => simp only [ho] at hm
    | some out =>
      simp only [ho] at hm
      exact hm .non G' H' (act_post ar l1 k' ho) (nrep_f (rep_non.mpr rfl))
  | rt o v r =>
    intro u σ' G' H' k' _ tr
    cases ho : outOf as r with
    | none => simp only [ho] at hm
    | some out =>
      simp only [ho] at hm
      by_cases hx : o = true ∧ out.map (·.1) = some false
      case pos => simp only [if_pos hx] at hm
      simp only [if_neg hx] at hm
      refine hm u G' H' (act_post ar l1 k' ho) ?_
      cases o with
      | false => exact tr
      | true =>
        obtain ⟨b, e, ro, n, nr, l⟩ := tr
        refine ⟨b, e, ro, n, ?_⟩
        rcases l with l | l
        · exfalso
          obtain ⟨i, v', h1, h2⟩ := l
          have hi : ownIx as = some i := by
            cases e : ownIx as with
            | none => exact absurd h1 (ownIx_none e)
            | some j =>
              obtain ⟨w', e'⟩ := ownIx_some e
              rw [own_one l1 e' h1]
          have fx : σ'[i]? = some vs[i]? := k'.fx i (by simp [actOf, hi])
          rw [h2] at fx
          unfold outOf at ho
          rw [hi] at ho
          simp only at ho
          split at ho
          · rename_i t q
            cases ho
            obtain ⟨c, u'⟩ := t
            cases c with
            | true => exact nr ⟨i, u', q, fx⟩
            | false => exact hx ⟨rfl, rfl⟩
          · cases ho
        · exact l
  | ex e r =>
    intro σ'
    cases ho : outOf as r with
    | none => simp only [ho] at hm
    | some out =>
      simp only [ho] at hm
      cases e with
      | obj c fs => exact fun G' H' C dx xs k' _ hC hd hF => hm G' H' C dx xs (act_post ar l1 k' ho) hC hd hF
      | _ => exact hm
end
end M
/-! MP5: statements. -/
namespace M
open PySem L2

def seq (f g : SF) : SF := fun r => match f r with
  | .nx r' => g r'
  | x => x
def skip : SF := fun r => .nx r
def brk : SF := fun r => .bk r
def cont : SF := fun r => .ct r
/-- never run -/
def never : SF := fun _ => .bad
def asg (i : Nat) (f : EF) : SF := fun r => match f r with
  | .ok o v r' => .nx (r'.set i (some (o, v)))
  | .ex e r' => .ex e r'
  | .bad => .bad
def drop (f : EF) : SF := fun r => match f r with
  | .ok _ _ r' => .nx r'
  | .ex e r' => .ex e r'
  | .bad => .bad
def ret (f : EF) : SF := fun r => match f r with
  | .ok o v r' => .rt o v r'
  | .ex e r' => .ex e r'
  | .bad => .bad
def ifS (c : BF) (f g : SF) : SF := fun r => match c r with
  | .ok true r' => f r'
  | .ok false r' => g r'
  | .ex e r' => .ex e r'
  | .bad => .bad
def whl (c : BF) (b : SF) : Nat → SF
  | 0 => fun _ => .bad
  | n + 1 => fun r => match c r with
    | .ok true r1 => match b r1 with
      | .nx r2 => whl c b n r2
      | .ct r2 => whl c b n r2
      | .bk r2 => .nx r2
      | x => x
    | .ok false r1 => .nx r1
    | .ex e r1 => .ex e r1
    | .bad => .bad
/-- x op= e, ints -/
def aug (i : Nat) (P : Int → Int → Int) (f : EF) : SF := fun r => match r[i]? with
  | some (some (false, .int a)) => match f r with
    | .ok _ v r' => match v with
      | .int b => .nx (r'.set i (some (false, .int (P a b))))
      | _ => .bad
    | .ex e r' => .ex e r'
    | .bad => .bad
  | _ => .bad

section
variable {X : Cx} {A : Act} {W : WX} {e : Expr} {f g : SF} {fe : EF} {c : BF} {st : Stmt} {sts rest : List Stmt} {pos : Pos} {D : Ends} {σ : L2.St} {H : Hp}
theorem tSt_iff : tSt A W f D σ H ↔ ∃ r G, Ok A G H σ r ∧ Fin A W G D (f r) := Iff.rfl
theorem tSt_mk {r : Env} {G : Hp} (k : Ok A G H σ r) (m : Fin A W G D (f r)) : tSt A W f D σ H := tSt_iff.mpr ⟨r, G, k, m⟩
theorem seq_of (h : tSt A W (seq f g) D σ H) : tSeq (tSt A W f) (tSt A W g) D σ H := by
  obtain ⟨r, G, k, m⟩ := tSt_iff.mp h
  refine tSt_mk (D := { D with nx := tSt A W g D }) k ?_
  unfold seq at m
  cases hf : f r with
  | nx r' => rw [hf] at m; exact fun σ' G' H' k' l => tSt_mk k' (m.mono l)
  | _ => rw [hf] at m; exact m
theorem pss_nil' : PSs X [] (tSt A W skip) := PSs.imp pss_nil fun D σ H ⟨r, G, k, m⟩ => m σ G H k (Le.refl _)
theorem pss_cons' (h1 : PS X st (tSt A W f)) (h2 : PSs X rest (tSt A W g)) : PSs X (st :: rest) (tSt A W (seq f g)) := PSs.imp (pss_cons h1 h2) fun _ _ _ h => seq_of h
theorem pss_one' (h1 : PS X st (tSt A W f)) : PSs X [st] (tSt A W f) := pss_one h1
theorem ps_pass' : PS X (.Pass pos) (tSt A W skip) := PS.imp ps_pass fun D σ H ⟨r, G, k, m⟩ => m σ G H k (Le.refl _)
theorem ps_brk' : PS X (.Break pos) (tSt A W brk) := PS.imp ps_break fun D σ H ⟨r, G, k, m⟩ => m σ G H k (Le.refl _)
theorem ps_cont' : PS X (.Continue pos) (tSt A W cont) := PS.imp ps_continue fun D σ H ⟨r, G, k, m⟩ => m σ G H k (Le.refl _)
theorem ps_never' : PS X st (tSt A W never) := PS.imp ps_never fun D σ H ⟨r, G, k, m⟩ => m
theorem pss_never' : PSs X sts (tSt A W never) := PSs.imp pss_never fun D σ H ⟨r, G, k, m⟩ => m
theorem ps_doc' {x j} {pos' : Pos} : PS X (.Expr (.Constant (.str x) j pos) pos') (tSt A W skip) := PS.imp ps_doc fun D σ H ⟨r, G, k, m⟩ => m σ G H k (Le.refl _)
theorem ps_drop' (he : PE X e (tE A W fe)) (hs : swapsWith e none pos.line X.env = pure false := by rfl) : PS X (.Expr e pos) (tSt A W (drop fe)) :=
  PS.imp (ps_expr he hs) fun D σ H ⟨r, G, k, m⟩ => ⟨r, G, k, by
    unfold drop at m
    cases hf : fe r with
    | bad => rw [hf] at m; exact m.elim
    | ex e r' => simp only [hf] at m ⊢; exact m σ
    | ok o v r' => simp only [hf] at m ⊢; exact fun x G' H' R => m σ G' H' R.ok R.st.ex⟩
theorem ps_ret' (he : PE X e (tE A W fe)) : PS X (.Return (some e) pos) (tSt A W (ret fe)) :=
  PS.imp (ps_ret he) fun D σ H ⟨r, G, k, m⟩ => ⟨r, G, k, by
    unfold ret at m
    cases hf : fe r with
    | bad => rw [hf] at m; exact m.elim
    | ex e r' => simp only [hf] at m ⊢; exact m σ
    | ok o v r' => simp only [hf] at m ⊢; exact fun x G' H' R => m x σ G' H' R.ok R.st.ex R.tr⟩
theorem ps_retN' : PS X (.Return none pos) (tSt A W (ret (cst .non))) := PS.imp ps_retN fun D σ H ⟨r, G, k, m⟩ => m .non σ G H k (Le.refl _) (trep_f (rep_non.mpr rfl))
/-- the value goes to slot i -/
theorem Ok.store {G : Hp} {r : Env} {o : Bool} {v : Val} {x : V} {i : Nat} (k : Ok A G H σ r) (t : TRep A G H σ r o v x) (hi : i ∉ A.io) : Ok A G H (σ.set i (some x)) (r.set i (some (o, v))) := by
  have σ_at : ∀ {j : Nat} {s : Option V}, (σ.set i (some x))[j]? = some s → (j = i ∧ s = some x) ∨ (j ≠ i ∧ σ[j]? = some s) := fun {j s} h => by
    by_cases q : i = j
    · subst q
      by_cases l : i < σ.length
      · rw [List.getElem?_set_self l] at h; cases h; exact .inl ⟨rfl, rfl⟩
      · rw [List.getElem?_eq_none (by simpa using l)] at h; cases h
    · rw [List.getElem?_set_ne q] at h
      exact .inr ⟨fun z => q z.symm, h⟩
  have there : ∀ {j : Nat}, j ≠ i → (σ.set i (some x))[j]? = σ[j]? := fun {j} h => List.getElem?_set_ne (Ne.symm h)
  have here : ∀ {t : Bool × Val}, (r.set i (some (o, v)))[i]? = some (some t) → (σ.set i (some x))[i]? = some (some x) := fun {t} h => by
    refine List.getElem?_set_self ?_
    have := (List.getElem?_eq_some_iff.mp h).1
    rw [List.length_set] at this
    rw [k.len]; exact this
  refine ⟨k.ex0, k.gr0, k.fr0, k.sub, by rw [List.length_set, List.length_set]; exact k.len, fun j w h => ?_, fun j w h => ?_, fun p q v' w' b h1 h2 h3 h4 => ?_, fun j hj => ?_⟩
  · rcases set_some h rfl with ⟨e1, e2⟩ | ⟨e1, e2⟩
    · subst e1; cases e2; exact ⟨x, here h, t⟩
    · obtain ⟨y, e, q⟩ := k.fz j w e2; exact ⟨y, by rw [there e1]; exact e, q⟩
  · rcases set_some h rfl with ⟨e1, e2⟩ | ⟨e1, e2⟩
    · subst e1; cases e2
      obtain ⟨a, e, ro, n, _, l⟩ := t
      subst e
      exact ⟨a, here h, ro, n, l⟩
    · obtain ⟨b, e, q, nb, lb⟩ := k.ow j w e2; exact ⟨b, by rw [there e1]; exact e, q, nb, lb⟩
  · have nr : ∀ {j : Nat} {w : Val} {b : Addr}, j ≠ i → r[j]? = some (some (true, w)) → σ[j]? = some (some (.ref b)) → o = true → x = .ref b → False := fun {j w b} hj h h' eo ex => by
      subst eo; subst ex
      obtain ⟨a, e, _, _, nr, _⟩ := t
      cases e
      exact nr ⟨j, w, h, h'⟩
    rcases set_some h1 rfl with ⟨e1, e2⟩ | ⟨e1, e2⟩
    · cases e2
      rcases set_some h2 rfl with ⟨e3, e4⟩ | ⟨e3, e4⟩
      · rw [e1, e3]
      · exfalso
        rw [there e3] at h4
        subst e1
        rw [here h1] at h3
        cases h3
        exact nr e3 e4 h4 rfl rfl
    · rcases set_some h2 rfl with ⟨e3, e4⟩ | ⟨e3, e4⟩
      · exfalso
        cases e4
        rw [there e1] at h3
        subst e3
        rw [here h2] at h4
        cases h4
        exact nr e1 e2 h3 rfl rfl
      · rw [there e1] at h3; rw [there e3] at h4
        exact k.sep p q v' w' b e2 e4 h3 h4
  · have : j ≠ i := fun z => hi (z ▸ hj)
    rw [there this]; exact k.fx j hj
theorem ps_asg' {i : Nat} {x : Str} {pos' : Pos} (hN : X.N.Nodup) (hi : X.N[i]? = some x) (hx : Loc X.env.scope x) (he : PE X e (tE A W fe)) (hio : i ∉ A.io) (hs : swapsWith e (some (.Name x pos')) pos.line X.env = pure false := by rfl)
    (hf : X.fn x = true ∨ X.env.scope.names.lookup x = some .local := by first | exact .inl rfl | exact .inr rfl | assumption) : PS X (.Assign [.Name x pos'] e pos) (tSt A W (asg i fe)) :=
  PS.imp (ps_set hN hi hx he hs hf) fun D σ H ⟨r, G, k, m⟩ => ⟨r, G, k, by
    unfold asg at m
    cases hf : fe r with
    | bad => rw [hf] at m; exact m.elim
    | ex e r' => simp only [hf] at m ⊢; exact m σ
    | ok o v r' => simp only [hf] at m ⊢; exact fun x G' H' R => m _ G' H' (R.ok.store R.tr hio) R.st.ex⟩
theorem ps_if' {t : Expr} {a b : List Stmt} (hc : PT X t (tBo A W c)) (ha : PSs X a (tSt A W f)) (hb : PSs X b (tSt A W g)) : PS X (.If t a b pos) (tSt A W (ifS c f g)) :=
  PS.imp (ps_if hc ha hb) fun D σ H h => by
    obtain ⟨r, G, k, m⟩ := tSt_iff.mp h
    refine ⟨r, G, k, ?_⟩
    unfold ifS at m
    rcases hf : c r with ⟨_ | _, r1⟩ | _ | _
    · simp only [hf] at m ⊢
      intro G1 H1 k1 st1
      simp only [Bool.false_eq_true, if_false]
      exact tSt_mk k1 (m.mono st1.ex)
    · simp only [hf] at m ⊢
      intro G1 H1 k1 st1
      simp only [if_true]
      exact tSt_mk k1 (m.mono st1.ex)
    · simp only [hf] at m ⊢; exact m σ
    · simp only [hf] at m; exact m.elim
theorem ps_whl' {t : Expr} {body : List Stmt} (hp : PassesOwn (model X.prog X.w) X.A X.env X.xe) (hc : PT X t (tBo A W c)) (hb : PSs X body (tSt A W f)) (n : Nat) : PS X (.While t body [] pos) (tSt A W (whl c f n)) := by
  refine PS.imp (ps_while hp hc hb) fun D σ H h => ⟨fun m σ H => tSt A W (whl c f m) D σ H, ⟨n, h⟩, fun m σ H h => ?_⟩
  obtain ⟨r, G, k, q⟩ := tSt_iff.mp h
  refine ⟨r, G, k, ?_⟩
  cases m with
  | zero => exact q.elim
  | succ m =>
    rw [whl] at q
    rcases hf : c r with ⟨_ | _, r1⟩ | _ | _
    · simp only [hf] at q ⊢
      intro G1 H1 k1 st1
      simp only [Bool.false_eq_true, if_false]
      exact q _ _ _ k1 st1.ex
    · simp only [hf] at q ⊢
      intro G1 H1 k1 st1
      simp only [if_true]
      refine ⟨tSt A W (whl c f m) D, fun σ' H' h' => ⟨m, Nat.lt_succ_self m, h'⟩, ?_⟩
      refine tSt_mk k1 (Fin.mono st1.ex ?_)
      cases hg : f r1 with
      | nx r2 => simp only [hg] at q; exact fun σ' G' H' k' l => tSt_mk k' (q.mono l)
      | ct r2 => simp only [hg] at q; exact fun σ' G' H' k' l => tSt_mk k' (q.mono l)
      | bk r2 => simp only [hg] at q; exact q
      | rt o v r2 => simp only [hg] at q; exact q
      | ex e r2 => simp only [hg] at q; exact q
      | bad => simp only [hg] at q; exact q
    · simp only [hf] at q ⊢; exact q σ
    · simp only [hf] at q; exact q.elim
theorem ps_aug' {i : Nat} {x : Str} {op : Operator} {P : Int → Int → Int} {pos' : Pos} (hN : X.N.Nodup) (hi : X.N[i]? = some x) (hx : Loc X.env.scope x) (he : PE X e (tE A W fe)) (ho : PIp X op (ipI P)) (hio : i ∉ A.io)
    (hf : X.fn x = true ∨ X.env.scope.names.lookup x = some .local := by first | exact .inl rfl | exact .inr rfl | assumption) : PS X (.AugAssign (.Name x pos') op e pos) (tSt A W (aug i P fe)) :=
  PS.imp (ps_aug hN hi hx he ho hf) fun D σ H h => by
    obtain ⟨r, G, k, m⟩ := tSt_iff.mp h
    rcases q : r[i]? with _ | _ | ⟨_ | _, v⟩
    · simp only [aug, q] at m; exact m.elim
    · simp only [aug, q] at m; exact m.elim
    · cases v with
      | int a =>
        simp only [aug, q] at m
        obtain ⟨y, e1, e2⟩ := k.fz i _ q
        rw [rep_int] at e2; subst e2
        refine ⟨.int a, e1, r, G, k, ?_⟩
        cases hf : fe r with
        | bad => simp only [hf] at m; exact m.elim
        | ex e r' => simp only [hf] at m ⊢; exact m σ
        | ok o v r' =>
          simp only [hf] at m ⊢
          intro y G' H' R
          cases v with
          | int b =>
            have ey : y = .int b := by
              have t := R.tr
              cases o with
              | true => obtain ⟨_, _, ro, _⟩ := t; exact ro.elim
              | false => exact rep_int.mp (show Rep A.w G' (.int b) y from t)
            exact ⟨a, b, rfl, ey, m _ G' H' (R.ok.store (o := false) (v := .int (P a b)) (x := .int (P a b)) (trep_f (rep_int.mpr rfl)) hio) R.st.ex⟩
          | _ => exact m.elim
      | _ => simp only [aug, q] at m; exact m.elim
    · cases v <;> (simp only [aug, q] at m; exact m.elim)
end
end M
/-! MP6: what is walked, targets, for, list comprehensions. -/
namespace M
open PySem L2

/-! ### what is walked -/
inductive IR where
  | ok (vs : List Val) (r : Env) | ex (e : Val) (r : Env) | bad
abbrev IF := Env → IR
/-- the walk J yields the items, whatever happens to what is owned -/
structure ItOk (w : Wd) (J : It) (G0 : Hp) (vs : List Val) : Prop where
  go : ∀ G H i, Le G0 G → Le G H → i < vs.length → J.go i H
  stop : ∀ G H i, Le G0 G → Le G H → vs.length ≤ i → J.stop i H
  yld : ∀ G H i v x H', Le G0 G → Le G H → vs[i]? = some v → J.yld i H x H' → ∃ G', Grow G H G' H' ∧ Rep w G' v x
def tIt (A : Act) (W : WX) (f : IF) : TI := fun σ H R => ∃ r G, Ok A G H σ r ∧ match f r with
  | .ok vs r' => ∀ J G' H', Ok A G' H' σ r' → Step σ r G H r' G' H' → ItOk A.w J G' vs → R J H'
  | .ex e r' => ExP A W G σ e r'
  | .bad => False
theorem PI.imp {X : Cx} {tg e : Expr} {t t' : TI} (h : PI X tg e t) (hi : ∀ σ H R, t' σ H R → t σ H R) : PI X tg e t' := ⟨fun pins s σ H R I q => h.run pins s σ H R I (hi _ _ _ q)⟩

/-! ### targets -/
abbrev TF := Val → Env → Option Env
/-- the target's slots -/
def tTg (A : Act) (sl : List Nat) (t : TF) : TG := fun x σ H Q => ∃ r G v, Ok A G H σ r ∧ Rep A.w G v x ∧ match t v r with
  | some r' => ∀ σ', Ok A G H σ' r' → (∀ j, j ∉ sl → σ'[j]? = σ[j]?) → σ'.length = σ.length → Q σ' H
  | none => False
def tTgs (A : Act) (sl : List Nat) (t : List Val → Env → Option Env) : TGs := fun xs σ H Q => ∃ r G vs, Ok A G H σ r ∧ Reps A.w G vs xs ∧ match t vs r with
  | some r' => ∀ σ', Ok A G H σ' r' → (∀ j, j ∉ sl → σ'[j]? = σ[j]?) → σ'.length = σ.length → Q σ' H
  | none => False
def tgN (i : Nat) : TF := fun v r => some (r.set i (some (false, v)))
def tgNil : List Val → Env → Option Env := fun vs r => match vs with
  | [] => some r
  | _ => none
def tgCons (t : TF) (u : List Val → Env → Option Env) : List Val → Env → Option Env := fun vs r => match vs with
  | v :: vs => match t v r with
    | some r1 => u vs r1
    | none => none
  | [] => none
def tgT (u : List Val → Env → Option Env) : TF := fun v r => match v with
  | .tup vs => u vs r
  | _ => none
section
variable {X : Cx} {A : Act} {pos : Pos}
theorem PG.imp {e : Expr} {t t' : TG} (h : PG X e t) (hi : ∀ v σ H Q, t' v σ H Q → t v σ H Q) : PG X e t' := ⟨fun pins s σ H v u Q I r q => h.run pins s σ H v u Q I r (hi _ _ _ _ q)⟩
theorem PGs.imp {e : List Expr} {t t' : TGs} (h : PGs X e t) (hi : ∀ v σ H Q, t' v σ H Q → t v σ H Q) : PGs X e t' := ⟨fun pins s σ H v u Q I r q => h.run pins s σ H v u Q I r (hi _ _ _ _ q)⟩
theorem pg_N {i : Nat} {x : Str} (hN : X.N.Nodup) (hi : X.N[i]? = some x) (hx : Loc X.env.scope x) (hio : i ∉ A.io) (hf : X.fn x = true ∨ X.env.scope.names.lookup x = some .local := by first | exact .inl rfl | exact .inr rfl | assumption) : PG X (.Name x pos) (tTg A [i] (tgN i)) :=
  PG.imp (pg_name hN hi hx hf) fun x σ H Q ⟨r, G, v, k, rp, m⟩ => by
    refine m _ (k.store (o := false) rp hio) (fun j hj => ?_) (by simp)
    exact List.getElem?_set_ne (fun z => hj (by simp [z]))
theorem pgs_Nil : PGs X [] (tTgs A [] tgNil) := PGs.imp pgs_nil fun xs σ H Q ⟨r, G, vs, k, rp, m⟩ => by
  cases vs with
  | nil => exact ⟨reps_nil.mp rp, m σ k (fun _ _ => rfl) rfl⟩
  | cons v vs => exact m.elim
theorem pgs_Cons {e : Expr} {es : List Expr} {sl sl' : List Nat} {t : TF} {u : List Val → Env → Option Env} (h1 : PG X e (tTg A sl t)) (h2 : PGs X es (tTgs A sl' u))
    (hs : (assignEach (e :: es) X.env).map (·.2) = assign e X.env :: (assignEach es X.env).map (·.2) := by rfl) : PGs X (e :: es) (tTgs A (sl ++ sl') (tgCons t u)) :=
  PGs.imp (pgs_cons h1 h2 hs) fun xs σ H Q ⟨r, G, vs, k, rp, m⟩ => by
    cases vs with
    | nil => exact m.elim
    | cons v vs =>
      obtain ⟨y, ys, e, r1, r2⟩ := reps_cons.mp rp
      refine ⟨y, ys, e, r, G, v, k, r1, ?_⟩
      simp only [tgCons] at m
      cases ht : t v r with
      | none => simp only [ht] at m
      | some r' =>
        simp only [ht] at m ⊢
        intro σ1 k1 hj1 hl1
        refine ⟨r', G, vs, k1, r2, ?_⟩
        cases hu : u vs r' with
        | none => simp only [hu] at m
        | some r'' =>
          simp only [hu] at m ⊢
          intro σ2 k2 hj2 hl2
          refine m σ2 k2 (fun j hj => ?_) (hl2.trans hl1)
          rw [List.mem_append, not_or] at hj
          rw [hj2 j hj.2, hj1 j hj.1]
theorem pg_T {es : List Expr} {k0 : Nat} {sl : List Nat} {u : List Val → Env → Option Env} {n : Nat} (hc : X.calm = true) (hw : A.w.K = X.K) (h : PGs X es (tTgs A sl u)) (hl : ∀ vs r r', u vs r = some r' → vs.length = n)
    (hn : (assignEach es X.env).length = n := by rfl) (hst : (assignEach es X.env).findIdx? (·.1) = none := by rfl) : PG X (.Tuple es k0 pos) (tTg A sl (tgT u)) :=
  PG.imp (pg_tup hc h hn hst) fun x σ H Q ⟨r, G, v, k, rp, m⟩ => by
    cases v with
    | tup vs =>
      obtain ⟨a, xs, e, q, rs⟩ := rep_tup.mp rp
      cases hu : u vs r with
      | none => simp only [tgT, hu] at m
      | some r' =>
        refine ⟨a, xs, e, ?_, by rw [← reps_length rs]; exact hl vs r r' hu, r, G, vs, k, rs, ?_⟩
        · rw [← hw]; exact sqt_mono k.sub q
        · simp only [tgT, hu] at m ⊢
          exact m
    | _ => exact m.elim
end

/-! ### for -/
def forL (t : TF) (b : SF) : List Val → SF
  | [] => fun r => .nx r
  | v :: vs => fun r => match t v r with
    | some r1 => match b r1 with
      | .nx r2 => forL t b vs r2
      | .ct r2 => forL t b vs r2
      | .bk r2 => .nx r2
      | x => x
    | none => .bad
def forS (fi : IF) (t : TF) (b : SF) : SF := fun r => match fi r with
  | .ok vs r1 => forL t b vs r1
  | .ex e r1 => .ex e r1
  | .bad => .bad
section
variable {X : Cx} {A : Act} {W : WX} {tg it : Expr} {body : List Stmt} {pos : Pos} {fi : IF} {t : TF} {sl : List Nat} {f : SF}
theorem ps_for' (hp : PassesOwn (model X.prog X.w) X.A X.env X.xe) (hc : X.calm = true) (hi : PI X tg it (tIt A W fi)) (hg : PG X tg (tTg A sl t)) (hb : PSs X body (tSt A W f))
    (hs : ∀ x, foldedSetIterable it X.env x = pure x := by intro _; rfl) : PS X (.For tg it body [] pos) (tSt A W (forS fi t f)) := by
  refine PS.imp (ps_for hp hc hi hg hb hs) fun D σ H h => ?_
  obtain ⟨r, G, k, m⟩ := tSt_iff.mp h
  refine ⟨r, G, k, ?_⟩
  unfold forS at m
  cases hf : fi r with
  | bad => rw [hf] at m; exact m.elim
  | ex e r' => rw [hf] at m; exact m σ
  | ok vs r1 =>
    simp only [hf] at m ⊢
    intro J G1 H1 k1 st1 io
    refine ⟨fun i n σ' H' => ∃ r' G', i ≤ vs.length ∧ n = vs.length - i ∧ Le G1 G' ∧ Ok A G' H' σ' r' ∧ Fin A W G1 D (forL t f (vs.drop i) r'), ⟨vs.length, r1, G1, Nat.zero_le _, rfl, Le.refl _, k1, by simpa using m.mono st1.ex⟩, ?_⟩
    rintro i n σ' H' ⟨r', G', hi', hn, le, k', m'⟩
    by_cases hlt : i < vs.length
    · refine .inr ⟨io.go G' H' i le k'.sub hlt, fun σ2 H2 => ∃ r2 G2, Le G1 G2 ∧ Ok A G2 H2 σ2 r2 ∧ Fin A W G1 D (forL t f (vs.drop (i + 1)) r2), fun σ2 H2 ⟨r2, G2, q1, q2, q3⟩ => ⟨vs.length - (i + 1), by omega, r2, G2, hlt, rfl, q1, q2, q3⟩, fun x H2 hy => ?_⟩
      have ev : vs[i]? = some vs[i] := by simp [hlt]
      obtain ⟨G2, gr, rp⟩ := io.yld G' H' i vs[i] x H2 le k'.sub ev hy
      refine ⟨r', G2, vs[i], k'.grow gr, rp, ?_⟩
      rw [List.drop_eq_getElem_cons hlt, forL] at m'
      cases ht : t vs[i] r' with
      | none => simp only [ht] at m'; exact m'.elim
      | some r2 =>
        simp only [ht] at m' ⊢
        intro σ2 k2 _ _
        refine tSt_mk k2 ?_
        have l12 : Le G1 G2 := le.trans gr.g
        cases hb' : f r2 with
        | bad => simp only [hb'] at m'; exact m'.elim
        | ex e r3 => simp only [hb'] at m'; exact m'.mono l12
        | rt o v r3 => simp only [hb'] at m'; exact m'.mono l12
        | bk r3 => simp only [hb'] at m'; exact m'.mono l12
        | nx r3 =>
          simp only [hb'] at m'
          exact fun σ3 G3 H3 k3 l3 => ⟨r3, G3, l12.trans l3, k3, m'⟩
        | ct r3 =>
          simp only [hb'] at m'
          exact fun σ3 G3 H3 k3 l3 => ⟨r3, G3, l12.trans l3, k3, m'⟩
    · have e : i = vs.length := by omega
      subst e
      rw [List.drop_length] at m'
      exact .inl ⟨io.stop G' H' _ le k'.sub (Nat.le_refl _), m' σ' G' H' k' le⟩
end
end M
/-! MP7: list comprehensions. -/
namespace M
open PySem L2

def wipeR (r : Env) : List Nat → Env
  | [] => r
  | v :: vs => (wipeR r vs).set v none
def restR (r0 r : Env) : List Nat → Env
  | [] => r
  | v :: vs => (restR r0 r vs).set v ((r0[v]?).getD none)
def yesB : BF := fun r => .ok true r
def lcL (t : TF) (c : BF) (f : EF) (sl : List Nat) : List Val → List Val → Env → AR
  | [], acc, r => .ok acc r
  | v :: vs, acc, r => match t v r with
    | some r1 => match c r1 with
      | .ok true r2 => match frz f r2 with
        | .ok _ y r3 => if acc.length < 100000 then lcL t c f sl vs (acc ++ [y]) (wipeR r3 sl) else .bad
        | _ => .bad
      | .ok false r2 => lcL t c f sl vs acc (wipeR r2 sl)
      | _ => .bad
    | none => .bad
def lc (fi : IF) (t : TF) (c : BF) (f : EF) (sl : List Nat) : EF := fun r => match fi r with
  | .ok vs r1 => match lcL t c f sl vs [] (wipeR r1 sl) with
    | .ok ys r2 => .ok true (.lst ys) (restR r1 r2 sl)
    | _ => .bad
  | .ex e r1 => .ex e r1
  | .bad => .bad

theorem wipeR_length (r : Env) : ∀ sl : List Nat, (wipeR r sl).length = r.length
  | [] => rfl
  | v :: vs => by simp [wipeR, wipeR_length r vs]
theorem restR_length (r0 r : Env) : ∀ sl : List Nat, (restR r0 r sl).length = r.length
  | [] => rfl
  | v :: vs => by simp [restR, restR_length r0 r vs]
theorem wipeR_out (r : Env) {j : Nat} : ∀ {sl : List Nat}, j ∉ sl → (wipeR r sl)[j]? = r[j]?
  | [], _ => rfl
  | v :: vs, h => by
    simp only [List.mem_cons, not_or] at h
    rw [wipeR, List.getElem?_set_ne (Ne.symm h.1)]; exact wipeR_out r h.2
theorem wipeR_in (r : Env) {j : Nat} {t : Bool × Val} : ∀ {sl : List Nat}, j ∈ sl → (wipeR r sl)[j]? ≠ some (some t)
  | [], h => by simp at h
  | v :: vs, h => by
    rw [wipeR]
    intro e
    rcases set_some e rfl with ⟨e1, e2⟩ | ⟨e1, e2⟩
    · cases e2
    · exact wipeR_in r ((List.mem_cons.mp h).resolve_left e1) e2
theorem wipeR_some {r : Env} {j : Nat} {t : Bool × Val} {sl : List Nat} (h : (wipeR r sl)[j]? = some (some t)) : j ∉ sl ∧ r[j]? = some (some t) := by
  by_cases q : j ∈ sl
  · exact absurd h (wipeR_in r q)
  · rw [wipeR_out r q] at h; exact ⟨q, h⟩
theorem restR_out (r0 r : Env) {j : Nat} : ∀ {sl : List Nat}, j ∉ sl → (restR r0 r sl)[j]? = r[j]?
  | [], _ => rfl
  | v :: vs, h => by
    simp only [List.mem_cons, not_or] at h
    rw [restR, List.getElem?_set_ne (Ne.symm h.1)]; exact restR_out r0 r h.2
theorem restR_in (r0 r : Env) {j : Nat} {t : Bool × Val} : ∀ {sl : List Nat}, j ∈ sl → (restR r0 r sl)[j]? = some (some t) → r0[j]? = some (some t)
  | [], h, _ => by simp at h
  | v :: vs, h, e => by
    rw [restR] at e
    rcases set_some e rfl with ⟨e1, e2⟩ | ⟨e1, e2⟩
    · subst e1
      cases q : r0[j]? with
      | none => rw [q] at e2; cases e2
      | some s => rw [q] at e2; rw [← e2]; rfl
    · exact restR_in r0 r ((List.mem_cons.mp h).resolve_left e1) e2
theorem wipe_in' {σ : L2.St} {j : Nat} {x : V} {sl : List Nat} (h : j ∈ sl) : (wipe σ sl)[j]? ≠ some (some x) := fun e => (wipe_some e).2 h
theorem wipe_eq {σ σ2 : L2.St} {sl sl' : List Nat} (hs : ∀ j ∈ sl', j ∈ sl) (h : ∀ j, j ∉ sl' → σ2[j]? = (wipe σ sl)[j]?) (hl : σ2.length = (wipe σ sl).length) : wipe σ2 sl = wipe σ sl := by
  have at_in : ∀ (τ : L2.St) {j : Nat} {sl : List Nat}, j ∈ sl → j < τ.length → (wipe τ sl)[j]? = some none := by
    intro τ j sl
    induction sl with
    | nil => intro h; simp at h
    | cons v vs ih =>
      intro h hj
      rw [wipe]
      by_cases e : v = j
      · subst e; rw [List.getElem?_set_self]; rw [wipe_length]; exact hj
      · rw [List.getElem?_set_ne e]
        exact ih ((List.mem_cons.mp h).resolve_left fun z => e z.symm) hj
  apply List.ext_getElem?
  intro j
  by_cases q : j ∈ sl
  · by_cases l : j < σ.length
    · rw [at_in σ q l, at_in σ2 q (by rw [hl, wipe_length]; exact l)]
    · rw [List.getElem?_eq_none (by rw [wipe_length, hl, wipe_length]; omega), List.getElem?_eq_none (by rw [wipe_length]; omega)]
  · rw [wipe_out q, h j fun z => q (hs j z)]

/-- a target stores frozen values in its slots alone -/
def TOk (sl : List Nat) (t : TF) : Prop := ∀ v r r', t v r = some r' → (∀ j, j ∉ sl → r'[j]? = r[j]?) ∧ ∀ j ∈ sl, ∀ u, r'[j]? ≠ some (some (true, u))
def TsOk (sl : List Nat) (t : List Val → Env → Option Env) : Prop := ∀ v r r', (∀ j ∈ sl, True) → t v r = some r' → (∀ j, j ∉ sl → r'[j]? = r[j]?) ∧ ∀ j ∈ sl, ∀ u, r'[j]? ≠ some (some (true, u))
theorem tok_N (i : Nat) : TOk [i] (tgN i) := fun v r r' h => by
  cases h
  refine ⟨fun j hj => List.getElem?_set_ne fun z => hj (by simp [z]), fun j hj u e => ?_⟩
  have : j = i := by simpa using hj
  subst this
  rcases set_some e rfl with ⟨_, e2⟩ | ⟨e1, _⟩
  · cases e2
  · exact e1 rfl
theorem tsok_nil : TsOk [] tgNil := fun v r r' _ h => by
  cases v with
  | nil => cases h; exact ⟨fun _ _ => rfl, fun j hj => by simp at hj⟩
  | cons _ _ => cases h
theorem tsok_cons {sl sl' : List Nat} {t : TF} {u : List Val → Env → Option Env} (h1 : TOk sl t) (h2 : TsOk sl' u) : TsOk (sl ++ sl') (tgCons t u) := fun v r r' _ h => by
  cases v with
  | nil => cases h
  | cons v vs =>
    simp only [tgCons] at h
    cases ht : t v r with
    | none => simp only [ht] at h; cases h
    | some r1 =>
      simp only [ht] at h
      obtain ⟨a1, b1⟩ := h1 v r r1 ht
      obtain ⟨a2, b2⟩ := h2 vs r1 r' (fun _ _ => trivial) h
      refine ⟨fun j hj => ?_, fun j hj w e => ?_⟩
      · rw [List.mem_append, not_or] at hj
        rw [a2 j hj.2, a1 j hj.1]
      · by_cases q : j ∈ sl'
        · exact b2 j q w e
        · rw [a2 j q] at e
          exact b1 j ((List.mem_append.mp hj).resolve_right q) w e
theorem tok_T {sl : List Nat} {u : List Val → Env → Option Env} (h : TsOk sl u) : TOk sl (tgT u) := fun v r r' e => by
  cases v with
  | tup vs => exact h vs r r' (fun _ _ => trivial) e
  | _ => cases e

section
variable {A : Act} {W : WX} {G H G' H' G1 H1 : Hp} {σ : L2.St} {r r1 r' : Env} {sl : List Nat}
theorem wipe_out' {j : Nat} (h : j ∉ sl) : (wipe σ sl)[j]? = σ[j]? := wipe_out h
theorem Ok.wipe (k : Ok A G H σ r) (hio : ∀ i ∈ A.io, i ∉ sl) : Ok A G H (wipe σ sl) (wipeR r sl) := by
  refine ⟨k.ex0, k.gr0, k.fr0, k.sub, by rw [wipe_length, wipeR_length]; exact k.len, fun i v h => ?_, fun i v h => ?_, fun i j v w a h1 h2 h3 h4 => ?_, fun i hi => by rw [wipe_out (hio i hi)]; exact k.fx i hi⟩
  · obtain ⟨n, h⟩ := wipeR_some h
    obtain ⟨x, e, q⟩ := k.fz i v h
    exact ⟨x, by rw [wipe_out n]; exact e, q⟩
  · obtain ⟨n, h⟩ := wipeR_some h
    obtain ⟨x, e, q⟩ := k.ow i v h
    exact ⟨x, by rw [wipe_out n]; exact e, q⟩
  · obtain ⟨n1, h1⟩ := wipeR_some h1
    obtain ⟨n2, h2⟩ := wipeR_some h2
    rw [wipe_out n1] at h3; rw [wipe_out n2] at h4
    exact k.sep i j v w a h1 h2 h3 h4
theorem rt_wipe {a : Addr} (h : Rt (wipeR r sl) (wipe σ sl) a) : Rt r σ a := by
  obtain ⟨i, v, h1, h2⟩ := h
  obtain ⟨n, h1⟩ := wipeR_some h1
  exact ⟨i, v, h1, by rw [wipe_out n] at h2; exact h2⟩
/-- back from a block: the slots of its own names are as they were -/
theorem Ok.unwipe (k : Ok A G H σ r) (k' : Ok A G' H' (L2.wipe σ sl) r') (st : Step (L2.wipe σ sl) (wipeR r sl) G H r' G' H') : Ok A G' H' σ (restR r r' sl) ∧ Step σ r G H (restR r r' sl) G' H' := by
  have out : ∀ {j : Nat} {a : Addr} {w : Val}, j ∉ sl → r'[j]? = some (some (true, w)) → σ[j]? = some (some (.ref a)) → ∃ (i : Nat) (v : Val), i ∉ sl ∧ r[i]? = some (some (true, v)) ∧ σ[i]? = some (some (.ref a)) := fun {j a w} n h1 h2 => by
    obtain ⟨i, v, h3, h4⟩ := st.rts a ⟨j, w, h1, by rw [wipe_out n]; exact h2⟩
    obtain ⟨n3, h3⟩ := wipeR_some h3
    exact ⟨i, v, n3, h3, by rw [wipe_out n3] at h4; exact h4⟩
  have nrt : ∀ {j : Nat} {a : Addr} {v : Val}, j ∈ sl → r[j]? = some (some (true, v)) → σ[j]? = some (some (.ref a)) → ¬ Rt (wipeR r sl) (L2.wipe σ sl) a := fun {j a v} hj h1 h2 ⟨i, w, h3, h4⟩ => by
    obtain ⟨n3, h3⟩ := wipeR_some h3
    rw [wipe_out n3] at h4
    exact n3 (k.sep j i v w a h1 h3 h2 h4 ▸ hj)
  refine ⟨⟨k'.ex0, k'.gr0, k'.fr0, k'.sub, by rw [restR_length, ← k'.len, wipe_length], fun i v h => ?_, fun i v h => ?_, fun i j v w a h1 h2 h3 h4 => ?_, k.fx⟩,
    st.ex, fun a o h n => st.keep a o h fun z => n (rt_wipe z), fun a h h' => (st.grow a h h').imp id rt_wipe, fun a ⟨i, v, h1, h2⟩ => ?_⟩
  · by_cases q : i ∈ sl
    · obtain ⟨x, e, rp⟩ := k.fz i v (restR_in r r' q h)
      exact ⟨x, e, rp.mono st.ex⟩
    · rw [restR_out r r' q] at h
      obtain ⟨x, e, rp⟩ := k'.fz i v h
      exact ⟨x, by rw [wipe_out q] at e; exact e, rp⟩
  · by_cases q : i ∈ sl
    · have h' := restR_in r r' q h
      obtain ⟨a, e, ro, n, l⟩ := k.ow i v h'
      have nr := nrt q h' e
      obtain ⟨u, hu, _⟩ := ro.has
      refine ⟨a, e, ro.mono st.ex fun o ho => st.keep a o ho nr, ?_, l⟩
      cases z : G' a with
      | none => rfl
      | some o =>
        rcases st.grow a n (by rw [z]; simp) with y | y
        · rw [hu] at y; cases y
        · exact absurd y nr
    · rw [restR_out r r' q] at h
      obtain ⟨a, e, ro, n, l⟩ := k'.ow i v h
      exact ⟨a, by rw [wipe_out q] at e; exact e, ro, n, l⟩
  · by_cases q1 : i ∈ sl
    · have h1' := restR_in r r' q1 h1
      by_cases q2 : j ∈ sl
      · exact k.sep i j v w a h1' (restR_in r r' q2 h2) h3 h4
      · rw [restR_out r r' q2] at h2
        obtain ⟨m, u, n, h5, h6⟩ := out q2 h2 h4
        exact absurd (k.sep i m v u a h1' h5 h3 h6 ▸ q1) n
    · rw [restR_out r r' q1] at h1
      by_cases q2 : j ∈ sl
      · have h2' := restR_in r r' q2 h2
        obtain ⟨m, u, n, h5, h6⟩ := out q1 h1 h3
        exact absurd (k.sep j m w u a h2' h5 h4 h6 ▸ q2) n
      · rw [restR_out r r' q2] at h2
        exact k'.sep i j v w a h1 h2 (by rw [wipe_out q1]; exact h3) (by rw [wipe_out q2]; exact h4)
  · by_cases q : i ∈ sl
    · exact ⟨i, v, restR_in r r' q h1, h2⟩
    · rw [restR_out r r' q] at h1
      obtain ⟨m, u, _, h5, h6⟩ := out q h1 h2
      exact ⟨m, u, h5, h6⟩
/-- a container that no slot owns is changed -/
theorem Ok.tmp {a : Addr} {o : HO} (k : Ok A G H σ r) (n : G a = none) (nr : ¬ Rt r σ a) (l : A.L a ∨ A.H0 a = none) : Ok A G (upd H a o) σ r where
  ex0 := k.ex0
  gr0 := k.gr0
  fr0 := fun b u h nl => by
    by_cases e : b = a
    · subst e
      rcases l with l | l
      · exact absurd l nl
      · rw [l] at h; cases h
    · rw [upd_ne e]; exact k.fr0 b u h nl
  sub := k.sub.updR n
  len := k.len
  fz := k.fz
  ow := fun i v h => by
    obtain ⟨b, e, q, nb, lb⟩ := k.ow i v h
    have ne : b ≠ a := fun z => nr ⟨i, v, h, by rw [e, z]⟩
    exact ⟨b, e, q.mono (Le.refl _) (fun o h => by rw [upd_ne ne]; exact h), nb, lb⟩
  sep := k.sep
  fx := k.fx
end

theorem lc_of {A : Act} {W : WX} {fi : IF} {t : TF} {c : BF} {f : EF} {sl st' : List Nat} {σ : L2.St} {H : Hp} {Q : VK} (tok : TOk st' t) (hs : ∀ j ∈ st', j ∈ sl) (hio : ∀ i ∈ A.io, i ∉ sl) (h : tE A W (lc fi t c f sl) σ H Q) :
    tLc (tIt A W fi) (tTg A st' t) (tBo A (fun _ _ _ _ => False) c) (tE A (fun _ _ _ _ => False) (frz f)) sl σ H Q := by
  obtain ⟨r, G, k, m⟩ := h
  refine ⟨r, G, k, ?_⟩
  unfold lc at m
  cases hf : fi r with
  | bad => rw [hf] at m; exact m.elim
  | ex e r' => rw [hf] at m; exact m
  | ok vs r1 =>
    simp only [hf] at m ⊢
    intro J G1 H1 k1 st1 io D hD
    have gr0 := Grow.laidH (o := .lst []) k1.sub hD
    have kw := (k1.wipe (sl := sl) hio).grow gr0
    let Fl : AR → Prop := fun a => match a with
      | .ok ys r2 => ∀ x G' H', Res A σ r G H (restR r1 r2 sl) G' H' true (.lst ys) x → Q x H'
      | _ => False
    have m0 : Fl (lcL t c f sl vs [] (wipeR r1 sl)) := by
      cases hL : lcL t c f sl vs [] (wipeR r1 sl) with
      | ok ys r2 => rw [hL] at m; exact m
      | ex e r2 => rw [hL] at m; exact m
      | bad => rw [hL] at m; exact m
    refine ⟨fun i n H' => ∃ r' G' acc ds, i ≤ vs.length ∧ n = vs.length - i ∧ Ok A G' H' (wipe σ sl) r' ∧ Step (wipe σ sl) (wipeR r1 sl) G1 H1 r' G' H' ∧ H' D = some (.lst acc) ∧ Reps A.w G' ds acc ∧ G' D = none ∧ ¬ Rt r' (wipe σ sl) D ∧ Fl (lcL t c f sl (vs.drop i) ds r'),
      ⟨vs.length, wipeR r1 sl, G1, [], [], Nat.zero_le _, rfl, kw, gr0.step, upd_same, reps_nil.mpr rfl, k1.sub.back hD, (k1.wipe (sl := sl) hio).notRt hD, by simpa using m0⟩, ?_⟩
    rintro i n H2 ⟨r2, G2, acc, ds, hi, hn, k2, st2, hacc, hreps, hGD, hnr, hFl⟩
    have lD : A.L D ∨ A.H0 D = none := k1.fresh hD
    by_cases hlt : i < vs.length
    · refine .inr ⟨io.go G2 H2 i st2.ex k2.sub hlt, fun H' => ∃ r' G' acc ds, Ok A G' H' (wipe σ sl) r' ∧ Step (wipe σ sl) (wipeR r1 sl) G1 H1 r' G' H' ∧ H' D = some (.lst acc) ∧ Reps A.w G' ds acc ∧ G' D = none ∧ ¬ Rt r' (wipe σ sl) D ∧ Fl (lcL t c f sl (vs.drop (i + 1)) ds r'),
        fun H' ⟨r', G', acc, ds, q⟩ => ⟨vs.length - (i + 1), by omega, r', G', acc, ds, hlt, rfl, q⟩, fun x H3 hy => ?_⟩
      have ev : vs[i]? = some vs[i] := by simp [hlt]
      obtain ⟨G3, gr, rp⟩ := io.yld G2 H2 i vs[i] x H3 st2.ex k2.sub ev hy
      refine ⟨r2, G3, vs[i], k2.grow gr, rp, ?_⟩
      rw [List.drop_eq_getElem_cons hlt, lcL] at hFl
      cases ht : t vs[i] r2 with
      | none => simp only [ht] at hFl; exact hFl.elim
      | some r3 =>
        simp only [ht] at hFl ⊢
        intro σ2 k3 hj hl
        have hw := wipe_eq (σ := σ) (σ2 := σ2) hs hj hl
        obtain ⟨tk1, tk2⟩ := tok _ _ _ ht
        have rt3 : ∀ a, Rt r3 σ2 a → Rt r2 (wipe σ sl) a := fun a ⟨j, w, h1, h2⟩ => by
          by_cases q : j ∈ st'
          · exact absurd h1 (tk2 j q w)
          · exact ⟨j, w, by rw [← tk1 j q]; exact h1, by rw [← hj j q]; exact h2⟩
        have hacc3 : H3 D = some (.lst acc) := gr.h _ _ hacc
        have hGD3 : G3 D = none := by
          cases z : G3 D with
          | none => rfl
          | some o => have := gr.n D hGD (by rw [z]; simp); rw [hacc] at this; cases this
        have st3 := st2.trans gr.step
        -- from the target's state to the block's
        have conv : ∀ {r4 : Env} {G4 H4 : Hp}, Ok A G4 H4 σ2 r4 → Step σ2 r3 G3 H3 r4 G4 H4 → Ok A G4 H4 (wipe σ sl) (wipeR r4 sl) ∧ Step (wipe σ sl) (wipeR r1 sl) G1 H1 (wipeR r4 sl) G4 H4 ∧ H4 D = some (.lst acc) ∧ G4 D = none ∧ ¬ Rt (wipeR r4 sl) (wipe σ sl) D := fun {r4 G4 H4} k4 st4 => by
          have rt4 : ∀ a, Rt (wipeR r4 sl) (wipe σ sl) a → Rt r2 (wipe σ sl) a := fun a h => rt3 a (st4.rts a (by rw [← hw] at h; exact rt_wipe h))
          refine ⟨?_, st3.trans ⟨st4.ex, fun a o h n => st4.keep a o h fun z => n (rt3 a z), fun a h h' => (st4.grow a h h').imp id (rt3 a), rt4⟩, st4.keep D _ hacc3 fun z => hnr (rt3 D z), ?_, fun z => hnr (rt4 D z)⟩
          · have := k4.wipe (sl := sl) hio
            rw [hw] at this; exact this
          · cases z : G4 D with
            | none => rfl
            | some o =>
              rcases st4.grow D hGD3 (by rw [z]; simp) with y | y
              · rw [hacc3] at y; cases y
              · exact absurd (rt3 D y) hnr
        refine ⟨hw, r3, G3, k3, ?_⟩
        cases hc : c r3 with
        | bad => simp only [hc] at hFl; exact hFl.elim
        | ex e r4 => simp only [hc] at hFl; exact hFl.elim
        | ok b r4 =>
          simp only [hc] at hFl ⊢
          intro G4 H4 k4 st4
          cases b with
          | false =>
            simp only [Bool.false_eq_true, if_false]
            obtain ⟨c1, c2, c3, c4, c5⟩ := conv k4 st4
            exact ⟨_, G4, acc, ds, c1, c2, c3, hreps.mono (gr.g.trans st4.ex), c4, c5, hFl⟩
          | true =>
            simp only [if_true] at hFl ⊢
            refine ⟨r4, G4, k4, ?_⟩
            cases he : frz f r4 with
            | bad => simp only [he] at hFl; exact hFl.elim
            | ex e r5 => simp only [he] at hFl; exact hFl.elim
            | ok o y r5 =>
              have eo := frz_false he
              subst eo
              simp only [he] at hFl ⊢
              intro y' G5 H5 R5
              by_cases hz : ds.length < 100000
              case neg => rw [if_neg hz] at hFl; exact hFl.elim
              rw [if_pos hz] at hFl
              obtain ⟨c1, c2, c3, c4, c5⟩ := conv R5.ok (st4.trans R5.st)
              have le5 : Le G2 G5 := (gr.g.trans st4.ex).trans R5.st.ex
              refine ⟨acc, c3, by rw [← reps_length hreps]; exact Nat.lt_of_lt_of_le hz (by decide), _, G5, acc ++ [y'], ds ++ [y], c1.tmp c4 c5 lD, ⟨c2.ex, fun a o h nn => ?_, c2.grow, c2.rts⟩, upd_same, reps_append (hreps.mono le5) (reps_one R5.tr), c4, c5, hFl⟩
              have ne : a ≠ D := fun z => by subst z; rw [hD] at h; cases h
              rw [upd_ne ne]; exact c2.keep a o h nn
    · have e : i = vs.length := by omega
      subst e
      rw [List.drop_length, lcL] at hFl
      obtain ⟨k3, st3⟩ := k1.unwipe k2 st2
      refine .inl ⟨io.stop G2 H2 _ st2.ex k2.sub (Nat.le_refl _), ?_⟩
      refine hFl (.ref D) G2 H2 ⟨k3, st1.trans st3, trep_t (root_lst hacc hreps) hGD ?_ lD, fun _ a e => by cases e; exact st1.fresh hD⟩
      intro z
      rcases k1.rt (st3.rts D z) with ⟨⟨o, ho⟩, _⟩
      rw [hD] at ho; cases ho
end M
/-! MP8: operations on values. -/
namespace M
open PySem L2

/-- what is asked of a context -/
structure Cal (X : Cx) (w : Wd) : Prop where
  K : w.K = X.K
  calm : X.calm = true
  un : X.A.units + 100 < cLine
  gs : X.A.guards = some []

section
variable {w : Wd} {G H : Hp} {x y : V} {v : Val}
theorem rrep_non : RRep w G H .non x → x = .non := fun h => h.elim rep_non.mp fun ⟨_, _, r⟩ => r.elim
theorem rrep_bl {b : Bool} : RRep w G H (.bl b) x → x = .bl b := fun h => h.elim rep_bl.mp fun ⟨_, _, r⟩ => r.elim
theorem rrep_int {i : Int} : RRep w G H (.int i) x → x = .int i := fun h => h.elim rep_int.mp fun ⟨_, _, r⟩ => r.elim
theorem rrep_str {s : Str} : RRep w G H (.str s) x → x = .str s ∧ s.length ≤ sizeLine := fun h => h.elim rep_str.mp fun ⟨_, _, r⟩ => r.elim
theorem rrep_ty {n : String} : RRep w G H (.ty n) x → x = .ty n := fun h => h.elim rep_ty.mp fun ⟨_, _, r⟩ => r.elim
theorem rrep_tup {ds : List Val} (le : Le G H) : RRep w G H (.tup ds) x → ∃ a xs, x = .ref a ∧ SqT w.K H a xs ∧ Reps w G ds xs := fun h => h.elim (fun h => by
  obtain ⟨a, xs, e, q, r⟩ := rep_tup.mp h
  exact ⟨a, xs, e, sqt_mono le q, r⟩) fun ⟨_, _, r⟩ => r.elim
theorem rrep_lst {ds : List Val} (le : Le G H) : RRep w G H (.lst ds) x → ∃ a xs, x = .ref a ∧ H a = some (.lst xs) ∧ Reps w G ds xs := fun h => by
  rcases h with h | ⟨a, e, r⟩
  · obtain ⟨a, xs, e, q, r⟩ := rep_lst.mp h
    exact ⟨a, xs, e, le _ _ q, r⟩
  · obtain ⟨xs, q, r⟩ := r
    exact ⟨a, xs, e, q, r⟩
theorem rrep_dct {t : Bool} {ds : List (Val × Val)} (le : Le G H) : RRep w G H (.dct t ds) x → ∃ a, x = .ref a ∧ ((t = false ∧ ∃ kvs, Rd H a (.dK kvs) ∧ RepK w G ds kvs) ∨ (t = true ∧ ∃ kvs, Rd H a (.dT kvs) ∧ RepT w G ds kvs)) := fun h => by
  rcases h with h | ⟨a, e, r⟩
  · rw [Rep] at h
    obtain ⟨a, e, ⟨ht, kvs, o, q, r⟩ | ⟨ht, kvs, o, q, r⟩⟩ := h
    · exact ⟨a, e, .inl ⟨ht, kvs, .inr ⟨o, le _ _ q⟩, r⟩⟩
    · exact ⟨a, e, .inr ⟨ht, kvs, .inr ⟨o, le _ _ q⟩, r⟩⟩
  · obtain ⟨ht, kvs, q, r⟩ | ⟨ht, kvs, q, r⟩ := r
    · exact ⟨a, e, .inl ⟨ht, kvs, .inl q, r⟩⟩
    · exact ⟨a, e, .inr ⟨ht, kvs, .inl q, r⟩⟩
theorem rrep_scr {ns : List Int} (le : Le G H) : RRep w G H (.scr ns) x → ∃ a, x = .ref a ∧ SqL w.K H a (ns.map V.int) := fun h => by
  rcases h with h | ⟨a, e, r⟩
  · rw [Rep] at h; obtain ⟨a, e, q⟩ := h; exact ⟨a, e, sql_mono le q⟩
  · exact r.elim
theorem rreps_nil {xs : List V} : RReps w G H [] xs → xs = [] := id
theorem rreps_one {xs : List V} : RReps w G H [v] xs → ∃ x, xs = [x] ∧ RRep w G H v x := fun ⟨y, ys, e, r, t⟩ => by
  have t' : ys = [] := t
  subst t'; exact ⟨y, e, r⟩
theorem rreps_two {u : Val} {xs : List V} : RReps w G H [v, u] xs → ∃ x y, xs = [x, y] ∧ RRep w G H v x ∧ RRep w G H u y := fun ⟨y, ys, e, r, t⟩ => by
  obtain ⟨z, e2, r2⟩ := rreps_one t
  subst e2; exact ⟨y, z, e, r, r2⟩
theorem rreps_three {u t : Val} {xs : List V} : RReps w G H [v, u, t] xs → ∃ x y z, xs = [x, y, z] ∧ RRep w G H v x ∧ RRep w G H u y ∧ RRep w G H t z := fun ⟨y, ys, e, r, t⟩ => by
  obtain ⟨z, z2, e2, r2, r3⟩ := rreps_two t
  subst e2; exact ⟨y, z, z2, e, r, r2, r3⟩
end
theorem rreps_len {w : Wd} {G H : Hp} : ∀ {vs : List Val} {xs : List V}, RReps w G H vs xs → vs.length = xs.length
  | [], _, h => by have h' : _ = [] := h; subst h'; rfl
  | _ :: _, _, ⟨y, ys, e, _, t⟩ => by subst e; simp [rreps_len t]
end M
/-! MP9: operations on values: numbers, texts, lists, comparisons. -/
namespace M
open PySem L2

def repS (x : Str) (n : Nat) : Str := ⟨(List.replicate n x.cps.toList).flatten.toArray⟩
def Padd : List Val → Option (Bool × Val)
  | [.int i, .int j] => some (false, .int (i + j))
  | [.str s, .str t] => if s.length + t.length ≤ sizeLine then some (false, .str (s ++ t)) else none
  | [.lst xs, .lst ys] => if xs.length + ys.length ≤ 100000 then some (true, .lst (xs ++ ys)) else none
  | _ => none
def Psub : List Val → Option (Bool × Val)
  | [.int i, .int j] => some (false, .int (i - j))
  | _ => none
def mulOk (i j : Int) : Bool := decide ((-(2 ^ 64) < i ∧ i < 2 ^ 64) ∨ (-(2 ^ 64) < j ∧ j < 2 ^ 64))
def Pmul : List Val → Option (Bool × Val)
  | [.int i, .int j] => if mulOk i j then some (false, .int (i * j)) else none
  | [.str s, .int n] => if 0 ≤ n ∧ n ≤ 100000 ∧ s.length * n.toNat ≤ sizeLine then some (false, .str (repS s n.toNat)) else none
  | [.lst xs, .int n] => if 0 ≤ n ∧ n ≤ 100000 ∧ xs.length * n.toNat ≤ 100000 then some (true, .lst (List.replicate n.toNat xs).flatten) else none
  | _ => none
def Pmod : List Val → Option (Bool × Val)
  | [.int i, .int j] => if 0 < j then some (false, .int (i % j)) else none
  | _ => none
def Pdiv : List Val → Option (Bool × Val)
  | [.int i, .int j] => if 0 < j ∧ j < 1073741824 then some (false, .int (i / j)) else none
  | _ => none
def Ppow : List Val → Option (Bool × Val)
  | [.int i, .int j] => if 0 ≤ j ∧ j ≤ 1000 ∧ i.natAbs < 2 ^ 64 then some (false, .int (i ^ j.toNat)) else none
  | _ => none

theorem str_len_app (a b : Str) : (a ++ b).length = a.length + b.length := by
  show (a.cps ++ b.cps).size = _
  rw [Array.size_append]; rfl
theorem repS_fold (x : Str) (n : Nat) : (⟨(List.replicate n x.cps).foldl (· ++ ·) #[]⟩ : Str) = repS x n := by
  have : ∀ (n : Nat) (acc : Array Nat), (List.replicate n x.cps).foldl (· ++ ·) acc = acc ++ (List.replicate n x.cps.toList).flatten.toArray := by
    intro n
    induction n with
    | zero => intro acc; simp
    | succ n ih => intro acc; rw [List.replicate_succ, List.foldl_cons, ih, List.replicate_succ, List.flatten_cons]; apply Array.toList_inj.mp; simp
  unfold repS
  rw [this]; simp
theorem repS_length (x : Str) (n : Nat) : (repS x n).length = x.length * n := by
  unfold repS
  show (List.toArray _).size = _
  rw [List.size_toArray]
  induction n with
  | zero => simp
  | succ n ih =>
    rw [List.replicate_succ, List.flatten_cons, List.length_append, ih]
    show x.cps.toList.length + _ = _
    rw [Array.length_toList, Nat.mul_succ, Nat.add_comm]; rfl

section
variable {X : Cx} {w : Wd}
/-- a new list as the answer -/
theorem new_lst {G H : Hp} {p : Addr} {xs : List V} {ds : List Val} {Q : VK} (le : Le G H) (hp : H p = none) (rp : Reps w G ds xs)
    (q : ∀ u G' H', Grow G H G' H' → NRep w G H G' H' true (.lst ds) u → Q u H') : Q (.ref p) (upd H p (.lst xs)) :=
  q _ G _ (Grow.laidH le hp) ⟨_, rfl, root_lst upd_same rp, le.back hp, hp⟩
theorem reps_rep {G : Hp} {ds : List Val} {xs : List V} (q : Reps w G ds xs) : ∀ m : Nat, Reps w G (List.replicate m ds).flatten (List.replicate m xs).flatten
  | 0 => reps_nil.mpr rfl
  | m + 1 => by rw [List.replicate_succ, List.flatten_cons, List.replicate_succ, List.flatten_cons]; exact reps_append q (reps_rep q m)
theorem opr_add (c : Cal X w) : OpR X (binaryOp .Add) (r2Of w Padd) := by
  intro pins s σ H x y v u Q I rx ry ⟨G, vs, o, z, le, rr, hp, q⟩
  unfold Padd at hp
  split at hp
  · obtain ⟨_, _, e, r1, r2⟩ := rreps_two rr
    cases e; cases hp
    obtain rfl := rrep_int r1; obtain rfl := rrep_int r2
    exact op_add pins s σ H _ _ v u Q I rx ry ⟨_, _, rfl, rfl, q _ G H (Grow.refl le) (nrep_f (rep_int.mpr rfl))⟩
  · obtain ⟨_, _, e, r1, r2⟩ := rreps_two rr
    cases e
    split at hp
    · rename_i hz
      cases hp
      obtain ⟨rfl, h1⟩ := rrep_str r1; obtain ⟨rfl, h2⟩ := rrep_str r2
      exact op_add_str pins s σ H _ _ v u Q I rx ry ⟨_, _, rfl, rfl, hz, q _ G H (Grow.refl le) (nrep_f (rep_str.mpr ⟨rfl, by rw [str_len_app]; exact hz⟩))⟩
    · cases hp
  · obtain ⟨_, _, e, r1, r2⟩ := rreps_two rr
    cases e
    split at hp
    · rename_i hz
      cases hp
      obtain ⟨a, xs, rfl, s1, q1⟩ := rrep_lst le r1; obtain ⟨b, ys, rfl, s2, q2⟩ := rrep_lst le r2
      have hz' : xs.length + ys.length ≤ sizeLine := by rw [← reps_length q1, ← reps_length q2]; exact line_of hz
      exact op_cat pins s σ H _ _ v u Q I rx ry ⟨a, b, xs, ys, rfl, rfl, s1, s2, hz', fun p hp => new_lst le hp (reps_append q1 q2) q⟩
    · cases hp
  · cases hp
theorem opr_sub (c : Cal X w) : OpR X (binaryOp .Sub) (r2Of w Psub) := by
  intro pins s σ H x y v u Q I rx ry ⟨G, vs, o, z, le, rr, hp, q⟩
  unfold Psub at hp
  split at hp
  · obtain ⟨_, _, e, r1, r2⟩ := rreps_two rr
    cases e; cases hp
    obtain rfl := rrep_int r1; obtain rfl := rrep_int r2
    exact op_sub pins s σ H _ _ v u Q I rx ry ⟨_, _, rfl, rfl, q _ G H (Grow.refl le) (nrep_f (rep_int.mpr rfl))⟩
  · cases hp
theorem opr_mod (c : Cal X w) : OpR X (binaryOp .Mod) (r2Of w Pmod) := by
  intro pins s σ H x y v u Q I rx ry ⟨G, vs, o, z, le, rr, hp, q⟩
  unfold Pmod at hp
  split at hp
  · obtain ⟨_, _, e, r1, r2⟩ := rreps_two rr
    cases e
    split at hp
    · rename_i hj
      cases hp
      obtain rfl := rrep_int r1; obtain rfl := rrep_int r2
      exact op_mod pins s σ H _ _ v u Q I rx ry ⟨_, _, rfl, rfl, hj, q _ G H (Grow.refl le) (nrep_f (rep_int.mpr rfl))⟩
    · cases hp
  · cases hp
theorem opr_div (c : Cal X w) : OpR X (binaryOp .FloorDiv) (r2Of w Pdiv) := by
  intro pins s σ H x y v u Q I rx ry ⟨G, vs, o, z, le, rr, hp, q⟩
  unfold Pdiv at hp
  split at hp
  · obtain ⟨_, _, e, r1, r2⟩ := rreps_two rr
    cases e
    split at hp
    · rename_i hj
      cases hp
      obtain rfl := rrep_int r1; obtain rfl := rrep_int r2
      exact op_fdiv pins s σ H _ _ v u Q I rx ry ⟨_, _, rfl, rfl, hj, q _ G H (Grow.refl le) (nrep_f (rep_int.mpr rfl))⟩
    · cases hp
  · cases hp
theorem opr_pow (c : Cal X w) : OpR X (binaryOp .Pow) (r2Of w Ppow) := by
  intro pins s σ H x y v u Q I rx ry ⟨G, vs, o, z, le, rr, hp, q⟩
  unfold Ppow at hp
  split at hp
  · obtain ⟨_, _, e, r1, r2⟩ := rreps_two rr
    cases e
    split at hp
    · rename_i hj
      cases hp
      obtain rfl := rrep_int r1; obtain rfl := rrep_int r2
      exact op_pow pins s σ H _ _ v u Q I rx ry ⟨_, _, rfl, rfl, ⟨hj.1, Int.le_trans hj.2.1 (by decide), hj.2.2⟩, q _ G H (Grow.refl le) (nrep_f (rep_int.mpr rfl))⟩
    · cases hp
  · cases hp
theorem opr_mul (c : Cal X w) : OpR X (binaryOp .Mult) (r2Of w Pmul) := by
  intro pins s σ H x y v u Q I rx ry ⟨G, vs, o, z, le, rr, hp, q⟩
  unfold Pmul at hp
  split at hp
  · obtain ⟨_, _, e, r1, r2⟩ := rreps_two rr
    cases e
    split at hp
    · rename_i hj
      cases hp
      obtain rfl := rrep_int r1; obtain rfl := rrep_int r2
      exact op_mul pins s σ H _ _ v u Q I rx ry ⟨_, _, rfl, rfl, (of_decide_eq_true (p := ((-(2 ^ 64) < _ ∧ _ < 2 ^ 64) ∨ (-(2 ^ 64) < _ ∧ _ < 2 ^ 64))) hj), q _ G H (Grow.refl le) (nrep_f (rep_int.mpr rfl))⟩
    · cases hp
  · obtain ⟨_, _, e, r1, r2⟩ := rreps_two rr
    cases e
    split at hp
    · rename_i st n hj
      cases hp
      obtain ⟨rfl, h1⟩ := rrep_str r1; obtain rfl := rrep_int r2
      obtain ⟨t, rfl⟩ := rx; obtain ⟨t', rfl⟩ := ry
      have e1 : ∀ m : Nat, RelV (.str (repS st m)) (.str (repS st m) m) := fun m => ⟨_, rfl⟩
      refine PySem.P.mul_str (by
        have h2 : ¬ n < -(2 ^ 63 : Int) := by omega
        have h3 : ¬ n ≥ 2 ^ 63 := by omega
        rw [decide_eq_false h2, decide_eq_false h3]; rfl) (fun hn _ hb => ?_) (fun hn _ => ?_) ?_
      · have h4 : n ≤ 100000 := hj.2.1
        have h5 : (st.length : Int) ≤ 16777216 := by
          have : sizeLine = 16777216 := PySem.sizeLine_eq
          omega
        have h6 : (2 ^ 63 - 1 : Int) / n ≥ (2 ^ 63 - 1) / 100000 := by
          refine Int.le_ediv_of_mul_le (by omega) ?_
          have : (2 ^ 63 - 1 : Int) / 100000 * n ≤ (2 ^ 63 - 1 : Int) / 100000 * 100000 := Int.mul_le_mul_of_nonneg_left h4 (by decide)
          refine Int.le_trans this ?_
          decide
        have h7 : (16777216 : Int) ≤ (2 ^ 63 - 1) / 100000 := by decide
        omega
      · exact decide_eq_false (by have := hj.2.2; omega)
      · have fin : ∀ (m : Nat) (y : Str), y = repS st n.toNat → Q (.str y) H → EP X pins σ Q (.str y s.toks) { s with toks := s.toks + 1 } := fun m y e h => ⟨.str y, H, I.tok _, ⟨_, rfl⟩, h⟩
        have qq : Q (.str (repS st n.toNat)) H := q _ G H (Grow.refl le) (nrep_f (rep_str.mpr ⟨rfl, by rw [repS_length]; exact hj.2.2⟩))
        have ext : ∀ {a b : Str}, a.cps.toList = b.cps.toList → a = b := fun {a b} h => by cases a; cases b; congr; exact Array.toList_inj.mp h
        by_cases h0 : n < 1
        · rw [if_pos h0]
          have en : n.toNat = 0 := by omega
          have e : Str.empty = repS st n.toNat := by rw [en]; rfl
          refine ⟨by rw [e, repS_length]; exact hj.2.2, ?_⟩
          exact ⟨.str Str.empty, H, I.tok _, ⟨_, rfl⟩, by rw [e]; exact qq⟩
        · rw [if_neg h0]
          split
          · rename_i hc
            have e : st = repS st n.toNat := by
              simp only [Bool.or_eq_true, beq_iff_eq] at hc
              rcases hc with hc | hc
              · subst hc
                refine ext ?_
                show _ = (List.replicate 1 st.cps.toList).flatten
                simp
              · refine ext ?_
                have e0 : st.cps.toList = [] := by
                  have : st.cps.toList.length = 0 := by rw [Array.length_toList]; exact hc
                  exact List.eq_nil_of_length_eq_zero this
                show _ = (List.replicate n.toNat st.cps.toList).flatten
                rw [e0]; simp
            exact ⟨.str st, H, I, ⟨_, rfl⟩, by rw [← e] at qq; exact qq⟩
          · rw [repS_fold]
            exact ⟨by rw [repS_length]; exact hj.2.2, .str _, H, I.tok _, ⟨_, rfl⟩, qq⟩
    · cases hp
  · obtain ⟨_, _, e, r1, r2⟩ := rreps_two rr
    cases e
    split at hp
    · rename_i ds n hj
      cases hp
      obtain ⟨l, xs, rfl, s1, q1⟩ := rrep_lst le r1; obtain rfl := rrep_int r2
      have hz : xs.length * n.toNat ≤ sizeLine := by rw [← reps_length q1]; exact line_of hj.2.2
      exact op_rep pins s σ H _ _ v u Q I rx ry ⟨l, n, xs, rfl, rfl, s1, by omega, by omega, hz, fun p hp => new_lst le hp (reps_rep q1 _) q⟩
    · cases hp
  · cases hp
end
end M
/-! MPA: comparisons, membership, repr, len, isinstance, all, any. -/
namespace M
open PySem L2

/-! ### data -/
mutual
def toD : Val → Option PyData
  | .non => some .none
  | .bl b => some (.bool b)
  | .int i => some (.int i)
  | .str s => some (.str s)
  | .tup ds => (toDs ds).map .tuple
  | .lst ds => (toDs ds).map .list
  | .scr ns => some (.list (ns.map .int))
  | _ => none
def toDs : List Val → Option (List PyData)
  | [] => some []
  | d :: ds => match toD d, toDs ds with
    | some x, some xs => some (x :: xs)
    | _, _ => none
end
theorem dps_ints {K : PySem.W.Frag} {H : Hp} : ∀ ns : List Int, DpAll K H (ns.map V.int) (ns.map PyData.int)
  | [] => .nil
  | n :: ns => .cons (.int n) (dps_ints ns)
section
variable {w : Wd} {K : PySem.W.Frag} {G H : Hp}
mutual
theorem dp_of (hw : w.K = K) (le : Le G H) : ∀ {v : Val} {x : V} {d : PyData}, Rep w G v x → toD v = some d → Dp K H x d
  | .non, _, _, r, e => by rw [toD] at e; cases e; rw [rep_non.mp r]; exact .non
  | .bl b, _, _, r, e => by rw [toD] at e; cases e; rw [rep_bl.mp r]; exact .bl b
  | .int i, _, _, r, e => by rw [toD] at e; cases e; rw [rep_int.mp r]; exact .int i
  | .str s, _, _, r, e => by rw [toD] at e; cases e; rw [(rep_str.mp r).1]; exact .str s
  | .tup ds, _, _, r, e => by
    rw [toD, Option.map_eq_some_iff] at e
    obtain ⟨es, e, rfl⟩ := e
    obtain ⟨a, xs, rfl, q, r⟩ := rep_tup.mp r
    exact .tup (by rw [← hw]; exact sqt_mono le q) (dps_of hw le r e)
  | .lst ds, _, _, r, e => by
    rw [toD, Option.map_eq_some_iff] at e
    obtain ⟨es, e, rfl⟩ := e
    obtain ⟨a, xs, rfl, q, r⟩ := rep_lst.mp r
    exact .lst (.inl (.inl (le _ _ q))) (dps_of hw le r e)
  | .scr ns, _, _, r, e => by
    rw [toD] at e; cases e
    rw [Rep] at r
    obtain ⟨a, rfl, q⟩ := r
    exact .lst (by rw [← hw]; exact sql_mono le q) (dps_ints ns)
  | .dct _ _, _, _, _, e => by simp [toD] at e
  | .obj _ _, _, _, _, e => by simp [toD] at e
  | .ty _, _, _, _, e => by simp [toD] at e
  | .cls _, _, _, _, e => by simp [toD] at e
theorem dps_of (hw : w.K = K) (le : Le G H) : ∀ {ds : List Val} {xs : List V} {es : List PyData}, Reps w G ds xs → toDs ds = some es → DpAll K H xs es
  | [], _, _, r, e => by rw [toDs] at e; cases e; rw [reps_nil.mp r]; exact .nil
  | d :: ds, _, _, r, e => by
    rw [toDs] at e
    obtain ⟨y, ys, rfl, r1, r2⟩ := reps_cons.mp r
    split at e
    · rename_i p ps e1 e2
      cases e
      exact .cons (dp_of hw le r1 e1) (dps_of hw le r2 e2)
    · cases e
end
theorem dp_rrep (hw : w.K = K) (le : Le G H) {v : Val} {x : V} {d : PyData} (r : RRep w G H v x) (e : toD v = some d) : Dp K H x d := by
  rcases r with r | ⟨a, rfl, r⟩
  · exact dp_of hw le r e
  · cases v with
    | lst ds =>
      obtain ⟨xs, q, r⟩ := r
      rw [toD, Option.map_eq_some_iff] at e
      obtain ⟨es, e, rfl⟩ := e
      exact .lst (.inl (.inl q)) (dps_of hw le r e)
    | dct t ds => simp [toD] at e
    | obj c fs => simp [toD] at e
    | _ => exact r.elim
end
abbrev shp (d : PyData) : Bool := SeqAt.shaped d
def Peq : List Val → Option (Bool × Val)
  | [a, b] => match toD a, toD b with
    | some d, some e => if shp d = true ∧ shp e = true then some (false, .bl (PyData.eqv d e)) else none
    | _, _ => none
  | _ => none
def Pne : List Val → Option (Bool × Val)
  | [a, b] => match toD a, toD b with
    | some d, some e => if shp d = true ∧ shp e = true then some (false, .bl (!PyData.eqv d e)) else none
    | _, _ => none
  | _ => none
def cmpI (f : Int → Int → Bool) : List Val → Option (Bool × Val)
  | [.int i, .int j] => some (false, .bl (f i j))
  | _ => none
def Plt := cmpI fun i j => decide (i < j)
def Ple := cmpI fun i j => decide (i ≤ j)
def Pgt := cmpI fun i j => decide (j < i)
def Pge := cmpI fun i j => decide (j ≤ i)
def Pis : List Val → Option (Bool × Val)
  | [.bl a, .bl b] => some (false, .bl (decide (a = b)))
  | [.non, .non] => some (false, .bl true)
  | [_, .non] => some (false, .bl false)
  | _ => none
def PisNot : List Val → Option (Bool × Val)
  | [.bl a, .bl b] => some (false, .bl (!decide (a = b)))
  | [.non, .non] => some (false, .bl false)
  | [_, .non] => some (false, .bl true)
  | _ => none
/-- x in y: a sign in a text, an item of a list, a flat item of a tuple -/
def inOf : Val → Val → Option Bool
  | .str x, .str y => match x.cps.toList with
    | [c] => some (decide (c ∈ y.cps.toList))
    | _ => none
  | d, .lst ds => match toD d, toDs ds with
    | some x, some xs => if shp x = true ∧ shp (.list xs) = true then some (xs.any fun z => PyData.eqv z x) else none
    | _, _ => none
  | _, _ => none
def flatD : PyData → Bool
  | .none => true
  | .bool _ => true
  | .int _ => true
  | .str _ => true
  | _ => false
def inTup : Val → Val → Option Bool
  | d, .tup ds => match toD d, toDs ds with
    | some x, some xs => if flatD x = true ∧ xs.all flatD = true then some (xs.any fun z => PyData.eqv z x) else none
    | _, _ => none
  | _, _ => none
def Pin : List Val → Option (Bool × Val)
  | [x, y] => match inOf x y with
    | some b => some (false, .bl b)
    | none => (inTup x y).map fun b => (false, .bl b)
  | _ => none
def PnotIn : List Val → Option (Bool × Val)
  | [x, y] => match inOf x y with
    | some b => some (false, .bl (!b))
    | none => (inTup x y).map fun b => (false, .bl (!b))
  | _ => none

section
variable {X : Cx} {w : Wd}
theorem bl_new {G H : Hp} {Q : VK} {b : Bool} (le : Le G H) (q : ∀ u G' H', Grow G H G' H' → NRep w G H G' H' false (.bl b) u → Q u H') : Q (.bl b) H := q _ G H (Grow.refl le) (nrep_f (rep_bl.mpr rfl))
theorem int_new {G H : Hp} {Q : VK} {b : Int} (le : Le G H) (q : ∀ u G' H', Grow G H G' H' → NRep w G H G' H' false (.int b) u → Q u H') : Q (.int b) H := q _ G H (Grow.refl le) (nrep_f (rep_int.mpr rfl))
theorem str_new {G H : Hp} {Q : VK} {b : Str} (le : Le G H) (hb : b.length ≤ sizeLine) (q : ∀ u G' H', Grow G H G' H' → NRep w G H G' H' false (.str b) u → Q u H') : Q (.str b) H := q _ G H (Grow.refl le) (nrep_f (rep_str.mpr ⟨rfl, hb⟩))
theorem opr_eq (c : Cal X w) : OpR X (compareOp .Eq) (r2Of w Peq) := by
  intro pins s σ H x y v u Q I rx ry ⟨G, vs, o, z, le, rr, hp, q⟩
  unfold Peq at hp
  split at hp
  · obtain ⟨_, _, e, r1, r2⟩ := rreps_two rr
    cases e
    split at hp
    · rename_i d e h1 h2
      split at hp
      · rename_i hs
        cases hp
        exact op_eqD (by have := c.un; omega) pins s σ H _ _ v u Q I rx ry ⟨d, e, dp_rrep c.K le r1 h1, dp_rrep c.K le r2 h2, hs.1, hs.2, bl_new le q⟩
      · cases hp
    · cases hp
  · cases hp
theorem opr_ne (c : Cal X w) : OpR X (compareOp .NotEq) (r2Of w Pne) := by
  intro pins s σ H x y v u Q I rx ry ⟨G, vs, o, z, le, rr, hp, q⟩
  unfold Pne at hp
  split at hp
  · obtain ⟨_, _, e, r1, r2⟩ := rreps_two rr
    cases e
    split at hp
    · rename_i d e h1 h2
      split at hp
      · rename_i hs
        cases hp
        exact op_neD (by have := c.un; omega) pins s σ H _ _ v u Q I rx ry ⟨d, e, dp_rrep c.K le r1 h1, dp_rrep c.K le r2 h2, hs.1, hs.2, bl_new le q⟩
      · cases hp
    · cases hp
  · cases hp
theorem cmpI_of {op : CmpOp} {f : Int → Int → Bool} (h : OpR X (compareOp op) (rI0 fun i j => .bl (f i j))) : OpR X (compareOp op) (r2Of w (cmpI f)) := by
  intro pins s σ H x y v u Q I rx ry ⟨G, vs, o, z, le, rr, hp, q⟩
  unfold cmpI at hp
  split at hp
  · obtain ⟨_, _, e, r1, r2⟩ := rreps_two rr
    cases e; cases hp
    obtain rfl := rrep_int r1; obtain rfl := rrep_int r2
    exact h pins s σ H _ _ v u Q I rx ry ⟨_, _, rfl, rfl, bl_new le q⟩
  · cases hp
theorem opr_lt : OpR X (compareOp .Lt) (r2Of w Plt) := cmpI_of op_lt
theorem opr_le : OpR X (compareOp .LtE) (r2Of w Ple) := cmpI_of op_le
theorem opr_gt : OpR X (compareOp .Gt) (r2Of w Pgt) := cmpI_of op_gt
theorem opr_ge : OpR X (compareOp .GtE) (r2Of w Pge) := cmpI_of op_ge
theorem rrep_not_non {G H : Hp} {v : Val} {x : V} (h : RRep w G H v x) (hv : v ≠ .non) : x ≠ .non := by
  intro e
  subst e
  rcases h with h | ⟨a, e, _⟩
  · cases v with
    | non => exact hv rfl
    | bl b => cases rep_bl.mp h
    | int i => cases rep_int.mp h
    | str s => cases (rep_str.mp h).1
    | ty n => cases rep_ty.mp h
    | tup ds => obtain ⟨_, _, e, _⟩ := rep_tup.mp h; cases e
    | lst ds => obtain ⟨_, _, e, _⟩ := rep_lst.mp h; cases e
    | dct t ds => rw [Rep] at h; obtain ⟨_, e, _⟩ := h; cases e
    | obj c fs => rw [Rep] at h; obtain ⟨_, _, _, _, e, _⟩ := h; cases e
    | cls c => rw [Rep] at h; obtain ⟨_, _, e⟩ := h; cases e
    | scr ns => rw [Rep] at h; obtain ⟨_, e, _⟩ := h; cases e
  · cases e
theorem opr_is : OpR X (compareOp .Is) (r2Of w Pis) := by
  intro pins s σ H x y v u Q I rx ry ⟨G, vs, o, z, le, rr, hp, q⟩
  unfold Pis at hp
  split at hp
  · obtain ⟨_, _, e, r1, r2⟩ := rreps_two rr
    cases e; cases hp
    obtain rfl := rrep_bl r1; obtain rfl := rrep_bl r2
    exact op_isBl pins s σ H _ _ v u Q I rx ry ⟨_, _, rfl, rfl, bl_new le q⟩
  · obtain ⟨_, _, e, r1, r2⟩ := rreps_two rr
    cases e; cases hp
    obtain rfl := rrep_non r1; obtain rfl := rrep_non r2
    exact op_isN pins s σ H _ _ v u Q I rx ry ⟨rfl, by rw [decide_eq_true rfl]; exact bl_new le q⟩
  · rename_i t ht
    obtain ⟨_, _, e, r1, r2⟩ := rreps_two rr
    cases e; cases hp
    obtain rfl := rrep_non r2
    exact op_isN pins s σ H _ _ v u Q I rx ry ⟨rfl, by rw [decide_eq_false (rrep_not_non r1 ht)]; exact bl_new le q⟩
  · cases hp
theorem opr_isNot : OpR X (compareOp .IsNot) (r2Of w PisNot) := by
  intro pins s σ H x y v u Q I rx ry ⟨G, vs, o, z, le, rr, hp, q⟩
  unfold PisNot at hp
  split at hp
  · obtain ⟨_, _, e, r1, r2⟩ := rreps_two rr
    cases e; cases hp
    obtain rfl := rrep_bl r1; obtain rfl := rrep_bl r2
    exact op_notBl pins s σ H _ _ v u Q I rx ry ⟨_, _, rfl, rfl, bl_new le q⟩
  · obtain ⟨_, _, e, r1, r2⟩ := rreps_two rr
    cases e; cases hp
    obtain rfl := rrep_non r1; obtain rfl := rrep_non r2
    exact op_notN pins s σ H _ _ v u Q I rx ry ⟨rfl, by rw [decide_eq_true rfl]; exact bl_new le q⟩
  · rename_i t ht
    obtain ⟨_, _, e, r1, r2⟩ := rreps_two rr
    cases e; cases hp
    obtain rfl := rrep_non r2
    exact op_notN pins s σ H _ _ v u Q I rx ry ⟨rfl, by rw [decide_eq_false (rrep_not_non r1 ht)]; exact bl_new le q⟩
  · cases hp

/-! ### in, not in -/
theorem flat_V {K : PySem.W.Frag} {H : Hp} {x : V} {d : PyData} (h : Dp K H x d) (f : flatD d = true) : flatV x = true := by
  cases h <;> first | rfl | cases f
theorem eqv_V {K : PySem.W.Frag} {H : Hp} {x y : V} {d e : PyData} (h : Dp K H x d) (g : Dp K H y e) (f : flatD d = true) (f' : flatD e = true) : eqV x y = PyData.eqv d e := by
  cases h <;> cases g <;> first | (cases f; done) | (cases f'; done) | simp only [eqV, PyData.eqv]
theorem in_V {K : PySem.W.Frag} {H : Hp} {x : V} {d : PyData} (h : Dp K H x d) (f : flatD d = true) : ∀ {xs : List V} {ds : List PyData}, DpAll K H xs ds → ds.all flatD = true → xs.all flatV = true ∧ inV x xs = ds.any fun z => PyData.eqv z d
  | _, _, .nil, _ => ⟨rfl, rfl⟩
  | _, _, .cons (v := y) (vs := ys) (d := e) (ds := es) h1 h2, a => by
    rw [List.all_cons, Bool.and_eq_true] at a
    obtain ⟨q1, q2⟩ := in_V h f h2 a.2
    refine ⟨?_, ?_⟩
    · rw [List.all_cons, flat_V h1 a.1, q1]; rfl
    · show (eqV y x || inV x ys) = _
      rw [q2, eqv_V h1 h a.1 f]; rfl
theorem str_one {x : Str} {c : Nat} (h : x.cps.toList = [c]) : x = ⟨#[c]⟩ := by
  cases x with
  | mk a =>
    congr
    exact Array.toList_inj.mp h
theorem in_run (c : Cal X w) {pins : List (Addr × Obj)} {s : Shared} {σ : L2.St} {G H : Hp} {x y : V} {v u : Value} {Q : VK} {a b : Val} {k : Bool} (I : Inv X pins σ H s) (rx : RelV x v) (ry : RelV y u) (le : Le G H) (r1 : RRep w G H a x) (r2 : RRep w G H b y)
    (h : inOf a b = some k ∨ inTup a b = some k) : (Q (.bl k) H → wpAny (model X.prog X.w) X.A (compareOp .In v u) (EP X pins σ Q) X.xe s) ∧ (Q (.bl (!k)) H → wpAny (model X.prog X.w) X.A (compareOp .NotIn v u) (EP X pins σ Q) X.xe s) := by
  rcases h with h | h
  · unfold inOf at h
    split at h
    · split at h
      · rename_i ch hc
        cases h
        obtain ⟨rfl, _⟩ := rrep_str r1; obtain ⟨rfl, _⟩ := rrep_str r2
        rw [str_one hc] at rx
        exact ⟨fun q => op_in_sign pins s σ H _ _ v u Q I rx ry ⟨_, _, rfl, rfl, q⟩, fun q => op_notIn_sign pins s σ H _ _ v u Q I rx ry ⟨_, _, rfl, rfl, q⟩⟩
      · cases h
    · split at h
      · rename_i d' ds' h1 h2
        split at h
        · rename_i hs
          cases h
          have hd := dp_rrep c.K le r1 h1
          have hl := dp_rrep c.K le r2 (d := .list ds') (by rw [toD, h2]; rfl)
          exact ⟨fun q => op_inD (by have := c.un; omega) pins s σ H _ _ v u Q I rx ry ⟨_, _, hd, hl, hs.1, hs.2, q⟩, fun q => op_notInD (by have := c.un; omega) pins s σ H _ _ v u Q I rx ry ⟨_, _, hd, hl, hs.1, hs.2, q⟩⟩
        · cases h
      · cases h
    · cases h
  · unfold inTup at h
    split at h
    · split at h
      · rename_i d' ds' h1 h2
        split at h
        · rename_i hs
          cases h
          have hd := dp_rrep c.K le r1 h1
          obtain ⟨p, xs, rfl, sq, rs⟩ := rrep_tup le r2
          obtain ⟨f2, e2⟩ := in_V hd hs.1 (dps_of c.K le rs h2) hs.2
          have f1 := flat_V hd hs.1
          rw [c.K] at sq
          exact ⟨fun q => op_in_seq pins s σ H _ _ v u Q I rx ry ⟨p, xs, rfl, .inr sq, f1, f2, by simp only [Bool.false_eq_true, if_false]; rw [e2]; exact q⟩,
            fun q => op_notIn_seq pins s σ H _ _ v u Q I rx ry ⟨p, xs, rfl, .inr sq, f1, f2, by simp only [if_true]; rw [e2]; exact q⟩⟩
        · cases h
      · cases h
    · cases h
theorem opr_in (c : Cal X w) : OpR X (compareOp .In) (r2Of w Pin) := by
  intro pins s σ H x y v u Q I rx ry ⟨G, vs, o, z, le, rr, hp, q⟩
  unfold Pin at hp
  split at hp
  · obtain ⟨_, _, e, r1, r2⟩ := rreps_two rr
    cases e
    split at hp
    · rename_i k hk
      cases hp
      exact (in_run c I rx ry le r1 r2 (.inl hk)).1 (bl_new le q)
    · rw [Option.map_eq_some_iff] at hp
      obtain ⟨k, hk, e⟩ := hp
      cases e
      exact (in_run c I rx ry le r1 r2 (.inr hk)).1 (bl_new le q)
  · cases hp
theorem opr_notIn (c : Cal X w) : OpR X (compareOp .NotIn) (r2Of w PnotIn) := by
  intro pins s σ H x y v u Q I rx ry ⟨G, vs, o, z, le, rr, hp, q⟩
  unfold PnotIn at hp
  split at hp
  · obtain ⟨_, _, e, r1, r2⟩ := rreps_two rr
    cases e
    split at hp
    · rename_i k hk
      cases hp
      exact (in_run c I rx ry le r1 r2 (.inl hk)).2 (bl_new le q)
    · rw [Option.map_eq_some_iff] at hp
      obtain ⟨k, hk, e⟩ := hp
      cases e
      exact (in_run c I rx ry le r1 r2 (.inr hk)).2 (bl_new le q)
  · cases hp
end
end M
/-! MPB: built-in functions and types, subscripts, slices, join. -/
namespace M
open PySem L2

/-! ### built-in functions on frozen or owned values -/
def tyOf : Val → Option String
  | .non => some "NoneType"
  | .bl _ => some "bool"
  | .int _ => some "int"
  | .str _ => some "str"
  | .tup _ => some "tuple"
  | .lst _ => some "list"
  | .scr _ => some "list"
  | .dct _ _ => some "dict"
  | _ => none
def Pisi : List Val → Option (Bool × Val)
  | [v, .ty T] => match tyOf v with
    | some a => (kitB a T).map fun b => (false, .bl b)
    | none => none
  | _ => none
def Plen : List Val → Option (Bool × Val)
  | [.str s] => some (false, .int s.length)
  | [.lst ds] => some (false, .int ds.length)
  | [.tup ds] => some (false, .int ds.length)
  | [.scr ns] => some (false, .int ns.length)
  | _ => none
def Pabs : List Val → Option (Bool × Val)
  | [.int i] => some (false, .int (if i < 0 then -i else i))
  | _ => none
def Pint : List Val → Option (Bool × Val)
  | [.int i] => some (false, .int i)
  | [.bl b] => some (false, .int (if b then 1 else 0))
  | _ => none
def Pmax2 : List Val → Option (Bool × Val)
  | [.int i, .int j] => some (false, .int (if j > i then j else i))
  | _ => none
def Pmin2 : List Val → Option (Bool × Val)
  | [.int i, .int j] => some (false, .int (if j < i then j else i))
  | _ => none
def Pstr : List Val → Option (Bool × Val)
  | [.int i] => if i.natAbs.log2 < 1920 ∧ (toString i : Str).length ≤ sizeLine then some (false, .str (toString i)) else none
  | [.str s] => some (false, .str s)
  | _ => none
def Prepr : List Val → Option (Bool × Val)
  | [v] => match toD v with
    | some d => if d.showable = true ∧ d.hasDict = false ∧ d.depth ≤ 60 ∧ d.shown.length ≤ sizeLine then some (false, .str d.shown) else none
    | none => none
  | _ => none
def asBls : List Val → Option (List Bool)
  | [] => some []
  | .bl b :: vs => (asBls vs).map (b :: ·)
  | _ => none
def asStrs : List Val → Option (List Str)
  | [] => some []
  | .str b :: vs => (asStrs vs).map (b :: ·)
  | _ => none
def Pall : List Val → Option (Bool × Val)
  | [.lst ds] => (asBls ds).map fun bs => (false, .bl (bs.all id))
  | _ => none
def Pany : List Val → Option (Bool × Val)
  | [.lst ds] => (asBls ds).map fun bs => (false, .bl (bs.any id))
  | _ => none
def Plist : List Val → Option (Bool × Val)
  | [.lst ds] => some (true, .lst ds)
  | [.tup ds] => some (true, .lst ds)
  | [.scr ns] => some (true, .lst (ns.map .int))
  | _ => none
def Ptuple : List Val → Option (Bool × Val)
  | [.lst ds] => some (false, .tup ds)
  | [.tup ds] => some (false, .tup ds)
  | _ => none
theorem asBls_some : ∀ {vs : List Val} {bs : List Bool}, asBls vs = some bs → vs = bs.map .bl
  | [], _, h => by simp only [asBls, Option.some.injEq] at h; subst h; rfl
  | .bl b :: vs, _, h => by
    simp only [asBls, Option.map_eq_some_iff] at h
    obtain ⟨c, e, rfl⟩ := h
    rw [asBls_some e]; rfl
  | .non :: _, _, h => by cases h
  | .int _ :: _, _, h => by cases h
  | .str _ :: _, _, h => by cases h
  | .tup _ :: _, _, h => by cases h
  | .lst _ :: _, _, h => by cases h
  | .dct _ _ :: _, _, h => by cases h
  | .obj _ _ :: _, _, h => by cases h
  | .ty _ :: _, _, h => by cases h
  | .cls _ :: _, _, h => by cases h
  | .scr _ :: _, _, h => by cases h
theorem asStrs_some : ∀ {vs : List Val} {bs : List Str}, asStrs vs = some bs → vs = bs.map .str
  | [], _, h => by simp only [asStrs, Option.some.injEq] at h; subst h; rfl
  | .str b :: vs, _, h => by
    simp only [asStrs, Option.map_eq_some_iff] at h
    obtain ⟨c, e, rfl⟩ := h
    rw [asStrs_some e]; rfl
  | .non :: _, _, h => by cases h
  | .int _ :: _, _, h => by cases h
  | .bl _ :: _, _, h => by cases h
  | .tup _ :: _, _, h => by cases h
  | .lst _ :: _, _, h => by cases h
  | .dct _ _ :: _, _, h => by cases h
  | .obj _ _ :: _, _, h => by cases h
  | .ty _ :: _, _, h => by cases h
  | .cls _ :: _, _, h => by cases h
  | .scr _ :: _, _, h => by cases h

section
variable {X : Cx} {w : Wd}
/-- a list or the script, as it is read -/
theorem rrep_seq (c : Cal X w) {G H : Hp} {v : Val} {x : V} {ds : List Val} (le : Le G H) (r : RRep w G H v x) (h : Plist [v] = some (true, .lst ds)) : ∃ p ys, x = .ref p ∧ (SqL X.K H p ys ∨ SqT X.K H p ys) ∧ Reps w G ds ys := by
  unfold Plist at h
  split at h
  · rename_i e; cases e; cases h
    obtain ⟨a, xs, rfl, q, r⟩ := rrep_lst le r
    exact ⟨a, xs, rfl, .inl (.inl (.inl q)), r⟩
  · rename_i e; cases e; cases h
    obtain ⟨a, xs, rfl, q, r⟩ := rrep_tup le r
    rw [c.K] at q
    exact ⟨a, xs, rfl, .inr q, r⟩
  · rename_i e; cases e; cases h
    obtain ⟨a, rfl, q⟩ := rrep_scr le r
    rw [c.K] at q
    exact ⟨a, _, rfl, .inl q, reps_of_ints⟩
  · cases h
theorem kit_val (c : Cal X w) {pins : List (Addr × Obj)} {s : Shared} {σ : L2.St} {G H : Hp} {v : Val} {x : V} {u : Value} {T : String} (I : Inv X pins σ H s) (rx : RelV x u) (le : Le G H) (r : RRep w G H v x) (h : tyOf v = some T) :
    ∃ P : Heap → Prop, PySem.W.KitX X.K u (.type T) P ∧ P s.heap ∧ u ≠ .builtin "__main__.__loader__#opaque" := by
  cases v with
  | non => cases h; obtain rfl := rrep_non r; exact kit_of I rx (.base .non)
  | bl b => cases h; obtain rfl := rrep_bl r; exact kit_of I rx (.base (.bl b))
  | int i => cases h; obtain rfl := rrep_int r; exact kit_of I rx (.base (.int i))
  | str y => cases h; obtain ⟨rfl, _⟩ := rrep_str r; exact kit_of I rx (.base (.str y))
  | tup ds =>
    cases h
    obtain ⟨a, xs, rfl, q, _⟩ := rrep_tup le r
    rw [c.K] at q
    obtain ⟨its, _, ⟨o, ho, hc, _⟩, _⟩ := I.tuple q
    cases (show u = Value.ref a from rx)
    exact ⟨_, PySem.W.kitx_tuple, ⟨o, ho, hc⟩, fun z => nomatch z⟩
  | lst ds => cases h; obtain ⟨a, xs, rfl, q, _⟩ := rrep_lst le r; exact kit_of I rx (.base (.lst q))
  | scr ns =>
    cases h
    obtain ⟨a, rfl, q⟩ := rrep_scr le r
    rw [c.K] at q
    obtain ⟨its, _, ⟨o, n, ho, hc, _⟩, _⟩ := I.list q
    cases (show u = Value.ref a from rx)
    exact ⟨_, PySem.W.kitx_list, ⟨o, ho, hc⟩, fun z => nomatch z⟩
  | dct t kvs =>
    cases h
    obtain ⟨a, rfl, q⟩ := rrep_dct le r
    cases (show u = Value.ref a from rx)
    have dK : ∀ {kvs : List (Key × V)}, ObjOk X.prog X.w H s.heap a (.dK kvs) → ∃ o, s.heap.get? a = some o ∧ o.cls = .type "dict" := fun {kvs} h => by
      obtain ⟨_, _, vs, _, o, es, ep, h1, h2, _⟩ := h
      exact ⟨o, h1, h2.1⟩
    have dT : ∀ {kvs : List (List Key × V)}, ObjOk X.prog X.w H s.heap a (.dT kvs) → ∃ o, s.heap.get? a = some o ∧ o.cls = .type "dict" := fun {kvs} h => by
      obtain ⟨_, _, xs, _, o, es, ep, h1, h2, _⟩ := h
      exact ⟨o, h1, h2.1⟩
    have : ∃ o, s.heap.get? a = some o ∧ o.cls = .type "dict" := by
      rcases q with ⟨_, kvs, q | ⟨ob, q⟩, _⟩ | ⟨_, kvs, q | ⟨ob, q⟩, _⟩
      · exact dK (I.hok a _ q)
      · exact dK (I.hok a _ q).2
      · exact dT (I.hok a _ q)
      · exact dT (I.hok a _ q).2
    exact ⟨_, PySem.W.kitx_dict, this, fun z => nomatch z⟩
  | _ => cases h
theorem bi_isi (c : Cal X w) : CallR X (.builtin "isinstance") (rOf w Pisi) := by
  intro pins s σ H xs us Q I r ⟨G, vs, o, z, le, rr, hp, q⟩
  unfold Pisi at hp
  split at hp
  · rename_i T
    obtain ⟨x, y, e, r1, r2⟩ := rreps_two rr
    subst e
    split at hp
    · rename_i a ha
      rw [Option.map_eq_some_iff] at hp
      obtain ⟨b, hb, e⟩ := hp
      cases e
      obtain rfl := rrep_ty r2
      obtain ⟨u1, u2, rfl, q1, q2⟩ := vals2 r
      cases (show u2 = Value.type T from q2)
      obtain ⟨P, Z, p, hx⟩ := kit_val c I q1 le r1 ha
      exact PySem.W.kia_one Z I.kIn p (kit_ty hb) hx fun tk => ⟨.bl b, H, I.tok tk, rfl, bl_new le q⟩
    · cases hp
  · cases hp
theorem bi_len (c : Cal X w) : CallR X (.builtin "len") (rOf w Plen) := by
  intro pins s σ H xs us Q I r ⟨G, vs, o, z, le, rr, hp, q⟩
  unfold Plen at hp
  split at hp
  · obtain ⟨x, e, r1⟩ := rreps_one rr
    subst e; cases hp
    obtain ⟨rfl, hz⟩ := rrep_str r1
    exact call_len pins s σ H _ us Q I r ⟨_, _, rfl, ⟨hz, rfl⟩, int_new le q⟩
  · obtain ⟨x, e, r1⟩ := rreps_one rr
    subst e; cases hp
    obtain ⟨a, xs, rfl, h, rs⟩ := rrep_lst le r1
    rw [reps_length rs] at q
    exact call_len pins s σ H _ us Q I r ⟨_, _, rfl, .inl ⟨xs, .inl (.inl h), rfl⟩, int_new le q⟩
  · obtain ⟨x, e, r1⟩ := rreps_one rr
    subst e; cases hp
    obtain ⟨a, xs, rfl, h, rs⟩ := rrep_tup le r1
    rw [c.K] at h
    rw [reps_length rs] at q
    exact call_len pins s σ H _ us Q I r ⟨_, _, rfl, .inr ⟨xs, h, rfl⟩, int_new le q⟩
  · obtain ⟨x, e, r1⟩ := rreps_one rr
    subst e; cases hp
    obtain ⟨a, rfl, h⟩ := rrep_scr le r1
    rw [c.K] at h
    rename_i ns
    have e : ns.length = (ns.map V.int).length := by simp
    rw [e] at q
    exact call_len pins s σ H _ us Q I r ⟨_, _, rfl, .inl ⟨_, h, rfl⟩, int_new le q⟩
  · cases hp
theorem bi_abs : CallR X (.builtin "abs") (rOf w Pabs) := by
  intro pins s σ H xs us Q I r ⟨G, vs, o, z, le, rr, hp, q⟩
  unfold Pabs at hp
  split at hp
  · obtain ⟨x, e, r1⟩ := rreps_one rr
    subst e; cases hp
    obtain rfl := rrep_int r1
    exact call_abs pins s σ H _ us Q I r ⟨_, rfl, int_new le q⟩
  · cases hp
theorem bi_int : CallR X (.type "int") (rOf w Pint) := by
  intro pins s σ H xs us Q I r ⟨G, vs, o, z, le, rr, hp, q⟩
  unfold Pint at hp
  split at hp
  · obtain ⟨x, e, r1⟩ := rreps_one rr
    subst e; cases hp
    obtain rfl := rrep_int r1
    exact call_int1 pins s σ H _ us Q I r (.inl ⟨_, rfl, int_new le q⟩)
  · obtain ⟨x, e, r1⟩ := rreps_one rr
    subst e; cases hp
    obtain rfl := rrep_bl r1
    exact call_int1 pins s σ H _ us Q I r (.inr ⟨_, rfl, int_new le q⟩)
  · cases hp
theorem bi_max2 (c : Cal X w) : CallR X (.builtin "max") (rOf w Pmax2) := by
  intro pins s σ H xs us Q I r ⟨G, vs, o, z, le, rr, hp, q⟩
  unfold Pmax2 at hp
  split at hp
  · obtain ⟨x, y, e, r1, r2⟩ := rreps_two rr
    subst e; cases hp
    obtain rfl := rrep_int r1; obtain rfl := rrep_int r2
    exact call_max2 c.calm pins s σ H _ us Q I r ⟨_, _, rfl, int_new le q⟩
  · cases hp
theorem bi_min2 (c : Cal X w) : CallR X (.builtin "min") (rOf w Pmin2) := by
  intro pins s σ H xs us Q I r ⟨G, vs, o, z, le, rr, hp, q⟩
  unfold Pmin2 at hp
  split at hp
  · obtain ⟨x, y, e, r1, r2⟩ := rreps_two rr
    subst e; cases hp
    obtain rfl := rrep_int r1; obtain rfl := rrep_int r2
    exact call_min2 c.calm pins s σ H _ us Q I r ⟨_, _, rfl, int_new le q⟩
  · cases hp
theorem bi_str : CallR X (.type "str") (rOf w Pstr) := by
  intro pins s σ H xs us Q I r ⟨G, vs, o, z, le, rr, hp, q⟩
  unfold Pstr at hp
  split at hp
  · obtain ⟨x, e, r1⟩ := rreps_one rr
    subst e
    split at hp
    · rename_i hi
      cases hp
      obtain rfl := rrep_int r1
      exact call_str_int pins s σ H _ us Q I r ⟨_, rfl, hi.1, str_new le hi.2 q⟩
    · cases hp
  · obtain ⟨x, e, r1⟩ := rreps_one rr
    subst e; cases hp
    obtain ⟨rfl, hz⟩ := rrep_str r1
    exact SkE.call_str_str pins s σ H _ us Q I r ⟨_, rfl, str_new le hz q⟩
  · cases hp
theorem bi_all (c : Cal X w) : CallR X (.builtin "all") (rOf w Pall) := by
  intro pins s σ H xs us Q I r ⟨G, vs, o, z, le, rr, hp, q⟩
  unfold Pall at hp
  split at hp
  · obtain ⟨x, e, r1⟩ := rreps_one rr
    subst e
    rw [Option.map_eq_some_iff] at hp
    obtain ⟨bs, hb, e⟩ := hp
    cases e
    obtain ⟨a, xs, rfl, h, rs⟩ := rrep_lst le r1
    rw [asBls_some hb] at rs
    rw [reps_bls rs] at h
    exact cr_all c.calm pins s σ H _ us Q I r ⟨a, bs, rfl, .inl (.inl h), bl_new le q⟩
  · cases hp
theorem bi_any (c : Cal X w) : CallR X (.builtin "any") (rOf w Pany) := by
  intro pins s σ H xs us Q I r ⟨G, vs, o, z, le, rr, hp, q⟩
  unfold Pany at hp
  split at hp
  · obtain ⟨x, e, r1⟩ := rreps_one rr
    subst e
    rw [Option.map_eq_some_iff] at hp
    obtain ⟨bs, hb, e⟩ := hp
    cases e
    obtain ⟨a, xs, rfl, h, rs⟩ := rrep_lst le r1
    rw [asBls_some hb] at rs
    rw [reps_bls rs] at h
    exact cr_any c.calm pins s σ H _ us Q I r ⟨a, bs, rfl, .inl (.inl h), bl_new le q⟩
  · cases hp
theorem bi_list (c : Cal X w) : CallR X (.type "list") (rOf w Plist) := by
  intro pins s σ H xs us Q I r ⟨G, vs, o, z, le, rr, hp, q⟩
  have shape : ∃ v ds, vs = [v] ∧ o = true ∧ z = .lst ds := by
    unfold Plist at hp
    split at hp <;> first | (cases hp; exact ⟨_, _, rfl, rfl, rfl⟩) | cases hp
  obtain ⟨v, ds, rfl, rfl, rfl⟩ := shape
  obtain ⟨x, e, r1⟩ := rreps_one rr
  subst e
  obtain ⟨p, ys, rfl, hs, rs⟩ := rrep_seq c le r1 hp
  exact call_list_of pins s σ H _ us Q I r ⟨p, ys, rfl, hs, fun l hl => new_lst le hl rs q⟩
theorem bi_tuple (c : Cal X w) : CallR X (.type "tuple") (rOf w Ptuple) := by
  intro pins s σ H xs us Q I r ⟨G, vs, o, z, le, rr, hp, q⟩
  unfold Ptuple at hp
  split at hp
  · obtain ⟨x, e, r1⟩ := rreps_one rr
    subst e; cases hp
    obtain ⟨a, xs, rfl, h, rs⟩ := rrep_lst le r1
    refine call_tuple_of pins s σ H _ us Q I r ⟨a, xs, rfl, .inl ⟨.inl (.inl h), fun p hp => ?_⟩⟩
    have gr := Grow.laidG (o := .tup xs) le hp
    exact q _ _ _ gr (nrep_f (rep_tup.mpr ⟨p, xs, rfl, SqT.of upd_same, rs.mono gr.g⟩))
  · obtain ⟨x, e, r1⟩ := rreps_one rr
    subst e; cases hp
    have r0 := r1
    obtain ⟨a, xs, rfl, h, rs⟩ := rrep_tup le r1
    rw [c.K] at h
    refine call_tuple_of pins s σ H _ us Q I r ⟨a, xs, rfl, .inr ⟨h, ?_⟩⟩
    refine q _ _ _ (Grow.refl le) (nrep_f ?_)
    rcases r0 with r0 | ⟨_, _, r0⟩
    · exact r0
    · exact r0.elim
  · cases hp
theorem bi_repr (c : Cal X w) : CallR X (.builtin "repr") (rOf w Prepr) := by
  intro pins s σ H xs us Q I r ⟨G, vs, o, z, le, rr, hp, q⟩
  unfold Prepr at hp
  split at hp
  · obtain ⟨x, e, r1⟩ := rreps_one rr
    subst e
    split at hp
    · rename_i d hd
      split at hp
      · rename_i hc
        cases hp
        obtain ⟨h1, h2, h3, h4⟩ := hc
        obtain ⟨u, rfl, ru⟩ := vals1 r
        have dp := dp_rrep c.K le r1 hd
        have fin : ∀ s', Inv X pins σ H s' → ∀ t, EP X pins σ Q (.str d.shown t) s' := fun s' J t => ⟨.str d.shown, H, J, ⟨_, rfl⟩, str_new le h4 q⟩
        cases dp with
        | non => cases ru; exact PySem.P.repr_of_none (by have := fin { s with toks := s.toks + 1 } (I.tok _) s.toks; simpa only [PyData.shown] using this)
        | bl b => cases ru; exact PySem.P.repr_of_bool (by have := fin { s with toks := s.toks + 1 } (I.tok _) s.toks; simpa only [PyData.shown] using this)
        | int i => obtain ⟨t, rfl⟩ := ru; exact PySem.P.repr_of_int (by simpa [PyData.showable] using h1) (by have := fin { s with toks := s.toks + 1 } (I.tok _) s.toks; simpa only [PyData.shown] using this)
        | str y => obtain ⟨t, rfl⟩ := ru; exact PySem.P.repr_of_str (by have := fin { s with toks := s.toks + 1 } (I.tok _) s.toks; simpa only [PyData.shown] using this) (by simpa only [PyData.shown] using h4)
        | @lst a ys ds hs ha =>
          cases ru
          obtain ⟨as, rd⟩ := Dp.reads I _ _ _ (Dp.lst hs ha) (show RelV (.ref a) (.ref a) from rfl)
          refine PySem.repr_of_reads' rd h1 (PyData.noDict_hsm h2) c.gs (by have := c.un; omega) (fun b o e => e) (fun h' u tk hk => fin _ (I.kept (t' := tk) hk) u) h4
        | @tup a ys ds hs ha =>
          cases ru
          obtain ⟨as, rd⟩ := Dp.reads I _ _ _ (Dp.tup hs ha) (show RelV (.ref a) (.ref a) from rfl)
          refine PySem.repr_of_reads' rd h1 (PyData.noDict_hsm h2) c.gs (by have := c.un; omega) (fun b o e => e) (fun h' u tk hk => fin _ (I.kept (t' := tk) hk) u) h4
      · cases hp
    · cases hp
  · cases hp
end
end M
/-! MPD: subscripts, slices, what is walked, dict lookups. -/
namespace M
open PySem L2

/-! ### keys -/
def keyIs : Key → Val → Bool
  | .inl i, .int j => i == j
  | .inr s, .str t => s == t
  | _, _ => false
def keyOf : Val → Option Key
  | .int i => some (.inl i)
  | .str s => some (.inr s)
  | _ => none
def dGet (kvs : List (Val × Val)) (q : Key) : Option Val := (kvs.find? fun p => keyIs q p.1).map (·.2)
def dPut (kvs : List (Val × Val)) (q : Key) (v : Val) : List (Val × Val) := if (kvs.any fun p => keyIs q p.1) = true then kvs.map (fun p => if keyIs q p.1 = true then (p.1, v) else p) else kvs ++ [(kv q, v)]
def dDel (kvs : List (Val × Val)) (q : Key) : List (Val × Val) := kvs.filter fun p => !keyIs q p.1
theorem keyIs_kv (q q' : Key) : keyIs q (kv q') = decide (q' = q) := by
  cases q <;> cases q' <;> simp [keyIs, kv] <;> (rw [Bool.eq_iff_iff]; simp; exact ⟨Eq.symm, Eq.symm⟩)
theorem keyOf_kv {v : Val} {q : Key} (h : keyOf v = some q) : v = kv q := by
  cases v <;> simp [keyOf] at h <;> (subst h; rfl)
section
variable {w : Wd} {G : Hp}
theorem repK_get (q : Key) : ∀ {ds : List (Val × Val)} {kvs : List (Key × V)}, RepK w G ds kvs → (∀ d, dGet ds q = some d → ∃ x, valV kvs q = some x ∧ Rep w G d x) ∧ (dGet ds q = none → valV kvs q = none)
  | [], kvs, r => by
    rw [RepK] at r; subst r
    exact ⟨fun d h => by simp [dGet] at h, fun _ => rfl⟩
  | (k, d) :: ds, kvs, r => by
    rw [RepK] at r
    obtain ⟨q', y, ys, rfl, ⟨rfl, _⟩, r1, r2⟩ := r
    obtain ⟨i1, i2⟩ := repK_get q r2
    by_cases e : q' = q
    · have hk : keyIs q (kv q') = true := by rw [keyIs_kv]; exact decide_eq_true e
      refine ⟨fun d' h => ?_, fun h => ?_⟩
      · simp [dGet, List.find?_cons, hk] at h
        subst h
        exact ⟨y, valV_pos e, r1⟩
      · simp [dGet, List.find?_cons, hk] at h
    · have hk : keyIs q (kv q') = false := by rw [keyIs_kv]; exact decide_eq_false e
      have e2 : dGet ((kv q', d) :: ds) q = dGet ds q := by simp [dGet, List.find?_cons, hk]
      rw [e2, valV_neg e]
      exact ⟨i1, i2⟩
theorem repK_length : ∀ {ds : List (Val × Val)} {kvs : List (Key × V)}, RepK w G ds kvs → ds.length = kvs.length
  | [], _, r => by rw [RepK] at r; subst r; rfl
  | (k, d) :: ds, _, r => by
    rw [RepK] at r
    obtain ⟨q', y, ys, rfl, _, _, r2⟩ := r
    simp [repK_length r2]
theorem repK_any (q : Key) : ∀ {ds : List (Val × Val)} {kvs : List (Key × V)}, RepK w G ds kvs → (ds.any fun p => keyIs q p.1) = kvs.any fun kv => decide (kv.1 = q)
  | [], _, r => by rw [RepK] at r; subst r; rfl
  | (k, d) :: ds, _, r => by
    rw [RepK] at r
    obtain ⟨q', y, ys, rfl, ⟨rfl, _⟩, _, r2⟩ := r
    rw [List.any_cons, List.any_cons, repK_any q r2, keyIs_kv]
theorem repK_map {q : Key} {d : Val} {x : V} (rv : Rep w G d x) : ∀ {ds : List (Val × Val)} {kvs : List (Key × V)}, RepK w G ds kvs → RepK w G (ds.map fun p => if keyIs q p.1 = true then (p.1, d) else p) (kvs.map fun kv => if kv.1 = q then (kv.1, x) else kv)
  | [], _, r => by rw [RepK] at r; subst r; rw [List.map_nil, List.map_nil, RepK]
  | (k, e) :: ds, _, r => by
    rw [RepK] at r
    obtain ⟨q', y, ys, rfl, ⟨rfl, hb⟩, r1, r2⟩ := r
    rw [List.map_cons, List.map_cons]
    by_cases h : q' = q
    · subst h
      have hk : keyIs q' (kv q') = true := by rw [keyIs_kv]; exact decide_eq_true rfl
      simp only [hk, if_true]
      rw [RepK]
      exact ⟨q', x, _, rfl, ⟨rfl, hb⟩, rv, repK_map rv r2⟩
    · have hk : keyIs q (kv q') = false := by rw [keyIs_kv]; exact decide_eq_false h
      simp only [hk, h, Bool.false_eq_true, if_false]
      rw [RepK]
      exact ⟨q', y, _, rfl, ⟨rfl, hb⟩, r1, repK_map rv r2⟩
theorem repK_app : ∀ {ds es : List (Val × Val)} {xs ys : List (Key × V)}, RepK w G ds xs → RepK w G es ys → RepK w G (ds ++ es) (xs ++ ys)
  | [], _, _, _, r, q => by rw [RepK] at r; subst r; simpa using q
  | (k, d) :: ds, _, _, _, r, q => by
    rw [RepK] at r
    obtain ⟨q', y, zs, rfl, hb, r1, r2⟩ := r
    rw [List.cons_append, List.cons_append, RepK]
    exact ⟨q', y, _, rfl, hb, r1, repK_app r2 q⟩
theorem repK_put {q : Key} {d : Val} {x : V} {ds : List (Val × Val)} {kvs : List (Key × V)} (r : RepK w G ds kvs) (hb : kb q) (rv : Rep w G d x) : RepK w G (dPut ds q d) (putK kvs q x) := by
  unfold dPut putK
  rw [repK_any q r]
  split
  · exact repK_map rv r
  · refine repK_app r ?_
    rw [RepK]
    exact ⟨q, x, [], rfl, ⟨rfl, hb⟩, rv, by rw [RepK]⟩
theorem repK_del {q : Key} : ∀ {ds : List (Val × Val)} {kvs : List (Key × V)}, RepK w G ds kvs → RepK w G (dDel ds q) (dropK kvs q)
  | [], _, r => by rw [RepK] at r; subst r; simp [dDel, dropK]; rw [RepK]
  | (k, e) :: ds, _, r => by
    rw [RepK] at r
    obtain ⟨q', y, ys, rfl, ⟨rfl, hb⟩, r1, r2⟩ := r
    have ih := repK_del (q := q) r2
    unfold dDel dropK at ih ⊢
    rw [List.filter_cons, List.filter_cons]
    by_cases h : q' = q
    · subst h
      have hk : keyIs q' (kv q') = true := by rw [keyIs_kv]; exact decide_eq_true rfl
      simp only [hk, Bool.not_true, Bool.false_eq_true, if_false, ne_eq, not_true, decide_false]
      simp only [ne_eq] at ih
      exact ih
    · have hk : keyIs q (kv q') = false := by rw [keyIs_kv]; exact decide_eq_false h
      simp only [hk, h, Bool.not_false, if_true, ne_eq, not_false_eq_true, decide_true]
      simp only [ne_eq] at ih
      rw [RepK]
      exact ⟨q', y, _, rfl, ⟨rfl, hb⟩, r1, ih⟩
theorem rrep_key {H : Hp} {v : Val} {x : V} {q : Key} (r : RRep w G H v x) (h : keyOf v = some q) : x = kV q ∧ kb q := by
  cases v <;> simp [keyOf] at h
  · subst h; exact ⟨rrep_int r, True.intro⟩
  · subst h; exact rrep_str r
end

/-! ### a[i] -/
def Pix : List Val → Option (Bool × Val)
  | [.lst ds, .int i] => (atI ds i).map fun d => (false, d)
  | [.tup ds, .int i] => (atI ds i).map fun d => (false, d)
  | [.str z, .int i] => (atI z.cps.toList i).map fun c => (false, .str ⟨#[c]⟩)
  | [.scr ns, .int i] => (atI ns i).map fun n => (false, .int n)
  | [.dct false kvs, k] => match keyOf k with
    | some q => (dGet kvs q).map fun d => (false, d)
    | none => none
  | _ => none
theorem atI_reps {w : Wd} {G : Hp} {ds : List Val} {xs : List V} {i : Int} {d : Val} (r : Reps w G ds xs) (h : atI ds i = some d) : ∃ x, atI xs i = some x ∧ Rep w G d x := by
  unfold atI at h ⊢
  rw [← reps_length r]
  cases e : ixN ds.length i with
  | none => rw [e] at h; cases h
  | some j => rw [e] at h; exact reps_get r h
theorem atI_map {α β : Type} (f : α → β) (xs : List α) (i : Int) : atI (xs.map f) i = (atI xs i).map f := by
  unfold atI
  rw [List.length_map]
  cases ixN xs.length i with
  | none => rfl
  | some j => simp
theorem ixr_ix {X : Cx} {w : Wd} (c : Cal X w) : IxR X (r2Of w Pix) := by
  intro value slice pins s σ H x y v u Q I rx ry ⟨G, vs, o, z, le, rr, hp, q⟩ hs
  have fz : ∀ {d : Val} {a : V}, Rep w G d a → (∀ u G' H', Grow G H G' H' → NRep w G H G' H' false d u → Q u H') → Q a H := fun r q => q _ G H (Grow.refl le) (nrep_f r)
  unfold Pix at hp
  split at hp
  · obtain ⟨_, _, e, r1, r2⟩ := rreps_two rr
    cases e
    rw [Option.map_eq_some_iff] at hp
    obtain ⟨d, hd, e⟩ := hp
    cases e
    obtain ⟨a, xs, rfl, h, rs⟩ := rrep_lst le r1
    obtain rfl := rrep_int r2
    obtain ⟨b, hb, rb⟩ := atI_reps rs hd
    exact ix_list value slice pins s σ H _ _ v u Q I rx ry ⟨a, xs, _, b, rfl, rfl, .inl (.inl h), hb, fz rb q⟩ hs
  · obtain ⟨_, _, e, r1, r2⟩ := rreps_two rr
    cases e
    rw [Option.map_eq_some_iff] at hp
    obtain ⟨d, hd, e⟩ := hp
    cases e
    obtain ⟨a, xs, rfl, h, rs⟩ := rrep_tup le r1
    obtain rfl := rrep_int r2
    obtain ⟨b, hb, rb⟩ := atI_reps rs hd
    rw [c.K] at h
    exact ix_tup value slice pins s σ H _ _ v u Q I rx ry ⟨a, xs, _, b, rfl, rfl, h, hb, fz rb q⟩ hs
  · obtain ⟨_, _, e, r1, r2⟩ := rreps_two rr
    cases e
    rw [Option.map_eq_some_iff] at hp
    obtain ⟨d, hd, e⟩ := hp
    cases e
    obtain ⟨rfl, hz⟩ := rrep_str r1
    obtain rfl := rrep_int r2
    exact ix_str value slice pins s σ H _ _ v u Q I rx ry ⟨_, _, _, rfl, rfl, hz, hd, fz (rep_str.mpr ⟨rfl, by show 1 ≤ sizeLine; rw [PySem.sizeLine_eq]; decide⟩) q⟩ hs
  · obtain ⟨_, _, e, r1, r2⟩ := rreps_two rr
    cases e
    rw [Option.map_eq_some_iff] at hp
    obtain ⟨d, hd, e⟩ := hp
    cases e
    obtain ⟨a, rfl, h⟩ := rrep_scr le r1
    obtain rfl := rrep_int r2
    rw [c.K] at h
    exact ix_list value slice pins s σ H _ _ v u Q I rx ry ⟨a, _, _, .int d, rfl, rfl, h, by rw [atI_map, hd]; rfl, fz (rep_int.mpr rfl) q⟩ hs
  · obtain ⟨_, _, e, r1, r2⟩ := rreps_two rr
    cases e
    split at hp
    · rename_i k hk
      rw [Option.map_eq_some_iff] at hp
      obtain ⟨d, hd, e⟩ := hp
      cases e
      obtain ⟨rfl, _⟩ := rrep_key r2 hk
      obtain ⟨a, rfl, ⟨_, kvs, h, rk⟩ | ⟨ht, _⟩⟩ := rrep_dct le r1
      · obtain ⟨b, hb, rb⟩ := (repK_get k rk).1 _ hd
        have g : DGet H a (kV k) (some b) := .inl ⟨kvs, k, h, rfl, hb.symm⟩
        cases (show v = Value.ref a from rx)
        exact PyProof.Rows.tail_any (dict_typeIs I g) PySem.F.slot_dict_getitem.lookup (d_getItem (by have := c.un; omega) I g ry fun w' s3 I3 rw' => ⟨b, H, I3, rw', fz rb q⟩) hs
      · cases ht
    · cases hp
  · cases hp

/-! ### a[lo:hi] -/
def cutA {α : Type} (xs : List α) (lo hi : Option Int) : List α := (xs.drop (HT.sIx xs.length 0 lo)).take (HT.sIx xs.length xs.length hi - HT.sIx xs.length 0 lo)
def Psl : Val → Option Int → Option Int → Option (Bool × Val)
  | .str z, lo, hi => some (false, .str (cutS z lo hi))
  | .lst ds, lo, hi => some (true, .lst (cutA ds lo hi))
  | .tup ds, lo, hi => some (false, .tup (cutA ds lo hi))
  | .scr ns, lo, hi => some (true, .lst ((cutA ns lo hi).map .int))
  | _, _, _ => none
inductive PR where
  | ok (i : Option Int) (r : Env) | ex (e : Val) (r : Env) | bad
abbrev PF := Env → PR
def pNo : PF := fun r => .ok none r
def pInt (f : EF) : PF := fun r => match f r with
  | .ok _ v r' => match v with
    | .int i => .ok (some i) r'
    | _ => .bad
  | .ex e r' => .ex e r'
  | .bad => .bad
def tP (A : Act) (W : WX) (f : PF) : TO := fun σ H Q => ∃ r G, Ok A G H σ r ∧ match f r with
  | .ok i r' => ∀ G' H', Ok A G' H' σ r' → Step σ r G H r' G' H' → Q i H'
  | .ex e r' => ExP A W G σ e r'
  | .bad => False
theorem PO.imp {X : Cx} {e : Option Expr} {t t' : TO} (h : PO X e t) (hi : ∀ σ H Q, t' σ H Q → t σ H Q) : PO X e t' := ⟨fun pins s σ H Q I q => h.run pins s σ H Q I (hi _ _ _ q)⟩
def slc (fo : OF) (fl fu : PF) : EF := fun r => match fo r with
  | .ok h r1 => match fl r1 with
    | .ok lo r2 => match fu r2 with
      | .ok hi r3 => match h.get r3 with
        | some v => match Psl v lo hi with
          | some (o, z) => .ok o z r3
          | none => .bad
        | none => .bad
      | .ex e r3 => .ex e r3
      | .bad => .bad
    | .ex e r2 => .ex e r2
    | .bad => .bad
  | .ex e r1 => .ex e r1
  | .bad => .bad
section
variable {X : Cx} {A : Act} {W : WX} {e : Expr} {f : EF} {fo : OF} {fl fu : PF} {lo hi : Option Expr} {p2 pos : Pos}
theorem po_pNo : PO X none (tP A W pNo) := PO.imp po_none fun σ H Q ⟨r, G, k, m⟩ => m G H k Step.refl
theorem po_pInt (h : PE X e (tE A W f)) : PO X (some e) (tP A W (pInt f)) := PO.imp (po_some h) fun σ H Q ⟨r, G, k, m⟩ => ⟨r, G, k, by
  unfold pInt at m
  cases hf : f r with
  | bad => rw [hf] at m; exact m.elim
  | ex e r' => rw [hf] at m; exact m
  | ok o v r' =>
    simp only [hf] at m
    intro x G1 H1 R
    cases v with
    | int i =>
      have ex : x = .int i := by
        have t := R.tr
        cases o with
        | true => obtain ⟨_, _, ro, _⟩ := t; exact ro.elim
        | false => exact rep_int.mp (show Rep A.w G1 (.int i) x from t)
      exact ⟨i, ex, m G1 H1 R.ok R.st⟩
    | _ => exact False.elim m⟩
theorem reps_cut {w : Wd} {G : Hp} {ds : List Val} {xs : List V} (r : Reps w G ds xs) (lo hi : Option Int) : Reps w G (cutA ds lo hi) (cutV xs lo hi) := by
  unfold cutA cutV
  rw [reps_length r]
  exact reps_take _ (reps_drop _ r)
theorem cut_whole {α : Type} (xs : List α) {lo hi : Option Int} (h : HT.sIx xs.length 0 lo = 0 ∧ HT.sIx xs.length xs.length hi = xs.length) : cutA xs lo hi = xs := by
  unfold cutA
  rw [h.1, h.2]
  simp
/-- HandS's reading of a slice, of values -/
def rSl (w : Wd) : V → Option Int → Option Int → Hp → VK → Prop := fun x lo hi H Q => ∃ G v o z, Le G H ∧ RRep w G H v x ∧ Psl v lo hi = some (o, z) ∧ ∀ u G' H', Grow G H G' H' → NRep w G H G' H' o z u → Q u H'
theorem sl_val {w : Wd} (c : Cal X w) : SlR X (rSl w) := by
  intro pins s σ H x v vl vu lo hi sl Q I rx hs pl pu ⟨G, a, o, z, le, r1, hp, q⟩
  unfold Psl at hp
  split at hp
  · cases hp
    obtain ⟨rfl, hz⟩ := rrep_str r1
    exact sl_str pins s σ H _ v vl vu lo hi sl Q I rx hs pl pu ⟨_, rfl, hz, q _ G H (Grow.refl le) (nrep_f (rep_str.mpr ⟨rfl, Nat.le_trans (cutS_length _ _ _) hz⟩))⟩
  · cases hp
    obtain ⟨a, xs, rfl, h, rs⟩ := rrep_lst le r1
    exact sl_list pins s σ H _ v vl vu lo hi sl Q I rx hs pl pu ⟨a, xs, rfl, .inl (.inl h), fun p hp => new_lst le hp (reps_cut rs lo hi) q⟩
  · cases hp
    have r0 := r1
    obtain ⟨a, xs, rfl, h, rs⟩ := rrep_tup le r1
    have hl := reps_length rs
    rw [c.K] at h
    refine sl_tupA pins s σ H _ v vl vu lo hi sl Q I rx hs pl pu ⟨a, xs, rfl, h, fun hw => ?_, fun hw p hp => ?_⟩
    · refine q _ G H (Grow.refl le) (nrep_f ?_)
      rw [← hl] at hw
      rw [cut_whole _ hw]
      rcases r0 with r0 | ⟨_, _, r0⟩
      · exact r0
      · exact r0.elim
    · have gr := Grow.laidG (o := .tup (cutV xs lo hi)) le hp
      exact q _ _ _ gr (nrep_f (rep_tup.mpr ⟨p, _, rfl, SqT.of upd_same, (reps_cut rs lo hi).mono gr.g⟩))
  · cases hp
    obtain ⟨a, rfl, h⟩ := rrep_scr le r1
    rw [c.K] at h
    rename_i ns
    refine sl_list pins s σ H _ v vl vu lo hi sl Q I rx hs pl pu ⟨a, _, rfl, h, fun p hp => new_lst le hp ?_ q⟩
    have e : cutV (ns.map V.int) lo hi = (cutA ns lo hi).map V.int := by
      unfold cutV cutA
      rw [List.length_map, ← List.map_drop, ← List.map_take]
    rw [e]
    exact reps_of_ints
  · cases hp
theorem pe_slc (c : Cal X A.w) (he : PE X e (tO A W fo)) (hl : PO X lo (tP A W fl)) (hu : PO X hi (tP A W fu)) : PE X (.Subscript e (.Slice lo hi none p2) pos) (tE A W (slc fo fl fu)) :=
  PE.imp (pe_slice (sl_val c) he hl hu) fun σ H Q ⟨r, G, k, m⟩ => ⟨r, G, k, by
    unfold slc at m
    cases hf : fo r with
    | bad => rw [hf] at m; exact m.elim
    | ex e r' => rw [hf] at m; exact m
    | ok h r1 =>
      simp only [hf] at m
      intro x G1 H1 k1 st1 t1
      refine ⟨r1, G1, k1, ?_⟩
      cases hg : fl r1 with
      | bad => simp only [hg] at m
      | ex e r2 => simp only [hg] at m ⊢; exact m.mono st1.ex
      | ok l r2 =>
        simp only [hg] at m ⊢
        intro G2 H2 k2 st2
        refine ⟨r2, G2, k2, ?_⟩
        cases hu' : fu r2 with
        | bad => simp only [hu'] at m
        | ex e r3 => simp only [hu'] at m ⊢; exact (m.mono st1.ex).mono st2.ex
        | ok u r3 =>
          simp only [hu'] at m ⊢
          intro G3 H3 k3 st3
          have st := (st1.trans st2).trans st3
          cases hv : h.get r3 with
          | none => simp only [hv] at m
          | some v =>
            simp only [hv] at m
            cases hp : Psl v l u with
            | none => simp only [hp] at m
            | some oz =>
              obtain ⟨o, z⟩ := oz
              simp only [hp] at m
              refine ⟨G3, v, o, z, k3.sub, ((t1.step st2).step st3).get k3 hv, hp, fun u' G4 H4 gr nr => ?_⟩
              refine m u' G4 H4 ⟨k3.grow gr, st.trans gr.step, nr.trep k3, fun eo a ea => ?_⟩
              subst eo
              obtain ⟨b, e1, _, _, n⟩ := nr
              rw [ea] at e1; cases e1
              exact st.fresh n⟩
end

/-! ### what is walked -/
def signs (z : Str) : List Val := z.cps.toList.map fun c => .str ⟨#[c]⟩
def itemsOf : Val → Option (List Val)
  | .lst ds => some ds
  | .tup ds => some ds
  | .scr ns => some (ns.map .int)
  | .str z => some (signs z)
  | .dct false kvs => some (kvs.map (·.1))
  | _ => none
def itV (f : EF) : IF := fun r => match frz f r with
  | .ok _ v r' => match itemsOf v with
    | some vs => .ok vs r'
    | none => .bad
  | .ex e r' => .ex e r'
  | .bad => .bad
def upTo (lo : Int) (n : Nat) : List Val := (List.range n).map fun (k : Nat) => Val.int (lo + (k : Int))
def rng1 : List Val → Option (List Val)
  | [.int j] => if -(2 ^ 62) ≤ j ∧ j < 2 ^ 62 then some (upTo 0 j.toNat) else none
  | _ => none
def rng2 : List Val → Option (List Val)
  | [.int i, .int j] => if -(2 ^ 62) ≤ i ∧ i < 2 ^ 62 ∧ -(2 ^ 62) ≤ j ∧ j < 2 ^ 62 then some (upTo i (j - i).toNat) else none
  | _ => none
def itR (q : List Val → Option (List Val)) (g : AF) : IF := fun r => match g r with
  | .ok vs r' => match q vs with
    | some us => .ok us r'
    | none => .bad
  | .ex e r' => .ex e r'
  | .bad => .bad
section
variable {w : Wd} {K : PySem.W.Frag} {G : Hp}
theorem itok_list {a : Addr} {ds : List Val} {xs : List V} (h : SqL K G a xs) (r : Reps w G ds xs) : ItOk w (Itl K a) G ds where
  go := fun G' H i le le' hi => by
    have : i < xs.length := by rw [← reps_length r]; exact hi
    exact ⟨xs, xs[i], sql_mono (le.trans le') h, by simp [this]⟩
  stop := fun G' H i le le' hi => ⟨xs, sql_mono (le.trans le') h, by rw [← reps_length r]; exact hi⟩
  yld := fun G' H i v x H' le le' hv ⟨e, hx⟩ => by
    subst e
    obtain ⟨y, e1, e2⟩ := reps_get r hv
    have := hx xs (sql_mono (le.trans le') h)
    rw [e1] at this; cases this
    exact ⟨G', Grow.refl le', e2.mono le⟩
theorem itok_tup {a : Addr} {ds : List Val} {xs : List V} (h : SqT K G a xs) (r : Reps w G ds xs) : ItOk w (Itt K a) G ds where
  go := fun G' H i le le' hi => by
    have : i < xs.length := by rw [← reps_length r]; exact hi
    exact ⟨xs, xs[i], sqt_mono (le.trans le') h, by simp [this]⟩
  stop := fun G' H i le le' hi => ⟨xs, sqt_mono (le.trans le') h, by rw [← reps_length r]; exact hi⟩
  yld := fun G' H i v x H' le le' hv ⟨e, hx⟩ => by
    subst e
    obtain ⟨y, e1, e2⟩ := reps_get r hv
    have := hx xs (sqt_mono (le.trans le') h)
    rw [e1] at this; cases this
    exact ⟨G', Grow.refl le', e2.mono le⟩
theorem itok_str (z : Str) : ItOk w (Its z) G (signs z) where
  go := fun G' H i le le' hi => by show i < z.cps.size; simpa [signs] using hi
  stop := fun G' H i le le' hi => by show z.cps.size ≤ i; simpa [signs] using hi
  yld := fun G' H i v x H' le le' hv ⟨e, c, hc, hx⟩ => by
    subst e
    subst hx
    have : z.cps.toList[i]? = some c := by rw [Array.getElem?_toList]; exact hc
    simp only [signs, List.getElem?_map, this, Option.map_some, Option.some.injEq] at hv
    subst hv
    exact ⟨G', Grow.refl le', rep_str.mpr ⟨rfl, by show 1 ≤ sizeLine; rw [PySem.sizeLine_eq]; decide⟩⟩
theorem itok_rng (lo : Int) (n : Nat) : ItOk w (Itr lo n) G (upTo lo n) where
  go := fun G' H i le le' hi => by show i < n; simpa [upTo] using hi
  stop := fun G' H i le le' hi => by show n ≤ i; simpa [upTo] using hi
  yld := fun G' H i v x H' le le' hv ⟨e, hx⟩ => by
    subst e
    subst hx
    have hi : i < n := by
      have := (List.getElem?_eq_some_iff.mp hv).1
      simpa [upTo] using this
    simp only [upTo, List.getElem?_map, List.getElem?_range hi, Option.map_some, Option.some.injEq] at hv
    subst hv
    exact ⟨G', Grow.refl le', rep_int.mpr rfl⟩
theorem repK_at : ∀ {ds : List (Val × Val)} {kvs : List (Key × V)} {i : Nat} {q : Key} {x : V}, RepK w G ds kvs → kvs[i]? = some (q, x) → ∃ d, ds[i]? = some (kv q, d) ∧ kb q ∧ Rep w G d x
  | [], _, _, _, _, r, h => by rw [RepK] at r; subst r; simp at h
  | (k, d) :: ds, _, i, q, x, r, h => by
    rw [RepK] at r
    obtain ⟨q', y, ys, rfl, ⟨rfl, hb⟩, r1, r2⟩ := r
    cases i with
    | zero => simp at h; obtain ⟨rfl, rfl⟩ := h; exact ⟨d, rfl, hb, r1⟩
    | succ i => obtain ⟨d', h1, h2⟩ := repK_at r2 (i := i) (by simpa using h); exact ⟨d', by simpa using h1, h2⟩
theorem rep_kv {q : Key} (hb : kb q) : Rep w G (kv q) (kV q) := by
  cases q with
  | inl i => exact rep_int.mpr rfl
  | inr s => exact rep_str.mpr ⟨rfl, hb⟩
theorem itok_keys {a : Addr} {o : Obj} {ds : List (Val × Val)} {kvs : List (Key × V)} (h : G a = some (.frz o (.dK kvs))) (r : RepK w G ds kvs) : ItOk w (Itk a o kvs) G (ds.map (·.1)) where
  go := fun G' H i le le' hi => ⟨le' _ _ (le _ _ h), by rw [← repK_length r]; simpa using hi⟩
  stop := fun G' H i le le' hi => ⟨le' _ _ (le _ _ h), by rw [← repK_length r]; simpa using hi⟩
  yld := fun G' H i v x H' le le' hv ⟨e, q, y, hk, hx⟩ => by
    subst e
    subst hx
    obtain ⟨d, h1, h2, _⟩ := repK_at r hk
    simp only [List.getElem?_map, h1, Option.map_some, Option.some.injEq] at hv
    subst hv
    exact ⟨G', Grow.refl le', rep_kv h2⟩
end
section
variable {X : Cx} {A : Act} {W : WX} {tg e : Expr} {f : EF} {g : AF}
theorem pi_V (hw : A.w.K = X.K) (he : PE X e (tE A W f)) : PI X tg e (tIt A W (itV f)) := by
  refine ⟨fun pins s σ H R I h => ?_⟩
  obtain ⟨r, G, k, m⟩ := h
  have h2 : tE A W (frz f) σ H fun x H1 => ∃ J, R J H1 ∧ ((∃ a xs, x = .ref a ∧ J = Itl X.K a ∧ SqL X.K H1 a xs) ∨ (∃ a xs, x = .ref a ∧ J = Itt X.K a ∧ SqT X.K H1 a xs) ∨ (∃ z, x = .str z ∧ J = Its z) ∨ ∃ a o kvs, x = .ref a ∧ J = Itk a o kvs ∧ H1 a = some (.frz o (.dK kvs))) := by
    refine ⟨r, G, k, ?_⟩
    unfold itV at m
    cases hf : frz f r with
    | bad => simp only [hf] at m
    | ex e r' => simp only [hf] at m ⊢; exact m
    | ok o v r' =>
      have eo := frz_false hf
      subst eo
      simp only [hf] at m ⊢
      intro x G1 H1 R1
      cases hi : itemsOf v with
      | none => simp only [hi] at m
      | some vs =>
        simp only [hi] at m
        have fin : ∀ J, ItOk A.w J G1 vs → R J H1 := fun J io => m J G1 H1 R1.ok R1.st io
        have rp : Rep A.w G1 v x := R1.tr
        have le := R1.ok.sub
        unfold itemsOf at hi
        split at hi
        · cases hi
          obtain ⟨a, xs, rfl, h, rs⟩ := rep_lst.mp rp
          exact ⟨_, fin _ (itok_list (K := X.K) (.inl (.inl h)) rs), .inl ⟨a, xs, rfl, rfl, .inl (.inl (le _ _ h))⟩⟩
        · cases hi
          obtain ⟨a, xs, rfl, h, rs⟩ := rep_tup.mp rp
          rw [hw] at h
          exact ⟨_, fin _ (itok_tup h rs), .inr (.inl ⟨a, xs, rfl, rfl, sqt_mono le h⟩)⟩
        · cases hi
          rw [Rep] at rp
          obtain ⟨a, rfl, h⟩ := rp
          rw [hw] at h
          exact ⟨_, fin _ (itok_list h reps_of_ints), .inl ⟨a, _, rfl, rfl, sql_mono le h⟩⟩
        · cases hi
          obtain ⟨rfl, _⟩ := rep_str.mp rp
          exact ⟨_, fin _ (itok_str _), .inr (.inr (.inl ⟨_, rfl, rfl⟩))⟩
        · cases hi
          rw [Rep] at rp
          obtain ⟨a, rfl, ⟨_, kvs, o, h, rk⟩ | ⟨ht, _⟩⟩ := rp
          · exact ⟨_, fin _ (itok_keys h rk), .inr (.inr (.inr ⟨a, o, kvs, rfl, rfl, le _ _ h⟩))⟩
          · cases ht
        · cases hi
  refine wpAny_mono ((pe_frz he).run pins s σ H _ I h2) (fun v s1 ⟨x, H1, I1, rx, J, hR, hx⟩ => ?_) fun _ _ z => z
  rcases hx with ⟨a, xs, rfl, rfl, h⟩ | ⟨a, xs, rfl, rfl, h⟩ | ⟨z, rfl, rfl⟩ | ⟨a, o, kvs, rfl, rfl, h⟩
  · cases (show v = Value.ref a from rx)
    obtain ⟨its, _, pl, _⟩ := I1.list h
    exact wpAny_pyIter_list pl.isList (pi_one (tk := s1.toks) I1 _ (turn_list a _) ⟨_, Heap.get?_push_size _ rfl, rfl, rfl⟩ hR)
  · cases (show v = Value.ref a from rx)
    obtain ⟨its, _, pl, _⟩ := I1.tuple h
    exact wpAny_pyIter_tuple (show s1.heap.IsTuple a its.toArray from pl) (pi_one (tk := s1.toks) I1 _ (turn_tuple a _) ⟨_, Heap.get?_push_size _ rfl, rfl, rfl⟩ hR)
  · obtain ⟨t, rfl⟩ := rx
    cases ha : z.cps.all (· < 128) with
    | false => exact wpAny_pyIter_wide ha (pi_one (tk := s1.toks) I1 _ (turn_str _ z t "str_iterator" (.inr rfl)) ⟨_, Heap.get?_push_size _ rfl, rfl, rfl⟩ hR)
    | true => exact wpAny_pyIter_ascii ha (pi_one (tk := s1.toks) I1 _ (turn_str _ z t "str_ascii_iterator" (.inl rfl)) ⟨_, Heap.get?_push_size _ rfl, rfl, rfl⟩ hR)
  · cases (show v = Value.ref a from rx)
    obtain ⟨hs, hgd, hx, es, ep, vs, hdt, hsz, _, _⟩ := I1.frzK h
    refine iter_keys hs hgd hx hdt (pi_one (tk := s1.toks) I1 _ (turn_keys _ hdt) ⟨_, Heap.get?_push_size _ rfl, rfl, ?_⟩ hR)
    rw [hsz] <;> rfl
theorem pi_rng1 {a : Expr} {p pos : Pos} (hg : Gl X "range") (hm : X.mg "range" = none) (ha : PA X [a] (tAs A W g)) (hs : starEach [a] X.env = [(false, eval a X.env)] := by rfl) : PI X tg (.Call (.Name "range" p) [a] [] pos) (tIt A W (itR rng1 g)) :=
  PI.imp (pi_range1 hg hm ha hs) fun σ H R ⟨r, G, k, m⟩ => ⟨r, G, k, by
    unfold itR at m
    cases hf : g r with
    | bad => simp only [hf] at m
    | ex e r' => simp only [hf] at m ⊢; exact m
    | ok vs r' =>
      simp only [hf] at m ⊢
      intro xs G1 H1 k1 st1 rs
      cases hq : rng1 vs with
      | none => simp only [hq] at m
      | some us =>
        simp only [hq] at m
        unfold rng1 at hq
        split at hq
        · split at hq
          · rename_i hb
            cases hq
            exact ⟨_, reps_ints (ns := [_]) rs, hb.1, hb.2, m _ G1 H1 k1 st1 (itok_rng 0 _)⟩
          · cases hq
        · cases hq⟩
theorem pi_rng2 {a b : Expr} {p pos : Pos} (hg : Gl X "range") (hm : X.mg "range" = none) (ha : PA X [a, b] (tAs A W g)) (hs : starEach [a, b] X.env = [(false, eval a X.env), (false, eval b X.env)] := by rfl) (hs2 : starEach [b] X.env = [(false, eval b X.env)] := by rfl) :
    PI X tg (.Call (.Name "range" p) [a, b] [] pos) (tIt A W (itR rng2 g)) :=
  PI.imp (pi_range2 hg hm ha hs hs2) fun σ H R ⟨r, G, k, m⟩ => ⟨r, G, k, by
    unfold itR at m
    cases hf : g r with
    | bad => simp only [hf] at m
    | ex e r' => simp only [hf] at m ⊢; exact m
    | ok vs r' =>
      simp only [hf] at m ⊢
      intro xs G1 H1 k1 st1 rs
      cases hq : rng2 vs with
      | none => simp only [hq] at m
      | some us =>
        simp only [hq] at m
        unfold rng2 at hq
        split at hq
        · split at hq
          · rename_i hb
            cases hq
            exact ⟨_, _, reps_ints (ns := [_, _]) rs, hb, m _ G1 H1 k1 st1 (itok_rng _ _)⟩
          · cases hq
        · cases hq⟩
end
end M
/-! MPE: rules of expressions in short, methods, containers changed in place, displays of dicts. -/
namespace M
open PySem L2

abbrev bin (P : List Val → Option (Bool × Val)) (fa fb : OF) : EF := prim P (osCons fa (osCons fb osNil))
section
variable {X : Cx} {A : Act} {W : WX} {x y e : Expr} {es : List Expr} {fa fb fc : OF} {g : OsF} {P P' : List Val → Option (Bool × Val)} {pos p : Pos}
theorem pe_bin {op : Operator} (ho : OpR X (binaryOp op) (r2Of A.w P)) (ha : PE X x (tO A W fa)) (hb : PE X y (tO A W fb)) : PE X (.BinOp x op y pos) (tE A W (bin P fa fb)) := PE.imp (pe_op ho ha hb) fun _ _ _ q => prim_os2 q
theorem pe_cmpV {op : CmpOp} (ho : OpR X (compareOp op) (r2Of A.w P)) (ha : PE X x (tO A W fa)) (hb : PE X y (tO A W fb)) (hm : behindInMarks op y = false := by first | exact nobehind _ (by decide) (by decide) | rfl) : PE X (.Compare x [op] [y] pos) (tE A W (bin P fa fb)) := PE.imp (pe_cmpR ho ha hb hm) fun _ _ _ q => prim_os2 q
theorem pt_cmpV {op : CmpOp} (ho : OpR X (compareOp op) (r2Of A.w P)) (ha : PE X x (tO A W fa)) (hb : PE X y (tO A W fb)) (hm : behindInMarks op y = false := by first | exact nobehind _ (by decide) (by decide) | rfl) : PT X (.Compare x [op] [y] pos) (tBo A W (tst (bin P fa fb))) := pt_cmp' ho ha hb hm
theorem pe_idx (c : Cal X A.w) (ha : PE X x (tO A W fa)) (hb : PE X y (tO A W fb)) (hs : PlainIx y := by intro _ _; rfl) : PE X (.Subscript x y pos) (tE A W (bin Pix fa fb)) := PE.imp (pe_ix (ixr_ix c) ha hb hs) fun _ _ _ q => prim_os2 q
/-- f(e, ..), f a built-in function -/
theorem pe_bi {x : Str} {id : String} (hc : CallR X (.builtin id) (rOf A.w P)) (hg : Gl X x) (hm : X.mg x = none) (hv : bootBuiltins x = some (.builtin id)) (ha : PA X (e :: es) (tOs A W g)) (hn : x ≠ "__name__" := by decide) (hdb : (x == ("__debug__" : Str)) = false := by decide)
    (he : NoStar X e es := by rfl) (hpl : NoStars X es pos := by rfl) : PE X (.Call (.Name x p) (e :: es) [] pos) (tE A W (prim P g)) :=
  PE.imp (pe_callB hc hg hm hv ha hn hdb he hpl) fun _ _ _ q => prim_os (rok_rOf _ _) q
theorem pe_bt {x : Str} {T : String} (hc : CallR X (.type T) (rOf A.w P)) (hg : Gl X x) (hm : X.mg x = none) (hv : bootBuiltins x = some (.type T)) (ha : PA X (e :: es) (tOs A W g)) (hn : x ≠ "__name__" := by decide) (hdb : (x == ("__debug__" : Str)) = false := by decide)
    (he : NoStar X e es := by rfl) (hpl : NoStars X es pos := by rfl) : PE X (.Call (.Name x p) (e :: es) [] pos) (tE A W (prim P g)) :=
  PE.imp (pe_callTy hc hg hm hv ha hn hdb he hpl) fun _ _ _ q => prim_os (rok_rOf _ _) q

/-! ### a op b op c -/
def chn (P P' : List Val → Option (Bool × Val)) (fa fb fc : OF) : EF := fun r => match fa r with
  | .ok h1 r1 => match fb r1 with
    | .ok h2 r2 => match getAll r2 [h1, h2] with
      | some vs => match P vs with
        | some (false, .bl true) => match fc r2 with
          | .ok h3 r3 => match getAll r3 [h2, h3] with
            | some us => match P' us with
              | some (false, .bl b) => .ok false (.bl b) r3
              | _ => .bad
            | none => .bad
          | .ex e r3 => .ex e r3
          | .bad => .bad
        | some (false, .bl false) => .ok false (.bl false) r2
        | _ => .bad
      | none => .bad
    | .ex e r2 => .ex e r2
    | .bad => .bad
  | .ex e r1 => .ex e r1
  | .bad => .bad
theorem chn_of {σ : L2.St} {H : Hp} {Q : VK} (h : tE A W (chn P P' fa fb fc) σ H Q) : tChain (r2Of A.w P) (r2Of A.w P') (tO A W fa) (tO A W fb) (tO A W fc) σ H Q := by
  obtain ⟨r, G, k, m⟩ := h
  refine ⟨r, G, k, ?_⟩
  unfold chn at m
  cases hf : fa r with
  | bad => rw [hf] at m; exact m.elim
  | ex e r' => rw [hf] at m; exact m
  | ok h1 r1 =>
    simp only [hf] at m
    intro x G1 H1 k1 st1 t1
    refine ⟨r1, G1, k1, ?_⟩
    cases hg : fb r1 with
    | bad => simp only [hg] at m
    | ex e r2 => simp only [hg] at m ⊢; exact m.mono st1.ex
    | ok h2 r2 =>
      simp only [hg] at m ⊢
      intro y G2 H2 k2 st2 t2
      cases hv : getAll r2 [h1, h2] with
      | none => simp only [hv] at m
      | some vs =>
        simp only [hv] at m
        have rr : RReps A.w G2 H2 vs [x, y] := HReps.get k2 (show HReps A G2 H2 σ r2 [h1, h2] [x, y] from ⟨x, [y], rfl, t1.step st2, y, [], rfl, t2, rfl⟩) hv
        cases hp : P vs with
        | none => simp only [hp] at m
        | some oz =>
          obtain ⟨o, d⟩ := oz
          cases o with
          | true => simp only [hp] at m
          | false =>
            cases d with
            | bl b =>
              cases b with
              | true =>
                simp only [hp] at m
                refine ⟨G2, vs, false, .bl true, k2.sub, rr, hp, fun u G3 H3 gr nr => ?_⟩
                refine ⟨true, rep_bl.mp (show Rep A.w G3 (.bl true) u from nr), ?_⟩
                simp only [if_true]
                refine ⟨r2, G3, k2.grow gr, ?_⟩
                have st3 : Step σ r G H r2 G3 H3 := (st1.trans st2).trans gr.step
                cases hc : fc r2 with
                | bad => simp only [hc] at m
                | ex e r3 => simp only [hc] at m ⊢; exact m.mono st3.ex
                | ok h3 r3 =>
                  simp only [hc] at m ⊢
                  intro z G4 H4 k4 st4 t4
                  cases hu : getAll r3 [h2, h3] with
                  | none => simp only [hu] at m
                  | some us =>
                    simp only [hu] at m
                    have rr2 : RReps A.w G4 H4 us [y, z] := HReps.get k4 (show HReps A G4 H4 σ r3 [h2, h3] [y, z] from ⟨y, [z], rfl, (t2.step gr.step).step st4, z, [], rfl, t4, rfl⟩) hu
                    cases hp' : P' us with
                    | none => simp only [hp'] at m
                    | some oz' =>
                      obtain ⟨o', d'⟩ := oz'
                      cases o' with
                      | true => simp only [hp'] at m
                      | false =>
                        cases d' with
                        | bl b =>
                          simp only [hp'] at m
                          exact ⟨G4, us, false, .bl b, k4.sub, rr2, hp', fun u' G5 H5 gr' nr' => m u' G5 H5 ⟨k4.grow gr', (st3.trans st4).trans gr'.step, nr', no_own⟩⟩
                        | _ => simp only [hp'] at m
              | false =>
                simp only [hp] at m
                refine ⟨G2, vs, false, .bl false, k2.sub, rr, hp, fun u G3 H3 gr nr => ?_⟩
                refine ⟨false, rep_bl.mp (show Rep A.w G3 (.bl false) u from nr), ?_⟩
                simp only [Bool.false_eq_true, if_false]
                exact m (.bl false) G3 H3 ⟨k2.grow gr, (st1.trans st2).trans gr.step, trep_f (rep_bl.mpr rfl), no_own⟩
            | _ => simp only [hp] at m
theorem pe_chn {z : Expr} {op op' : CmpOp} (ho : OpR X (compareOp op) (r2Of A.w P)) (ho' : OpR X (compareOp op') (r2Of A.w P')) (ha : PE X x (tO A W fa)) (hb : PE X y (tO A W fb)) (hc : PE X z (tO A W fc)) (hm : lastMarks [op, op'] [y, z] = false := by with_unfolding_all rfl) :
    PE X (.Compare x [op, op'] [y, z] pos) (tE A W (chn P P' fa fb fc)) := PE.imp (pe_chain ho ho' ha hb hc hm) fun _ _ _ q => chn_of q
theorem pt_chn {z : Expr} {op op' : CmpOp} (ho : OpR X (compareOp op) (r2Of A.w P)) (ho' : OpR X (compareOp op') (r2Of A.w P')) (ha : PE X x (tO A W fa)) (hb : PE X y (tO A W fb)) (hc : PE X z (tO A W fc)) (hm : lastMarks [op, op'] [y, z] = false := by with_unfolding_all rfl) :
    PT X (.Compare x [op, op'] [y, z] pos) (tBo A W (tst (chn P P' fa fb fc))) := PT.imp (pt_chain ho ho' ha hb hc hm) fun _ _ _ q => chn_of (tst_of q)
end

/-! ### o.m(e, ..) that changes nothing -/
def oTy (T : String) (fo : OF) : OF := fun r => match fo r with
  | .ok h r1 => match h.get r1 with
    | some v => if tyOf v = some T then .ok h r1 else .bad
    | none => .bad
  | .ex e r1 => .ex e r1
  | .bad => .bad
def TyAt (w : Wd) (T : String) (x : V) (H : Hp) : Prop := ∃ G v, Le G H ∧ RRep w G H v x ∧ tyOf v = some T
section
variable {X : Cx} {A : Act} {W : WX} {o e : Expr} {es : List Expr} {fo : OF} {g : OsF} {P : List Val → Option (Bool × Val)} {cpos apos : Pos} {T id : String} {name : Str}
theorem oTy_of {σ : L2.St} {H : Hp} {Q : V → Hp → Prop} (h : tO A W (oTy T fo) σ H Q) : tO A W fo σ H fun x H1 => TyAt A.w T x H1 ∧ Q x H1 := by
  obtain ⟨r, G, k, m⟩ := h
  refine ⟨r, G, k, ?_⟩
  unfold oTy at m
  cases hf : fo r with
  | bad => rw [hf] at m; exact m.elim
  | ex e r' => rw [hf] at m; exact m
  | ok h r1 =>
    simp only [hf] at m
    intro x G1 H1 k1 st1 t1
    cases hv : h.get r1 with
    | none => simp only [hv] at m
    | some v =>
      simp only [hv] at m
      by_cases ht : tyOf v = some T
      · simp only [if_pos ht] at m
        exact ⟨⟨G1, v, k1.sub, t1.get k1 hv, ht⟩, m x G1 H1 k1 st1 t1⟩
      · simp only [if_neg ht] at m
theorem ty_run (c : Cal X A.w) {pins : List (Addr × Obj)} {s : Shared} {σ : L2.St} {H : Hp} {x : V} {u : Value} (I : Inv X pins σ H s) (rx : RelV x u) (t : TyAt A.w T x H) (hT : T = "str" ∨ T = "list" ∨ T = "dict") :
    s.TypeIs u T ∧ ∀ a, u = .ref a → ∃ ob, s.heap.get? a = some ob ∧ ob.dict = none := by
  obtain ⟨G, v, le, r, ht⟩ := t
  have ls : ∀ {a : Addr} {xs : List V}, x = .ref a → SqL X.K H a xs → s.TypeIs u "list" ∧ ∀ a, u = .ref a → ∃ ob, s.heap.get? a = some ob ∧ ob.dict = none := fun {a xs} e h => by
    subst e
    exact tyV_is I rx (show tyV X.K "list" (.ref a) H from .inl ⟨rfl, xs, h⟩)
  cases v with
  | str z => cases ht; obtain ⟨rfl, _⟩ := rrep_str r; exact tyV_is I rx (show tyV X.K "str" (.str z) H from rfl)
  | lst ds => cases ht; obtain ⟨a, xs, e, h, _⟩ := rrep_lst le r; exact ls e (.inl (.inl h))
  | scr ns => cases ht; obtain ⟨a, e, h⟩ := rrep_scr le r; rw [c.K] at h; exact ls e h
  | dct t kvs =>
    cases ht
    obtain ⟨a, rfl, q⟩ := rrep_dct le r
    cases (show u = Value.ref a from rx)
    have dK : ∀ {kvs : List (Key × V)}, ObjOk X.prog X.w H s.heap a (.dK kvs) → ∃ o, s.heap.get? a = some o ∧ o.ExactDict := fun {kvs} h => by
      obtain ⟨_, _, vs, _, o, es, ep, h1, h2, _⟩ := h
      exact ⟨o, h1, h2⟩
    have dT : ∀ {kvs : List (List Key × V)}, ObjOk X.prog X.w H s.heap a (.dT kvs) → ∃ o, s.heap.get? a = some o ∧ o.ExactDict := fun {kvs} h => by
      obtain ⟨_, _, xs, _, o, es, ep, h1, h2, _⟩ := h
      exact ⟨o, h1, h2⟩
    have : ∃ o, s.heap.get? a = some o ∧ o.ExactDict := by
      rcases q with ⟨_, kvs, q | ⟨ob, q⟩, _⟩ | ⟨_, kvs, q | ⟨ob, q⟩, _⟩
      · exact dK (I.hok a _ q)
      · exact dK (I.hok a _ q).2
      · exact dT (I.hok a _ q)
      · exact dT (I.hok a _ q).2
    obtain ⟨ob, h1, h2⟩ := this
    exact ⟨⟨ob, h1, h2.1⟩, fun b e => by cases e; exact ⟨ob, h1, h2.2.1⟩⟩
  | non => cases ht; rcases hT with h | h | h <;> exact absurd h (by decide)
  | bl b => cases ht; rcases hT with h | h | h <;> exact absurd h (by decide)
  | int i => cases ht; rcases hT with h | h | h <;> exact absurd h (by decide)
  | tup ds => cases ht; rcases hT with h | h | h <;> exact absurd h (by decide)
  | _ => cases ht
/-- a method's meaning by values -/
def MtP (X : Cx) (w : Wd) (id : String) (P : List Val → Option (Bool × Val)) : Prop := MtR X id fun x xs H Q => rOf w P (x :: xs) H Q
theorem pe_mt (c : Cal X A.w) (hT : T = "str" ∨ T = "list" ∨ T = "dict") (pa : PlainAttrs T) (slot : PySem.Slot T name id) (hty : typeOf (.builtin id) = pure (.type "method_descriptor")) (hm : MtP X A.w id P) (ho : PE X o (tO A W fo)) (ha : PA X (e :: es) (tOs A W g))
    (hbase : AsItIs X o name := by rfl)
    (hfew : FewPlain X (e :: es) cpos := by rfl)
    (hline : (apos.endLine == cpos.line) = true := by rfl) (hs : NoStar X e es := by rfl) (hplain : NoStars X es cpos := by rfl) :
    PE X (.Call (.Attribute o name apos) (e :: es) [] cpos) (tE A W (prim P (osCons (oTy T fo) g))) := by
  refine ⟨fun pins s σ H Q I h => ?_⟩
  have q0 := oTy_of (os_cons (prim_os (rok_rOf A.w P) h))
  refine wpAny_Call_method_late hbase hfew hline rfl (wpAny_mono (ho.run pins s σ H _ I q0) (fun v s1 ⟨x, H1, I1, r1, ty, q1⟩ => ?_) fun _ _ z => z)
  obtain ⟨t1, t2⟩ := ty_run c I1 r1 ty hT
  refine ⟨T, id, pa, slot, hty, t1, t2, ?_⟩
  have run := ha.run cpos pins s1 σ H1 _ I1 q1
  rw [hs] at run ⊢
  refine Calls.callWith_builtin (by show (false || (backTo cpos (starEach es X.env)).any (·.1)) = false; rw [hplain] <;> rfl) (Calls.evalArgs_plain (wpAny_mono run (fun us s2 ⟨vs, H2, I2, r2, q2⟩ => ?_) fun _ _ z => z))
  exact hm pins s2 σ H2 x vs v us Q I2 r1 r2 q2
end
def Pjoin : List Val → Option (Bool × Val)
  | [.str a, .lst ds] => match asStrs ds with
    | some ys => if (ys.map (·.length)).sum + ys.length * a.length ≤ 16777216 ∧ (Txt.join a ys).length ≤ sizeLine then some (false, .str (Txt.join a ys)) else none
    | none => none
  | _ => none
theorem mtp_join {X : Cx} {w : Wd} : MtP X w "str.join" Pjoin := by
  intro pins s σ H x xs v us Q I rx rxs ⟨G, vs, o, z, le, rr, hp, q⟩
  unfold Pjoin at hp
  split at hp
  · split at hp
    · rename_i ys hy
      split at hp
      · rename_i hb
        cases hp
        obtain ⟨_, _, e, r1, r2⟩ := rreps_two rr
        cases e
        obtain ⟨rfl, _⟩ := rrep_str r1
        obtain ⟨a, zs, rfl, h, rs⟩ := rrep_lst le r2
        rw [asStrs_some hy] at rs
        rw [reps_strs rs] at h
        exact mt_join pins s σ H _ _ v us Q I rx rxs ⟨_, a, ys, rfl, rfl, .inl (.inl (.inl h)), hb.1, str_new le hb.2 q⟩
      · cases hp
    · cases hp
  · cases hp
end M
/-! MPF: containers changed in place, displays of dicts. -/
namespace M
open PySem L2

section
variable {A : Act} {G H : Hp} {σ : L2.St} {r : Env} {i : Nat} {v v' : Val} {a : Addr}
/-- slot i's container is rewritten -/
theorem Ok.mut {u : HO} (k : Ok A G H σ r) (h : r[i]? = some (some (true, v))) (hσ : σ[i]? = some (some (.ref a))) (hr : Root A.w G (upd H a u) v' a) : Ok A G (upd H a u) σ (r.set i (some (true, v'))) := by
  obtain ⟨a', e, ro, n, l⟩ := k.ow i v h
  rw [hσ] at e; cases e
  have il : i < r.length := (List.getElem?_eq_some_iff.mp h).1
  refine ⟨k.ex0, k.gr0, fun b o hb nl => ?_, fun b o hb => ?_, by rw [List.length_set]; exact k.len, fun j w h1 => ?_, fun j w h1 => ?_, fun p q v1 v2 b h1 h2 h3 h4 => ?_, k.fx⟩
  · have ne : b ≠ a := fun z => by
      subst z
      rcases l with l | l
      · exact nl l
      · rw [l] at hb; cases hb
    rw [upd_ne ne]; exact k.fr0 b o hb nl
  · have ne : b ≠ a := ne_of_none hb n
    rw [upd_ne ne]; exact k.sub b o hb
  · rcases set_some h1 rfl with ⟨e1, e2⟩ | ⟨e1, e2⟩
    · cases e2
    · exact k.fz j w e2
  · rcases set_some h1 rfl with ⟨e1, e2⟩ | ⟨e1, e2⟩
    · subst e1; cases e2; exact ⟨a, hσ, hr, n, l⟩
    · obtain ⟨b, e, q, nb, lb⟩ := k.ow j w e2
      have ne : b ≠ a := fun z => e1 (k.sep j i w v a e2 h (by rw [e, z]) hσ)
      exact ⟨b, e, q.mono (Le.refl _) (fun o ho => by rw [upd_ne ne]; exact ho), nb, lb⟩
  · have own : ∀ {j : Nat} {w : Val}, (r.set i (some (true, v')))[j]? = some (some (true, w)) → ∃ w', r[j]? = some (some (true, w')) := fun {j w} h1 => by
      rcases set_some h1 rfl with ⟨e1, e2⟩ | ⟨e1, e2⟩
      · subst e1; exact ⟨v, h⟩
      · exact ⟨w, e2⟩
    obtain ⟨w1, o1⟩ := own h1
    obtain ⟨w2, o2⟩ := own h2
    exact k.sep p q w1 w2 b o1 o2 h3 h4
theorem step_mut {u : HO} (h : r[i]? = some (some (true, v))) (hσ : σ[i]? = some (some (.ref a))) : Step σ r G H (r.set i (some (true, v'))) G (upd H a u) :=
  ⟨Le.refl _, fun b o hb nb => by
    have ne : b ≠ a := fun z => nb (by subst z; exact ⟨i, v, h, hσ⟩)
    rw [upd_ne ne]; exact hb, fun b hb hb' => absurd hb hb', fun b ⟨j, w, h1, h2⟩ => by
    rcases set_some h1 rfl with ⟨e1, e2⟩ | ⟨e1, e2⟩
    · subst e1; exact ⟨j, v, h, h2⟩
    · exact ⟨j, w, e2, h2⟩⟩
end

/-! ### x.m(e, ..) that changes x -/
/-- by values: the container v, the arguments, then the container and the answer (frozen) -/
abbrev MutF := Val → List Val → Option (Val × Val)
def mutE (T : String) (i : Nat) (P : MutF) (g : AF) : EF := fun r => match r[i]? with
  | some (some (true, v0)) => if tyOf v0 = some T then match g r with
      | .ok vs r1 => match r1[i]? with
        | some (some (true, v)) => match P v vs with
          | some (v', z) => .ok false z (r1.set i (some (true, v')))
          | none => .bad
        | _ => .bad
      | .ex e r1 => .ex e r1
      | .bad => .bad
    else .bad
  | _ => .bad
def rMut (w : Wd) (P : MutF) : V → List V → Hp → VK → Prop := fun x xs H Q => ∃ a v vs v' z G, x = .ref a ∧ Le G H ∧ G a = none ∧ Root w G H v a ∧ Reps w G vs xs ∧ P v vs = some (v', z) ∧ ∀ u y, Root w G (upd H a u) v' a → Rep w G z y → Q y (upd H a u)
def MutP (X : Cx) (w : Wd) (id : String) (P : MutF) : Prop := MtR X id (rMut w P)
theorem root_ty {X : Cx} {w : Wd} {G H : Hp} {v : Val} {a : Addr} {T : String} (r : Root w G H v a) (h : tyOf v = some T) : tyV X.K T (.ref a) H := by
  cases v with
  | lst ds => cases h; obtain ⟨xs, e, _⟩ := r; exact .inl ⟨rfl, xs, .inl (.inl e)⟩
  | dct t ds =>
    cases h
    obtain ⟨_, kvs, e, _⟩ | ⟨_, kvs, e, _⟩ := r
    · exact .inr (.inr (.inl ⟨rfl, .inl ⟨kvs, e⟩⟩))
    · exact .inr (.inr (.inl ⟨rfl, .inr ⟨kvs, e⟩⟩))
  | obj c fs => cases h
  | _ => exact r.elim
section
variable {X : Cx} {A : Act} {W : WX} {o e : Expr} {es : List Expr} {g : AF} {P : MutF} {cpos apos : Pos} {T id : String} {name : Str} {i : Nat}
theorem mut_of {σ : L2.St} {H : Hp} {Q : VK} (h : tE A W (mutE T i P g) σ H Q) : tVar i σ H fun x H1 => tyV X.K T x H1 ∧ tAs A W g σ H1 fun xs H2 => rMut A.w P x xs H2 Q := by
  obtain ⟨r, G, k, m⟩ := h
  rcases q : r[i]? with _ | _ | ⟨_ | _, v0⟩
  · simp only [mutE, q] at m
  · simp only [mutE, q] at m
  · simp only [mutE, q] at m
  · simp only [mutE, q] at m
    by_cases ht : tyOf v0 = some T
    · simp only [if_pos ht] at m
      obtain ⟨a, e1, ro, n, l⟩ := k.ow i v0 q
      refine ⟨.ref a, e1, root_ty ro ht, r, G, k, ?_⟩
      cases hg : g r with
      | bad => simp only [hg] at m
      | ex e r1 => simp only [hg] at m ⊢; exact m
      | ok vs r1 =>
        simp only [hg] at m ⊢
        intro xs G1 H1 k1 st1 rs
        rcases q1 : r1[i]? with _ | _ | ⟨_ | _, v⟩
        · simp only [q1] at m
        · simp only [q1] at m
        · simp only [q1] at m
        · simp only [q1] at m
          cases hp : P v vs with
          | none => simp only [hp] at m
          | some vz =>
            obtain ⟨v', z⟩ := vz
            simp only [hp] at m
            obtain ⟨b, e2, ro1, n1, l1⟩ := k1.ow i v q1
            rw [e1] at e2; cases e2
            exact ⟨a, v, vs, v', z, G1, rfl, k1.sub, n1, ro1, rs, hp, fun u y hr hy => m y G1 _ ⟨k1.mut q1 e1 hr, st1.trans (step_mut q1 e1), trep_f hy, no_own⟩⟩
    · simp only [if_neg ht] at m
theorem pe_mut (pa : PlainAttrs T) (slot : PySem.Slot T name id) (hty : typeOf (.builtin id) = pure (.type "method_descriptor")) (hm : MutP X A.w id P) (ho : PE X o (tVar i)) (ha : PA X (e :: es) (tAs A W g))
    (hbase : AsItIs X o name := by rfl)
    (hfew : FewPlain X (e :: es) cpos := by rfl)
    (hline : (apos.endLine == cpos.line) = true := by rfl) (hs : NoStar X e es := by rfl) (hplain : NoStars X es cpos := by rfl) :
    PE X (.Call (.Attribute o name apos) (e :: es) [] cpos) (tE A W (mutE T i P g)) := PE.imp (pe_bm pa slot hty hm ho ha hbase hfew hline hs hplain) fun _ _ _ q => mut_of q
theorem pe_mut0 (pa : PlainAttrs T) (slot : PySem.Slot T name id) (hty : typeOf (.builtin id) = pure (.type "method_descriptor")) (hm : MutP X A.w id P) (ho : PE X o (tVar i))
    (hbase : AsItIs X o name := by rfl) (hline : (apos.endLine == cpos.line) = true := by rfl) : PE X (.Call (.Attribute o name apos) [] [] cpos) (tE A W (mutE T i P asNil)) :=
  PE.imp (pe_bm0 pa slot hty hm ho hbase hline) fun _ _ _ q => by
    obtain ⟨x, e, t, r, G, k, m⟩ := mut_of (X := X) q
    exact ⟨x, e, t, m [] G _ k Step.refl (reps_nil.mpr rfl)⟩
end
def Mappend : MutF
  | .lst ds, [v] => if ds.length < 100000 then some (.lst (ds ++ [v]), .non) else none
  | _, _ => none
def Mextend : MutF
  | .lst ds, [.lst es] => if ds.length + es.length ≤ 100000 then some (.lst (ds ++ es), .non) else none
  | _, _ => none
def Mpop : MutF
  | .lst ds, [] => match ds[ds.length - 1]? with
    | some d => some (.lst ds.dropLast, d)
    | none => none
  | _, _ => none
def MpopAt : MutF
  | .lst ds, [.int i] => match ixN ds.length i with
    | some j => match ds[j]? with
      | some d => if ds.length ≤ 100000 then some (.lst (ds.eraseIdx j), d) else none
      | none => none
    | none => none
  | _, _ => none
theorem reps_dropLast {w : Wd} {G : Hp} {ds : List Val} {xs : List V} (r : Reps w G ds xs) : Reps w G ds.dropLast xs.dropLast := by
  rw [List.dropLast_eq_take, List.dropLast_eq_take, reps_length r]
  exact reps_take _ r
section
variable {X : Cx} {w : Wd}
theorem root_l {G H : Hp} {ds : List Val} {a : Addr} {xs : List V} (r : Reps w G ds xs) : Root w G (upd H a (.lst xs)) (.lst ds) a := ⟨xs, upd_same, r⟩
theorem mutp_append : MutP X w "list.append" Mappend := by
  intro pins s σ H x xs v us Q I rx rxs ⟨a, d, vs, d', z, G, ex, le, n, ro, rs, hp, q⟩
  subst ex
  unfold Mappend at hp
  split at hp
  · split at hp
    · rename_i hl
      cases hp
      obtain ⟨ys, e, r⟩ := ro
      obtain ⟨y, _, rfl, r1, r2⟩ := reps_cons.mp rs
      rw [reps_nil] at r2; subst r2
      exact mt_append pins s σ H _ _ v us Q I rx rxs ⟨a, ys, y, rfl, rfl, e, by rw [← reps_length r]; exact Nat.lt_of_lt_of_le hl (by decide), q _ _ (root_l (reps_append r (reps_one r1))) (rep_non.mpr rfl)⟩
    · cases hp
  · cases hp
theorem mutp_extend : MutP X w "list.extend" Mextend := by
  intro pins s σ H x xs v us Q I rx rxs ⟨a, d, vs, d', z, G, ex, le, n, ro, rs, hp, q⟩
  subst ex
  unfold Mextend at hp
  split at hp
  · split at hp
    · rename_i hl
      cases hp
      obtain ⟨ys, e, r⟩ := ro
      obtain ⟨y, _, rfl, r1, r2⟩ := reps_cons.mp rs
      rw [reps_nil] at r2; subst r2
      obtain ⟨b, zs, rfl, hb, rz⟩ := rep_lst.mp r1
      exact mt_extend pins s σ H _ _ v us Q I rx rxs ⟨a, b, ys, zs, rfl, rfl, e, le _ _ hb, by rw [← reps_length r, ← reps_length rz]; exact Nat.le_trans hl (by decide), q _ _ (root_l (reps_append r rz)) (rep_non.mpr rfl)⟩
    · cases hp
  · cases hp
theorem mutp_pop : MutP X w "list.pop" Mpop := by
  intro pins s σ H x xs v us Q I rx rxs ⟨a, d, vs, d', z, G, ex, le, n, ro, rs, hp, q⟩
  subst ex
  unfold Mpop at hp
  split at hp
  · split at hp
    · rename_i d0 hd
      cases hp
      obtain ⟨ys, e, r⟩ := ro
      rw [reps_nil] at rs; subst rs
      obtain ⟨y, hy, ry⟩ := reps_get r hd
      rw [reps_length r] at hy
      exact mt_pop pins s σ H _ _ v us Q I rx rxs ⟨a, ys, y, rfl, rfl, e, hy, q _ _ (root_l (reps_dropLast r)) ry⟩
    · cases hp
  · cases hp
theorem mutp_popAt : MutP X w "list.pop" MpopAt := by
  intro pins s σ H x xs v us Q I rx rxs ⟨a, d, vs, d', z, G, ex, le, n, ro, rs, hp, q⟩
  subst ex
  unfold MpopAt at hp
  split at hp
  · split at hp
    · rename_i j hj
      split at hp
      · rename_i d0 hd
        split at hp
        · rename_i hl
          cases hp
          obtain ⟨ys, e, r⟩ := ro
          have ei := reps_ints (ns := [_]) rs
          subst ei
          obtain ⟨y, hy, ry⟩ := reps_get r hd
          obtain ⟨h1, h2, h3, h4⟩ := ixN_seq hj
          have hlen := reps_length r
          exact mt_popAt pins s σ H _ _ v us Q I rx rxs ⟨a, ys, _, j, y, rfl, rfl, e, by omega, by omega, by rw [← hlen]; exact h1, hy, q _ _ (root_l (reps_erase j r)) ry⟩
        · cases hp
      · cases hp
    · cases hp
  · cases hp
end

/-! ### x[i] = e, del x[i] -/
def putIx : Val → Val → Val → Option Val
  | .lst ds, .int k, v => (ixN ds.length k).map fun j => .lst (ds.set j v)
  | .dct false kvs, k, v => match keyOf k with
    | some q => if kvs.length < 100000 then some (.dct false (dPut kvs q v)) else none
    | none => none
  | _, _, _ => none
def setIx (i : Nat) (fk fe : EF) : SF := fun r => match frz fe r with
  | .ok _ v r1 => match r1[i]? with
    | some (some (true, _)) => match frz fk r1 with
      | .ok _ k r2 => match r2[i]? with
        | some (some (true, d)) => match putIx d k v with
          | some d' => .nx (r2.set i (some (true, d')))
          | none => .bad
        | _ => .bad
      | .ex e r2 => .ex e r2
      | .bad => .bad
    | _ => .bad
  | .ex e r1 => .ex e r1
  | .bad => .bad
def rPut (w : Wd) : V → V → V → Hp → (Hp → Prop) → Prop := fun o k x H Q => ∃ a d kd v d' G, o = .ref a ∧ Le G H ∧ G a = none ∧ Root w G H d a ∧ Rep w G kd k ∧ Rep w G v x ∧ putIx d kd v = some d' ∧ ∀ u, Root w G (upd H a u) d' a → Q (upd H a u)
theorem set_put {X : Cx} {w : Wd} (c : Cal X w) : PSet X (rPut w) := by
  intro pins s σ H o k x ov kvv u Q I ro rk rx ⟨a, d, kd, v, d', G, eo, le, n, rt, rpk, rpx, hp, q⟩
  subst eo
  unfold putIx at hp
  split at hp
  · rw [Option.map_eq_some_iff] at hp
    obtain ⟨j, hj, e⟩ := hp
    subst e
    obtain ⟨ys, e, r⟩ := rt
    obtain rfl := rep_int.mp rpk
    exact set_list pins s σ H _ _ _ ov kvv u Q I ro rk rx ⟨a, ys, _, j, rfl, rfl, e, by rw [← reps_length r]; exact hj, q _ (root_l (reps_set rpx j r))⟩
  · split at hp
    · rename_i qk hk
      split at hp
      · rename_i hl
        cases hp
        obtain ⟨_, kvs, e, r⟩ | ⟨ht, _⟩ := rt
        · obtain ⟨rfl, hb⟩ := rrep_key (H := H) (.inl rpk) hk
          have g : DPut H a (kV qk) x (upd H a (.dK (putK kvs qk x))) := DPut.k e (by rw [← repK_length r]; exact Nat.lt_of_lt_of_le hl (by decide))
          cases (show ov = Value.ref a from ro)
          exact d_setItem (by have := c.un; omega) I g rk rx fun s' I' => ⟨_, I', q _ (.inl ⟨rfl, _, upd_same, repK_put r hb rpx⟩)⟩
        · cases ht
      · cases hp
    · cases hp
  · cases hp
theorem ps_setIx {X : Cx} {A : Act} {W : WX} {o ke e : Expr} {i : Nat} {fk fe : EF} {pos pos' : Pos} (c : Cal X A.w) (ho : PE X o (tVar i)) (hk : PE X ke (tE A W fk)) (he : PE X e (tE A W fe))
    (hs : swapsWithSole [.Subscript o ke pos'] e pos.line X.env = pure false := by rfl) (hw : swappedStores [.Subscript o ke pos'] e X.env = pure none := by rfl)
    (h1 : (assignEach [.Subscript o ke pos'] X.env).map (·.2) = [assign (.Subscript o ke pos') X.env] := by rfl)
    (ha : ∀ v, assign (.Subscript o ke pos') X.env v = (do
      let ov ← holding [v] (eval o X.env)
      let iv ← holding [v, ov] (eval ke X.env)
      standAt pos'
      holding [v, ov, iv] (setItem ov iv v)
      release [v, ov, iv] []) := by intro _; rfl) : PS X (.Assign [.Subscript o ke pos'] e pos) (tSt A W (setIx i fk fe)) := by
  refine PS.imp (ps_asg (pe_frz he) (pg_sub ho (pe_frz hk) (set_put c) ha) hs hw h1) fun D σ H h => ?_
  obtain ⟨r, G, k, m⟩ := tSt_iff.mp h
  refine ⟨r, G, k, ?_⟩
  unfold setIx at m
  cases hf : frz fe r with
  | bad => rw [hf] at m; exact m.elim
  | ex e r' => rw [hf] at m; exact m σ
  | ok o0 v r1 =>
    have eo := frz_false hf
    subst eo
    simp only [hf] at m ⊢
    intro x G1 H1 R1
    have k1 := R1.ok
    rcases q1 : r1[i]? with _ | _ | ⟨_ | _, d0⟩
    · simp only [q1] at m; exact m.elim
    · simp only [q1] at m; exact m.elim
    · simp only [q1] at m; exact m.elim
    · simp only [q1] at m
      obtain ⟨a, e1, ro, n, l⟩ := k1.ow i d0 q1
      refine ⟨.ref a, e1, r1, G1, k1, ?_⟩
      cases hk' : frz fk r1 with
      | bad => simp only [hk'] at m; exact m.elim
      | ex e r2 => simp only [hk'] at m ⊢; exact (show ExP A W G σ e r2 from m σ).mono R1.st.ex
      | ok o1 kd r2 =>
        have eo := frz_false hk'
        subst eo
        simp only [hk'] at m ⊢
        intro y G2 H2 R2
        have k2 := R2.ok
        rcases q2 : r2[i]? with _ | _ | ⟨_ | _, d⟩
        · simp only [q2] at m; exact m.elim
        · simp only [q2] at m; exact m.elim
        · simp only [q2] at m; exact m.elim
        · simp only [q2] at m
          cases hp : putIx d kd v with
          | none => simp only [hp] at m; exact m.elim
          | some d' =>
            simp only [hp] at m
            obtain ⟨b, e2, ro2, n2, l2⟩ := k2.ow i d q2
            rw [e1] at e2; cases e2
            exact ⟨a, d, kd, v, d', G2, rfl, k2.sub, n2, ro2, R2.tr, Rep.mono R2.st.ex R1.tr, hp, fun u hr => m σ G2 _ (k2.mut q2 e1 hr) (R1.st.ex.trans R2.st.ex)⟩

/-! ### displays of dicts -/
inductive DR where
  | ok (kvs : List (Val × Val)) (r : Env) | ex (e : Val) (r : Env) | bad
def dspL : List (EF × EF) → Env → DR
  | [], r => .ok [] r
  | (fk, fv) :: l, r => match frz fk r with
    | .ok _ k r1 => match frz fv r1 with
      | .ok _ v r2 => match dspL l r2 with
        | .ok kvs r3 => .ok ((k, v) :: kvs) r3
        | x => x
      | .ex e r2 => .ex e r2
      | .bad => .bad
    | .ex e r1 => .ex e r1
    | .bad => .bad
def putAll (acc : List (Val × Val)) : List (Val × Val) → Option (List (Val × Val))
  | [] => some acc
  | (k, v) :: kvs => match keyOf k with
    | some q => putAll (dPut acc q v) kvs
    | none => none
def dsp (l : List (EF × EF)) : EF := fun r => match dspL l r with
  | .ok kvs r1 => if kvs.length ≤ 15 then match putAll [] kvs with
      | some ds => .ok true (.dct false ds) r1
      | none => .bad
    else .bad
  | .ex e r1 => .ex e r1
  | .bad => .bad
def dNew (t : Bool) : EF := fun r => .ok true (.dct t []) r
theorem reps_pairs {w : Wd} {G : Hp} : ∀ {kvs ds : List (Val × Val)} {acc : List (Val × Val)} {ks : List (Key × V)} {ps : List (V × V)}, putAll acc kvs = some ds → RepK w G acc ks → (Paired (fun (p : Val × Val) (q : V × V) => Rep w G p.1 q.1 ∧ Rep w G p.2 q.2) kvs ps) →
    ∃ qs : List (Key × V), ps = qs.map (fun kv => (kV kv.1, kv.2)) ∧ qs.length = kvs.length ∧ RepK w G ds (mergeK ks qs)
  | [], ds, acc, ks, _, h, r, .nil => by
    simp only [putAll, Option.some.injEq] at h
    subst h
    exact ⟨[], rfl, rfl, r⟩
  | (k, v) :: kvs, ds, acc, ks, _ :: _, h, r, .cons (b := b) hb t => by
    simp only [putAll] at h
    split at h
    · rename_i q hq
      obtain ⟨e1, e2⟩ := rrep_key (H := G) (.inl hb.1) hq
      obtain ⟨qs, e3, e4, e5⟩ := reps_pairs h (repK_put r e2 hb.2) t
      refine ⟨(q, b.2) :: qs, ?_, by simp [e4], e5⟩
      rw [List.map_cons, e3, ← e1]
    · cases h
section
variable {X : Cx} {A : Act} {W : WX} {pos : Pos}
def trs (A : Act) (W : WX) (l : List (EF × EF)) : List (TE × TE) := l.map fun p => (tE A W (frz p.1), tE A W (frz p.2))
theorem pps_Nil : PPs X pos [] [] (trs A W []) := pps_nil
theorem pps_Cons {k v : Expr} {ks : List (Option Expr)} {vs : List Expr} {fk fv : EF} {l : List (EF × EF)} (hk : PE X k (tE A W fk)) (hv : PE X v (tE A W fv)) (hr : PPs X pos ks vs (trs A W l)) : PPs X pos (some k :: ks) (v :: vs) (trs A W ((fk, fv) :: l)) :=
  pps_cons (pe_frz hk) (pe_frz hv) hr
theorem dsp_pairs {σ : L2.St} : ∀ {l : List (EF × EF)} {r : Env} {G H : Hp} {Q : List (V × V) → Hp → Prop}, Ok A G H σ r →
    (match dspL l r with
      | .ok kvs r' => ∀ ps G' H', Ok A G' H' σ r' → Step σ r G H r' G' H' → Paired (fun (p : Val × Val) (q : V × V) => Rep A.w G' p.1 q.1 ∧ Rep A.w G' p.2 q.2) kvs ps → Q ps H'
      | .ex e r' => ExP A W G σ e r'
      | .bad => False) → tPairs (trs A W l) σ H Q
  | [], r, G, H, Q, k, m => m [] G H k Step.refl .nil
  | (fk, fv) :: l, r, G, H, Q, k, m => by
    show tE A W (frz fk) σ H fun x H1 => tE A W (frz fv) σ H1 fun y H2 => tPairs (trs A W l) σ H2 fun ps H3 => Q ((x, y) :: ps) H3
    refine ⟨r, G, k, ?_⟩
    simp only [dspL] at m
    cases h1 : frz fk r with
    | bad => simp only [h1] at m
    | ex e r1 => simp only [h1] at m ⊢; exact m
    | ok o1 kd r1 =>
      have eo := frz_false h1
      subst eo
      simp only [h1] at m ⊢
      intro x G1 H1 R1
      refine ⟨r1, G1, R1.ok, ?_⟩
      cases h2 : frz fv r1 with
      | bad => simp only [h2] at m
      | ex e r2 => simp only [h2] at m ⊢; exact m.mono R1.st.ex
      | ok o2 vd r2 =>
        have eo := frz_false h2
        subst eo
        simp only [h2] at m ⊢
        intro y G2 H2 R2
        refine dsp_pairs (l := l) R2.ok ?_
        have st := R1.st.trans R2.st
        cases h3 : dspL l r2 with
        | bad => simp only [h3] at m
        | ex e r3 => simp only [h3] at m ⊢; exact m.mono st.ex
        | ok kvs r3 =>
          simp only [h3] at m ⊢
          intro ps G3 H3 k3 st3 pr
          exact m _ G3 H3 k3 (st.trans st3) (.cons ⟨Rep.mono (R2.st.ex.trans st3.ex) R1.tr, Rep.mono st3.ex R2.tr⟩ pr)
theorem Ok.other {G H : Hp} {σ : L2.St} {r : Env} {p : Addr} {u : HO} (k : Ok A G H σ r) (n : G p = none) (nr : ¬ Rt r σ p) (l : A.L p ∨ A.H0 p = none) : Ok A G (upd H p u) σ r := by
  refine ⟨k.ex0, k.gr0, fun b o hb nl => ?_, fun b o hb => ?_, k.len, k.fz, fun j w h1 => ?_, k.sep, k.fx⟩
  · have ne : b ≠ p := fun z => by
      subst z
      rcases l with l | l
      · exact nl l
      · rw [l] at hb; cases hb
    rw [upd_ne ne]; exact k.fr0 b o hb nl
  · rw [upd_ne (ne_of_none hb n)]; exact k.sub b o hb
  · obtain ⟨b, e, q, nb, lb⟩ := k.ow j w h1
    have ne : b ≠ p := fun z => nr ⟨j, w, h1, by rw [e, z]⟩
    exact ⟨b, e, q.mono (Le.refl _) (fun o ho => by rw [upd_ne ne]; exact ho), nb, lb⟩
theorem pe_dsp {keys : List (Option Expr)} {values : List Expr} {l : List (EF × EF)} (h : PPs X pos keys values (trs A W l)) (hall : keys.all (·.isSome) = true := by rfl) (hl : keys.length = values.length := by rfl) (h0 : keys ≠ [] := by simp) (h15 : keys.length ≤ 15 := by decide) :
    PE X (.Dict keys values pos) (tE A W (dsp l)) := by
  refine PE.imp (pe_disp h hall hl h0 h15) fun σ H Q ⟨r, G, k, m⟩ p hp => ?_
  have gr0 := Grow.laidH (o := .dK []) k.sub hp
  have k0 := k.grow gr0
  refine dsp_pairs k0 ?_
  unfold dsp at m
  cases hd : dspL l r with
  | bad => simp only [hd] at m
  | ex e r1 => simp only [hd] at m ⊢; exact m
  | ok kvs r1 =>
    simp only [hd] at m ⊢
    intro ps G1 H1 k1 st1 pr
    by_cases hlen : kvs.length ≤ 15
    · simp only [if_pos hlen] at m
      cases hpa : putAll [] kvs with
      | none => simp only [hpa] at m
      | some ds =>
        simp only [hpa] at m
        have nr := k.notRt hp
        have there : H1 p = some (.dK []) := st1.keep p _ upd_same nr
        obtain ⟨qs, e1, e2, e3⟩ := reps_pairs (ks := []) hpa (by rw [RepK]) pr
        have n1 : G1 p = none := by
          cases z : G1 p with
          | none => rfl
          | some u =>
            rcases st1.grow p (k.sub.back hp) (by rw [z]; simp) with y | y
            · rw [upd_same] at y; cases y
            · exact absurd y nr
        have nr1 : ¬ Rt r1 σ p := fun z => nr (st1.rts p z)
        refine ⟨there, qs, e1, by rw [e2]; exact hlen, ?_⟩
        refine m _ G1 _ ⟨k1.other n1 nr1 (k.fresh hp), ⟨st1.ex, fun b o hb nb => ?_, fun b hb hb' => ?_, st1.rts⟩, trep_t (.inl ⟨rfl, _, upd_same, e3⟩) n1 nr1 (k.fresh hp), fun _ a e => by cases e; exact .inl hp⟩
        · have ne : b ≠ p := ne_of_none hb hp
          rw [upd_ne ne]
          exact st1.keep b o (by rw [upd_ne ne]; exact hb) nb
        · have ne : b ≠ p := fun z => hb' (by rw [z]; exact n1)
          have := st1.grow b hb hb'
          rw [upd_ne ne] at this
          exact this
    · simp only [if_neg hlen] at m
theorem pe_dNewK : PE X (.Dict [] [] pos) (tE A W (dNew false)) := PE.imp pe_dnewK fun σ H Q ⟨r, G, k, m⟩ p hp => by
  have gr := Grow.laidH (o := .dK []) k.sub hp
  exact m _ G _ ⟨k.grow gr, gr.step, trep_t (.inl ⟨rfl, _, upd_same, by rw [RepK]⟩) (k.sub.back hp) (k.notRt hp) (k.fresh hp), fun _ a e => by cases e; exact .inl hp⟩
end
end M
/-! MPC: calls of the program's own defs, with keywords too. -/
namespace M
open PySem L2

/-! ### operands behind operands, in another order -/
def osApp (f g : OsF) : OsF := fun r => match f r with
  | .ok hs r1 => match g r1 with
    | .ok ks r2 => .ok (hs ++ ks) r2
    | .ex e r2 => .ex e r2
    | .bad => .bad
  | .ex e r1 => .ex e r1
  | .bad => .bad
/-- the places ix of a list -/
def pick {α : Type} (ix : List Nat) (l : List α) : Option (List α) := match ix with
  | [] => some []
  | i :: ix => match l[i]?, pick ix l with
    | some x, some xs => some (x :: xs)
    | _, _ => none
def osN (n : Nat) (f : OsF) : OsF := fun r => match f r with
  | .ok hs r1 => if hs.length = n then .ok hs r1 else .bad
  | .ex e r1 => .ex e r1
  | .bad => .bad
def osPick (ix : List Nat) (f : OsF) : OsF := fun r => match f r with
  | .ok hs r1 => match pick ix hs with
    | some ks => .ok ks r1
    | none => .bad
  | .ex e r1 => .ex e r1
  | .bad => .bad
section
variable {A : Act} {W : WX} {G H : Hp} {σ : L2.St} {r : Env} {f g : OsF}
theorem hreps_app : ∀ {hs ks : List Hd} {xs ys : List V}, HReps A G H σ r hs xs → HReps A G H σ r ks ys → HReps A G H σ r (hs ++ ks) (xs ++ ys)
  | [], _, _, _, h, q => by have h' : _ = [] := h; subst h'; exact q
  | h :: hs, ks, _, ys, ⟨y, zs, e, a, b⟩, q => by subst e; exact ⟨y, zs ++ ys, rfl, a, hreps_app b q⟩
theorem hreps_get : ∀ {hs : List Hd} {xs : List V} {i : Nat} {h : Hd}, HReps A G H σ r hs xs → hs[i]? = some h → ∃ x, xs[i]? = some x ∧ HRep A G H σ r h x
  | [], _, _, _, _, e => by simp at e
  | h :: hs, _, 0, _, ⟨y, zs, e, a, b⟩, q => by subst e; simp at q; subst q; exact ⟨y, rfl, a⟩
  | h :: hs, _, i + 1, _, ⟨y, zs, e, a, b⟩, q => by subst e; obtain ⟨x, h1, h2⟩ := hreps_get b (i := i) (by simpa using q); exact ⟨x, by simpa using h1, h2⟩
theorem hreps_pick {hs : List Hd} {xs : List V} (q : HReps A G H σ r hs xs) : ∀ {ix : List Nat} {ks : List Hd}, pick ix hs = some ks → ∃ ys, pick ix xs = some ys ∧ HReps A G H σ r ks ys
  | [], ks, e => by simp only [pick, Option.some.injEq] at e; subst e; exact ⟨[], rfl, rfl⟩
  | i :: ix, ks, e => by
    simp only [pick] at e
    split at e
    · rename_i h hs' h1 h2
      cases e
      obtain ⟨x, e1, e2⟩ := hreps_get q h1
      obtain ⟨ys, e3, e4⟩ := hreps_pick q h2
      exact ⟨x :: ys, by simp only [pick, e1, e3], x, ys, rfl, e2, e4⟩
    · cases e
theorem os_app {H : Hp} {Q : List V → Hp → Prop} (h : tOs A W (osApp f g) σ H Q) : tOs A W f σ H fun xs H1 => tOs A W g σ H1 fun ys H2 => Q (xs ++ ys) H2 := by
  obtain ⟨r, G, k, m⟩ := h
  refine ⟨r, G, k, ?_⟩
  unfold osApp at m
  cases hf : f r with
  | bad => rw [hf] at m; exact m.elim
  | ex e r' => rw [hf] at m; exact m
  | ok hs r1 =>
    simp only [hf] at m
    intro xs G1 H1 k1 st1 t1
    refine ⟨r1, G1, k1, ?_⟩
    cases hg : g r1 with
    | bad => simp only [hg] at m
    | ex e r2 => simp only [hg] at m ⊢; exact m.mono st1.ex
    | ok ks r2 =>
      simp only [hg] at m ⊢
      intro ys G2 H2 k2 st2 t2
      exact m (xs ++ ys) G2 H2 k2 (st1.trans st2) (hreps_app (t1.step st2) t2)
theorem hreps_len : ∀ {hs : List Hd} {xs : List V}, HReps A G H σ r hs xs → xs.length = hs.length
  | [], _, h => by have h' : _ = [] := h; subst h'; rfl
  | h :: hs, _, ⟨y, zs, e, a, b⟩ => by subst e; simp [hreps_len b]
theorem os_N {n : Nat} {H : Hp} {Q : List V → Hp → Prop} (h : tOs A W (osN n f) σ H Q) : tOs A W f σ H fun xs H1 => xs.length = n ∧ Q xs H1 := by
  obtain ⟨r, G, k, m⟩ := h
  refine ⟨r, G, k, ?_⟩
  unfold osN at m
  cases hf : f r with
  | bad => rw [hf] at m; exact m.elim
  | ex e r' => rw [hf] at m; exact m
  | ok hs r1 =>
    simp only [hf] at m
    by_cases hn : hs.length = n
    · simp only [if_pos hn] at m
      intro xs G1 H1 k1 st1 t1
      exact ⟨(hreps_len t1).trans hn, m xs G1 H1 k1 st1 t1⟩
    · simp only [if_neg hn] at m
theorem os_pick {ix : List Nat} {H : Hp} {Q : List V → Hp → Prop} (h : tOs A W (osPick ix f) σ H Q) : tOs A W f σ H fun xs H1 => ∃ ys, pick ix xs = some ys ∧ Q ys H1 := by
  obtain ⟨r, G, k, m⟩ := h
  refine ⟨r, G, k, ?_⟩
  unfold osPick at m
  cases hf : f r with
  | bad => rw [hf] at m; exact m.elim
  | ex e r' => rw [hf] at m; exact m
  | ok hs r1 =>
    simp only [hf] at m
    intro xs G1 H1 k1 st1 t1
    cases hp : pick ix hs with
    | none => simp only [hp] at m
    | some ks =>
      simp only [hp] at m
      obtain ⟨ys, e, q⟩ := hreps_pick t1 hp
      exact ⟨ys, e, m ys G1 H1 k1 st1 q⟩
end

/-- how the keywords ks go to the parameters: the values us of the positional ones and ws of the keywords, picked by ix -/
structure BindK (K : PySem.W.Frag) (fd : FuncData) (ps ks : List Str) (ix : List Nat) (n : Nat) : Prop where
  to : ∀ (s : Shared) (us ws zs : List Value), K.In s.heap → us.length = n → pick ix (us ++ ws) = some zs → zs.length = ps.length → ws.length = ks.length → BindsTo s fd ⟨us, ks.zip ws⟩ (ps.zip zs)

theorem vals_pick : ∀ {ix : List Nat} {xs ys : List V} {us : List Value}, Vals xs us → pick ix xs = some ys → ∃ zs, pick ix us = some zs ∧ Vals ys zs
  | [], _, _, _, _, e => by simp only [pick, Option.some.injEq] at e; subst e; exact ⟨[], rfl, .nil⟩
  | i :: ix, xs, ys, us, r, e => by
    simp only [pick] at e
    split at e
    · rename_i x xs' h1 h2
      cases e
      obtain ⟨zs, e1, e2⟩ := vals_pick r h2
      have : ∀ {xs : List V} {us : List Value} {i : Nat} {x : V}, Vals xs us → xs[i]? = some x → ∃ u, us[i]? = some u ∧ RelV x u := by
        intro xs
        induction xs with
        | nil => intro us i x _ h; simp at h
        | cons y ys ih =>
          intro us i x r h
          cases r with
          | cons a b =>
            cases i with
            | zero => simp at h; subst h; exact ⟨_, rfl, a⟩
            | succ i => obtain ⟨u, e, q⟩ := ih b (i := i) (by simpa using h); exact ⟨u, by simpa using e, q⟩
      obtain ⟨u, e3, e4⟩ := this r h1
      exact ⟨u :: zs, by simp only [pick, e3, e1], .cons e4 e2⟩
    · cases e

section
variable {X : Cx} {A : Act} {W : WX} {k n : Nat} {f : Addr} {fd : FuncData} {ps ks : List Str} {g : GF} {x : Str} {p pos kpos : Pos} {e : Expr} {es : List Expr} {kws : List Keyword} {fo fk : OsF} {fe : OF} {nm : Option Str}
theorem pk_osNil : PK X [] (tOs A W osNil) := ⟨fun pos pins s σ H Q I ⟨r, G, kk, m⟩ => pk_nil.run pos pins s σ H Q I (m [] G H kk Step.refl rfl)⟩
theorem pk_osCons (he : PE X e (tO A W fe)) (hr : PK X kws (tOs A W fk)) : PK X (⟨nm, e, kpos⟩ :: kws) (tOs A W (osCons fe fk)) :=
  ⟨fun pos pins s σ H Q I h => (pk_cons he hr).run pos pins s σ H Q I (os_cons h)⟩
/-- f(e, ..) -/
theorem pe_cG (F : FnG X.prog X.w X.K X.mg X.base (L2.CX X.prog X.w) k f fd ps (spF A.w n g)) (hr : RoomG k X.A) (hg : Gl X x) (hm : X.mg x = some (.ref f)) (hk : PySem.W.keepIn X.K (.ref f) = true) (hb : Binds X.K fd ps []) (tk : Takes X W)
    (ha : PA X (e :: es) (tOs A W fo)) (hdb : (x == ("__debug__" : Str)) = false := by decide) (he : NoStar X e es := by rfl) (hpl : NoStars X es pos := by rfl) :
    PE X (.Call (.Name x p) (e :: es) [] pos) (tE A W (callG n g fo)) := by
  refine ⟨fun pins s σ H Q I h => ?_⟩
  have h2 := call_of h
  refine wpAny_Call_Name_kw (ld_glob I hg hm ?_ hdb)
  refine PySem.W.callWith_K (h₀ := X.base) I.ok.mod.kin hk (wpAny_mono (ha.run pos pins s σ H _ I h2) (fun us s1 ⟨vs, H1, I1, r, q⟩ => ⟨I1.kIn, ?_⟩) fun _ _ z => z) he hpl
  have hl : us.length = ps.length := by rw [← r.length]; exact F.len _ _ _ _ q
  have b0 := hb s1 us I1.kIn (by simpa using hl)
  simp only [List.append_nil] at b0
  exact run_G F hr (fun e s' z => tk e s' (XE.of_call I1 (fun _ _ _ y => y) z)) I1 (args := ⟨us, []⟩) b0 r q
/-- f() -/
theorem pe_cG0 (F : FnG X.prog X.w X.K X.mg X.base (L2.CX X.prog X.w) k f fd ps (spF A.w n g)) (hr : RoomG k X.A) (hg : Gl X x) (hm : X.mg x = some (.ref f)) (hk : PySem.W.keepIn X.K (.ref f) = true) (hb : Binds X.K fd ps []) (tk : Takes X W)
    (hdb : (x == ("__debug__" : Str)) = false := by decide) : PE X (.Call (.Name x p) [] [] pos) (tE A W (callG n g osNil)) := by
  refine ⟨fun pins s σ H Q I h => ?_⟩
  obtain ⟨r, G, kk, m⟩ := call_of h
  have q := m [] G H kk Step.refl rfl
  refine wpAny_Call_Name_kw (ld_glob I hg hm ?_ hdb)
  have b0 := hb s [] I.kIn (by have := F.len _ _ _ _ q; simpa using this)
  exact PySem.W.callWith_K0 I.kIn hk (run_G F hr (fun e s' z => tk e s' (XE.of_call I (fun _ _ _ y => y) z)) I (args := ⟨[], []⟩) b0 .nil q)
/-- the values of positional arguments and of keywords, bound -/
theorem run_GK {pins : List (Addr × Obj)} {σ : L2.St} {H : Hp} {s : Shared} {Q : VK} {us ws : List Value} {vs zs ys : List V} {ix : List Nat} {m : Nat} (F : FnG X.prog X.w X.K X.mg X.base (L2.CX X.prog X.w) k f fd ps (spF A.w n g)) (hr : RoomG k X.A)
    (hb : BindK X.K fd ps ks ix m) (tk : Takes X W) (I : Inv X pins σ H s) (r : Vals vs us) (rz : Vals zs ws) (hm : us.length = m) (hw : ws.length = ks.length) (hp : pick ix (vs ++ zs) = some ys) (h : spF A.w n g ys H Q fun cls d H2 => W cls d σ H2) :
    wpAny (model X.prog X.w) X.A (call (.ref f) us (ks.zip ws)) (EP X pins σ Q) X.xe s := by
  obtain ⟨us', e, rv⟩ := vals_pick (r.append rz) hp
  have hl : us'.length = ps.length := by rw [← rv.length]; exact F.len _ _ _ _ h
  exact run_G F hr (fun e s' z => tk e s' (XE.of_call I (fun _ _ _ y => y) z)) I (args := ⟨us, ks.zip ws⟩) (hb.to s us ws us' I.kIn hm e hl hw) rv h
/-- f(e, .., k = v, ..) -/
theorem pe_cGK {ix : List Nat} (F : FnG X.prog X.w X.K X.mg X.base (L2.CX X.prog X.w) k f fd ps (spF A.w n g)) (hr : RoomG k X.A) (hg : Gl X x) (hm : X.mg x = some (.ref f)) (hk : PySem.W.keepIn X.K (.ref f) = true)
    (hb : BindK X.K fd ps ks ix (es.length + 1)) (tk : Takes X W)
    (ha : PA X (e :: es) (tOs A W fo)) (hkw : PK X kws (tOs A W fk)) (hall : (backToKw pos (keywordEach kws X.env)).all (·.1.isSome) = true := by rfl) (hks : (backToKw pos (keywordEach kws X.env)).filterMap (·.1) = ks := by rfl)
    (hdb : (x == ("__debug__" : Str)) = false := by decide) (he : NoStar X e es := by rfl)
    (hpl : KPlain X (e :: es) kws pos := by rfl) :
    PE X (.Call (.Name x p) (e :: es) kws pos) (tE A W (callG n g (osPick ix (osApp (osN (es.length + 1) fo) (osN ks.length fk))))) := by
  refine ⟨fun pins s σ H Q I h => ?_⟩
  have h2 := os_N (os_app (os_pick (call_of h)))
  refine wpAny_Call_Name_kw (ld_glob I hg hm ?_ hdb)
  refine PySem.W.callWith_KW (h₀ := X.base) I.ok.mod.kin hk hall (wpAny_mono (ha.run pos pins s σ H _ I h2) (fun us s1 ⟨vs, H1, I1, r, l1, q⟩ => ?_) fun _ _ z => z) hpl he
  refine wpAny_mono (hkw.run pos pins s1 σ H1 _ I1 (os_N q)) (fun ws s2 ⟨zs, H2, I2, rz, l2, ys, hp, q2⟩ => ⟨I2.kIn, ?_⟩) fun _ _ z => z
  rw [hks]
  exact run_GK (us := us) F hr hb tk I2 r rz (by rw [← r.length]; exact l1) (by rw [← rz.length]; exact l2) hp q2
/-- f(k = v, ..) -/
theorem pe_cGK0 {ix : List Nat} (F : FnG X.prog X.w X.K X.mg X.base (L2.CX X.prog X.w) k f fd ps (spF A.w n g)) (hr : RoomG k X.A) (hg : Gl X x) (hm : X.mg x = some (.ref f)) (hk : PySem.W.keepIn X.K (.ref f) = true)
    (hb : BindK X.K fd ps ks ix 0) (tk : Takes X W)
    (hkw : PK X kws (tOs A W fk)) (hall : (backToKw pos (keywordEach kws X.env)).all (·.1.isSome) = true := by rfl) (hks : (backToKw pos (keywordEach kws X.env)).filterMap (·.1) = ks := by rfl)
    (hdb : (x == ("__debug__" : Str)) = false := by decide)
    (hpl : KPlain X [] kws pos := by rfl) (hne : KCall X x kws p pos := by rfl) :
    PE X (.Call (.Name x p) [] kws pos) (tE A W (callG n g (osPick ix (osN ks.length fk)))) := by
  refine ⟨fun pins s σ H Q I h => ?_⟩
  have h2 := os_N (os_pick (call_of h))
  rw [hne]
  refine wpAny_bind (ld_glob I hg hm ?_ hdb)
  refine PySem.W.callWith_KW0 (h₀ := X.base) I.ok.mod.kin hk hall (wpAny_mono (hkw.run pos pins s σ H _ I h2) (fun ws s2 ⟨zs, H2, I2, rz, l2, ys, hp, q2⟩ => ⟨I2.kIn, ?_⟩) fun _ _ z => z) hpl
  rw [hks]
  exact run_GK F hr hb tk I2 .nil rz rfl (by rw [← rz.length]; exact l2) hp q2
end
end M
/-! MPH: a law's end: what stands behind the top, the call of the law with its script. -/
namespace M
open PySem L2 PyProof.Rows

/-- the heap that tracks the script at a, where the written part doesn't hold it -/
def onlyAt (K : PySem.W.Frag) (a : Addr) (o : Obj) (xs : List V) : Hp := fun b => if b = a ∧ K.lookup a = none then some (.frz o (.lst xs)) else none
theorem onlyAt_some {K : PySem.W.Frag} {a b : Addr} {o : Obj} {xs : List V} {u : HO} (h : onlyAt K a o xs b = some u) : b = a ∧ K.lookup a = none ∧ u = .frz o (.lst xs) := by
  unfold onlyAt at h
  split at h
  · rename_i c; cases h; exact ⟨c.1, c.2, rfl⟩
  · cases h
theorem onlyAt_none {K : PySem.W.Frag} {a b : Addr} {o : Obj} {xs : List V} (h : b ≠ a ∨ K.lookup a ≠ none) : onlyAt K a o xs b = none := by
  unfold onlyAt
  rw [if_neg]
  rintro ⟨h1, h2⟩
  exact h.elim (fun z => z h1) fun z => z h2

section
variable {P : Program} {w : World} {K : PySem.W.Frag} {mg mb : Str → Option Value} {CM : Str → Option Addr} {k : Nat} {fa a : Addr} {fd : FuncData} {x : Str} {g : GF} {st : Shared} {us : List Value} {ns : List Int}
theorem law_run (kin : K.In st.heap) (gl : st.heap.Ns mainGlobals mg) (bl : st.heap.Ns builtinsNs mb) (bb : ∀ y : Str, y ≠ "__name__" → mb y = bootBuiltins y) (nl : st.heap.NoLimit) (hg : st.gens = #[])
    (ha : st.heap.get? a = some { cls := .type "list", data := .seq us.toArray }) (hi : IntsAre us ns) (sz : ns.length ≤ sizeLine) (hr : RoomG k callerA)
    (F : ∀ base : Heap, K.In base → base.Ns mainGlobals mg → FnG P w K mg base (L2.CX P w) k fa fd [x] (spF ⟨K, CM⟩ 1 g)) (hbind : ∀ (s : Shared) (u : Value), BindsTo s fd ⟨[u], []⟩ [(x, u)])
    (hv : g [(false, .scr ns)] = .ok false (.bl true) none) :
    codeAny (model P w) callerA (.call (.ref fa) ⟨[.ref a], []⟩) (fun r s' => r = .ok (.ret (.bool true)) ∧ OldK st.heap s'.heap ∧ s'.os = st.os ∧ AllBare s'.gens) st := by
  have ln := hi.length
  have rv := vals_ints hi
  obtain ⟨ob, hob⟩ : ∃ ob : Obj, ob = { cls := .type "list", data := .seq us.toArray } := ⟨_, rfl⟩
  obtain ⟨H, hH⟩ : ∃ H : Hp, H = onlyAt K a ob (ns.map V.int) := ⟨_, rfl⟩
  have tracked : ∀ {b : Addr} {u : HO}, H b = some u → b = a ∧ K.lookup a = none ∧ u = .frz ob (.lst (ns.map V.int)) := fun {b u} e => by rw [hH] at e; exact onlyAt_some e
  have untracked : ∀ {b : Addr}, (b ≠ a ∨ K.lookup a ≠ none) → H b = none := fun {b} e => by rw [hH]; exact onlyAt_none e
  have hok : HOk P w H st.heap := fun b u e => by
    obtain ⟨rfl, _, rfl⟩ := tracked e
    rw [hob]
    exact ⟨ha, by rw [List.length_map]; exact sz, us, _, rv, ha⟩
  have sq : SqL K H a (ns.map V.int) := by
    cases hk : K.lookup a with
    | none => exact .inl (.inr ⟨ob, by rw [hH]; unfold onlyAt; rw [if_pos ⟨rfl, hk⟩]⟩)
    | some o =>
      have e := kin a o hk
      rw [ha] at e
      cases e
      exact .inr ⟨_, us.toArray, _, hk, rfl, rfl, rfl, by rw [List.size_toArray, ln]; exact sz, by simpa using rv⟩
  -- what isn't tracked stands in the base
  have nodict : ∀ {b : Addr} {o : Obj} {es : Array DictEntry} {ep : Nat}, st.heap.get? b = some o → o.data = .dict es ep → H b = none := fun {b o es ep} e d => by
    cases q : H b with
    | none => rfl
    | some u =>
      obtain ⟨rfl, _, _⟩ := tracked q
      rw [ha] at e; cases e
      have d' : Data.seq us.toArray _ = Data.dict es ep := d
      cases d'
  have ns' : ∀ {b : Addr} {m : Str → Option Value}, st.heap.Ns b m → (hidT st.heap H).Ns b m := fun {b m} ⟨o, es, ep, e, d, r⟩ => ⟨o, es, ep, hidT_get e (nodict e d), d, r⟩
  have kb : K.In (hidT st.heap H) := fun b o e => hidT_get (kin b o e) (by
    cases q : H b with
    | none => rfl
    | some u =>
      obtain ⟨rfl, z, _⟩ := tracked q
      rw [z] at e; cases e)
  have md : Mod K mg (hidT st.heap H) := ⟨kb, ns' gl, ⟨mb, ns' bl, bb⟩, let ⟨mc, h1, h2⟩ := nl; ⟨mc, ns' h1, h2⟩⟩
  have nof : ∀ {b : Addr}, b ∉ frs [] := fun {b} z => absurd (show b ∈ ([] : List Addr) from z) (by simp)
  have e0 : Env0 P w K mg (hidT st.heap H) callerA [] st H := ⟨rfl, md, fun b o e => of_hidT e, Nat.le_of_eq (hidT_size _ _), trivial, fun b hb => absurd hb nof, hok, .of_eq hg⟩
  have pre : spF ⟨K, CM⟩ 1 g [.ref a] H (fun v _ => v = .bl true) (fun _ _ _ => False) := by
    refine ⟨H, [(false, .scr ns)], rfl, Le.refl _, ⟨_, [], rfl, ?_, rfl⟩, by simp [lents], ?_⟩
    · rw [Rep]; exact ⟨a, rfl, sq⟩
    · rw [hv]; exact fun u G' H' _ nr => rep_bl.mp (show Rep ⟨K, CM⟩ G' (.bl true) u from nr)
  refine codeAny_mono ((F _ kb (ns' gl)).go callerA [] st H ⟨[.ref a], []⟩ [.ref a] [.ref a] _ _ hr e0 (hbind st (.ref a)) (.cons rfl .nil) pre) fun r s' h => ?_
  match r, h with
  | .error e, h =>
    obtain ⟨_, _, _, _, _, _, _, _, _, _, _, _, z⟩ := h
    exact z.elim
  | .ok .next, h => exact False.elim h
  | .ok .brk, h => exact False.elim h
  | .ok .cont, h => exact False.elim h
  | .ok (.ret u), h =>
    obtain ⟨v, H', os, bare, un, hok', r', q⟩ := h
    obtain rfl : v = .bl true := q
    obtain rfl : u = Value.bool true := r'
    refine ⟨rfl, OldK.of_keep fun b o e => ?_, os, bare⟩
    cases q : H b with
    | none => exact un.keep b o e q nof (by simp)
    | some t =>
      obtain ⟨rfl, _, rfl⟩ := tracked q
      have z := (hok b _ q).1
      rw [e] at z; cases z
      exact (hok' b _ (un.frzs b ob _ q)).1
end

/-- the goal that a head leaves, from the law's promise -/
theorem walk_end {l : PySem.W.OpenLaw} {n k : Nat} {q : Program} {loose : List Str} {XP : (Str → Option Value) → Heap → Prop} {YP : World → Heap → Prop} {d : DefRec} {x : Str}
    (hn : l.most = some n) (hn2 : n ≤ sizeLine) (hdf : d.params.defaults = []) (hr : RoomG k callerA)
    (F : ∀ (w : World) (mg : Str → Option Value) (fa : Addr) (h : Heap), YP w h → h.Ns mainGlobals mg → mg d.name = some (.ref fa) →
      ∃ (K : PySem.W.Frag) (CM : Str → Option Addr) (fd : FuncData) (g : GF), K.In h ∧ (∀ (s : Shared) (u : Value), BindsTo s fd ⟨[u], []⟩ [(x, u)]) ∧ (∀ ns : List Int, ns.length ≤ n → g [(false, .scr ns)] = .ok false (.bl true) none) ∧
        ∀ base : Heap, K.In base → base.Ns mainGlobals mg → FnG l.prog w K mg base (L2.CX l.prog w) k fa fd [x] (spF ⟨K, CM⟩ 1 g)) :
    PySem.W.WalkO q loose XP YP l.row.toRowW d [] (fun f vs => PySem.call f vs) := by
  refine Att.attach_call hn hdf fun w s₀ st mg mb fa o pm cd doc a us ns G Y ho hd hcd hmg hobj hints hlen hg => ?_
  obtain ⟨K, CM, fd, g, kin, hb, hv, hF⟩ := F w mg fa _ Y G.T.g hmg
  exact law_run kin G.T.g G.T.b G.T.builtins G.T.nolimit hg hobj hints (Nat.le_trans hlen hn2) hr hF hb (hv ns hlen)
theorem roomG_top : RoomG 12 callerA := ⟨⟨rfl, by decide, by decide⟩, rfl⟩
end M
/-! MPX: comprehensions in short, defs as they stand behind the top. -/
namespace M
open PySem L2

section
variable {X : Cx} {A : Act} {W : WX} {elt tg iter : Expr} {ifs : List Expr} {scope : Scope} {own : List (Str × Nat)} {pos spos : Pos} {fi : IF} {t : TF} {c : BF} {f : EF} {st' sl : List Nat}
abbrev W0 : WX := fun _ _ _ _ => False
theorem PTs.imp {ifs : List Expr} {t t' : TT} (h : PTs X ifs t) (hi : ∀ σ H Q, t' σ H Q → t σ H Q) : PTs X ifs t' := ⟨fun pins s σ H Q I q => h.run pins s σ H Q I (hi _ _ _ q)⟩
theorem pts_no : PTs X [] (tBo A W yesB) := PTs.imp pts_nil fun σ H Q ⟨r, G, k, m⟩ => m G H k Step.refl
theorem pts_1 {x : Expr} (h : PT X x (tBo A W c)) : PTs X [x] (tBo A W c) := pts_one h
theorem pe_lcM (hc : X.calm = true) (hN : X.N.Nodup) (hi : PI X tg iter (tIt A W fi)) (ok : BlkOk X.N X.env.scope scope own)
    (hg : ∀ (s : Shared) (H : Hp) (C : Addr) (cl : List (Str × Addr)) (fp : List Addr), PG (X.blk s H scope (compEnvC scope cl C X.env) fp) tg (tTg A st' t))
    (ht : ∀ (s : Shared) (H : Hp) (C : Addr) (cl : List (Str × Addr)) (fp : List Addr), PTs (X.blk s H scope (compEnvC scope cl C X.env) fp) ifs (tBo A W0 c))
    (he : ∀ (s : Shared) (H : Hp) (C : Addr) (cl : List (Str × Addr)) (fp : List Addr), PE (X.blk s H scope (compEnvC scope cl C X.env) fp) elt (tE A W0 f))
    (tok : TOk st' t) (hs' : ∀ j ∈ st', j ∈ sl) (hio : ∀ i ∈ A.io, i ∉ sl) (hsl : own.map (·.2) = sl := by rfl) (hs : ∀ x, foldedSetIterable iter X.env x = pure x := by intro _; rfl) :
    PE X (.ListComp elt [⟨tg, iter, ifs, 0⟩] scope pos) (tE A W (lc fi t c f sl)) := by
  subst hsl
  exact PE.imp (pe_lc hc hN hi ok hg ht (fun s H C cl fp => pe_frz (he s H C cl fp)) hs) fun _ _ _ q => lc_of tok hs' hio q
/-- name = [..] on one line -/
theorem ps_asgLc {i : Nat} {y : Str} {py : Pos} (hc : X.calm = true) (hN : X.N.Nodup) (hy : X.N[i]? = some y) (hyl : X.env.scope.names.lookup y = some .local) (hyi : i ∉ A.io)
    (hsw : swapsWith (.ListComp elt [⟨tg, iter, ifs, 0⟩] scope pos) (some (.Name y py)) spos.line X.env = pure true) (hi : PI X tg iter (tIt A W fi)) (ok : BlkOk X.N X.env.scope scope own)
    (hg : ∀ (s : Shared) (H : Hp) (C : Addr) (cl : List (Str × Addr)) (fp : List Addr), PG (X.blk s H scope (compEnvC scope cl C X.env) fp) tg (tTg A st' t))
    (ht : ∀ (s : Shared) (H : Hp) (C : Addr) (cl : List (Str × Addr)) (fp : List Addr), PTs (X.blk s H scope (compEnvC scope cl C X.env) fp) ifs (tBo A W0 c))
    (he : ∀ (s : Shared) (H : Hp) (C : Addr) (cl : List (Str × Addr)) (fp : List Addr), PE (X.blk s H scope (compEnvC scope cl C X.env) fp) elt (tE A W0 f))
    (tok : TOk st' t) (hs' : ∀ j ∈ st', j ∈ sl) (hio : ∀ i ∈ A.io, i ∉ sl) (hsl : own.map (·.2) = sl := by rfl) (hs : ∀ x, foldedSetIterable iter X.env x = pure x := by intro _; rfl) :
    PS X (.Assign [.Name y py] (.ListComp elt [⟨tg, iter, ifs, 0⟩] scope pos) spos) (tSt A W (asg i (lc fi t c f sl))) := by
  subst hsl
  exact PS.imp (ps_setLc hc hN hy hyl hsw hi ok hg ht (fun s H C cl fp => pe_frz (he s H C cl fp)) hs) fun D σ H h => by
    obtain ⟨r, G, k, m⟩ := tSt_iff.mp h
    refine lc_of tok hs' hio ⟨r, G, k, ?_⟩
    unfold asg at m
    cases hf : lc fi t c f (own.map (·.2)) r with
    | bad => rw [hf] at m; exact m.elim
    | ex e r' => simp only [hf] at m ⊢; exact m σ
    | ok o v r' => simp only [hf] at m ⊢; exact fun x G' H' R => m _ G' H' (R.ok.store R.tr hyi) R.st.ex
end

/-! ### defs -/
section
variable {P : Program} {w : World} {K : PySem.W.Frag} {mg : Str → Option Value} {base : Heap}
abbrev FunP (K : PySem.W.Frag) (x : Str) (st : Stmt) (f : Addr) (fd : FuncData) : Prop := FunD K x x (defArgs st) (defBody st) (defScope st) [] [] f fd
/-- the def of the module named x keeps its promise g -/
structure DefP (P : Program) (w : World) (K : PySem.W.Frag) (mg : Str → Option Value) (base : Heap) (wd : Wd) (lvl : Nat) (x : Str) (st : Stmt) (ps : List Str) (g : GF) : Prop where
  ex : ∃ f fd, mg x = some (.ref f) ∧ FunP K x st f fd ∧ Binds K fd ps [] ∧ FnG P w K mg base (L2.CX P w) lvl f fd ps (spF wd ps.length g)
theorem def_mk {x : Str} {st : Stmt} {f : Addr} {fd : FuncData} {N ps : List Str} {k : Nat} {wd : Wd} {ios : List Nat} {body : SF} (hm : mg x = some (.ref f)) (F : FunP K x st f fd) (S : FnScope N ps (defScope st))
    (hb : ∀ (cdv : Value) (A : Around) (outer : List PySem.Env) (s : Shared) (H : Hp) (E : XK), RoomG k (A.deeper (PyProof.Rows.envOfC x (defScope st) s.heap.objs.size f cdv)) →
      SV (cxOf (L2.CX P w) P w K mg base N x (defScope st) f cdv A outer s H E) wd ios (defBody st) body)
    (hbind : ∀ (kV doc pm : Value) (an : Option Addr) (cdv ct : Value) (us : List Value), us.length = ps.length → bindArgs (PySem.W.fnOf x x (defArgs st) (defBody st) (defScope st) .none kV doc pm an cdv ct) ⟨us, []⟩ = pure (ps.zip us)) :
    DefP P w K mg base wd (k + 1) x st ps (runDef ios ps.length N.length body) := by
  refine ⟨f, fd, hm, F, FunD.bindsN F hbind, ?_⟩
  obtain ⟨oc, od, dV, kV, doc, pm, an, cdv, ct, osl, e, lk, hcd, hD, _⟩ := F.ex
  have F' : Fun K x x st f fd := by
    refine ⟨⟨oc, od, kV, doc, pm, an, cdv, ct, osl, ?_, lk, hcd⟩, F.kp⟩
    rcases hD with ⟨_, rfl⟩ | ⟨z, _⟩
    · exact e
    · exact absurd rfl z
  exact def_ok F' S hb fun as => .inr rfl
theorem DefP.eqg {wd : Wd} {lvl : Nat} {x : Str} {st : Stmt} {ps : List Str} {g g' : GF} (d : DefP P w K mg base wd lvl x st ps g) (h : ∀ as, g' as = .bad ∨ g' as = g as) : DefP P w K mg base wd lvl x st ps g' := by
  obtain ⟨f, fd, h1, h2, h3, F⟩ := d.ex
  refine ⟨f, fd, h1, h2, h3, F.weak fun vs H Q E ⟨G, as, a1, a2, a3, a4, m⟩ => ⟨G, as, a1, a2, a3, a4, ?_⟩⟩
  rcases h as with e | e
  · rw [e] at m; exact m.elim
  · rw [e] at m; exact m
end
section
variable {X : Cx} {A : Act} {W : WX} {lvl : Nat} {x : Str} {st : Stmt} {ps ks : List Str} {g : GF} {p pos : Pos} {e : Expr} {es : List Expr} {kws : List Keyword} {fo fk : OsF}
theorem pe_cD {n : Nat} (d : DefP X.prog X.w X.K X.mg X.base A.w lvl x st ps g) (hr : RoomG lvl X.A) (hg : Gl X x) (tk : Takes X W) (ha : PA X (e :: es) (tOs A W fo)) (hn : ps.length = n := by rfl) (hdb : (x == ("__debug__" : Str)) = false := by decide)
    (he : NoStar X e es := by rfl) (hpl : NoStars X es pos := by rfl) : PE X (.Call (.Name x p) (e :: es) [] pos) (tE A W (callG n g fo)) := by
  subst hn
  obtain ⟨f, fd, hm, F, hb, G⟩ := d.ex
  exact pe_cG G hr hg hm F.kp hb tk ha hdb he hpl
theorem pe_cD0 {n : Nat} (d : DefP X.prog X.w X.K X.mg X.base A.w lvl x st ps g) (hr : RoomG lvl X.A) (hg : Gl X x) (tk : Takes X W) (hn : ps.length = n := by rfl) (hdb : (x == ("__debug__" : Str)) = false := by decide) : PE X (.Call (.Name x p) [] [] pos) (tE A W (callG n g osNil)) := by
  subst hn
  obtain ⟨f, fd, hm, F, hb, G⟩ := d.ex
  exact pe_cG0 G hr hg hm F.kp hb tk hdb
/-- how a call with keywords binds: seen of the text -/
def KwB (x : Str) (st : Stmt) (ps ks : List Str) (ix : List Nat) (n : Nat) : Prop := ∀ (kV doc pm : Value) (an : Option Addr) (cdv ct : Value) (us ws zs : List Value), us.length = n → ws.length = ks.length → pick ix (us ++ ws) = some zs → zs.length = ps.length →
  bindArgs (PySem.W.fnOf x x (defArgs st) (defBody st) (defScope st) .none kV doc pm an cdv ct) ⟨us, ks.zip ws⟩ = pure (ps.zip zs)
theorem bindK_of {K : PySem.W.Frag} {f : Addr} {fd : FuncData} {ix : List Nat} {n : Nat} (F : FunP K x st f fd) (h : KwB x st ps ks ix n) : BindK K fd ps ks ix n := by
  obtain ⟨oc, od, dV, kV, doc, pm, an, cdv, ct, osl, rfl, lk, hcd, hD, _⟩ := F.ex
  rcases hD with ⟨_, rfl⟩ | ⟨z, _⟩
  · exact ⟨fun s us ws zs _ h1 h2 h3 h4 => .of_eq (h kV doc pm an cdv ct us ws zs h1 h4 h2 h3)⟩
  · exact absurd rfl z
theorem pe_cDK {n n1 n2 : Nat} {ix : List Nat} (d : DefP X.prog X.w X.K X.mg X.base A.w lvl x st ps g) (hr : RoomG lvl X.A) (hg : Gl X x) (tk : Takes X W) (hb : KwB x st ps ks ix (es.length + 1)) (ha : PA X (e :: es) (tOs A W fo)) (hkw : PK X kws (tOs A W fk)) (hn : ps.length = n := by rfl) (hn1 : es.length + 1 = n1 := by rfl) (hn2 : ks.length = n2 := by rfl)
    (hall : (backToKw pos (keywordEach kws X.env)).all (·.1.isSome) = true := by rfl) (hks : (backToKw pos (keywordEach kws X.env)).filterMap (·.1) = ks := by rfl)
    (hdb : (x == ("__debug__" : Str)) = false := by decide) (he : NoStar X e es := by rfl)
    (hpl : KPlain X (e :: es) kws pos := by rfl) :
    PE X (.Call (.Name x p) (e :: es) kws pos) (tE A W (callG n g (osPick ix (osApp (osN n1 fo) (osN n2 fk))))) := by
  subst hn hn1 hn2
  obtain ⟨f, fd, hm, F, _, G⟩ := d.ex
  exact pe_cGK G hr hg hm F.kp (bindK_of F hb) tk ha hkw hall hks hdb he hpl
theorem pe_cDK0 {n n2 : Nat} {ix : List Nat} (d : DefP X.prog X.w X.K X.mg X.base A.w lvl x st ps g) (hr : RoomG lvl X.A) (hg : Gl X x) (tk : Takes X W) (hb : KwB x st ps ks ix 0) (hkw : PK X kws (tOs A W fk)) (hn : ps.length = n := by rfl) (hn2 : ks.length = n2 := by rfl)
    (hall : (backToKw pos (keywordEach kws X.env)).all (·.1.isSome) = true := by rfl) (hks : (backToKw pos (keywordEach kws X.env)).filterMap (·.1) = ks := by rfl)
    (hdb : (x == ("__debug__" : Str)) = false := by decide)
    (hpl : KPlain X [] kws pos := by rfl) (hne : KCall X x kws p pos := by rfl) :
    PE X (.Call (.Name x p) [] kws pos) (tE A W (callG n g (osPick ix (osN n2 fk)))) := by
  subst hn hn2
  obtain ⟨f, fd, hm, F, _, G⟩ := d.ex
  exact pe_cGK0 G hr hg hm F.kp (bindK_of F hb) tk hkw hall hks hdb hpl hne
end
/-- constants of the text and of the module -/
theorem pe_ci {X : Cx} {A : Act} {W : WX} {i : Int} {j : Nat} {pos : Pos} : PE X (.Constant (.int i) j pos) (tE A W (cst (.int i))) := pe_cst pe_int fun _ => rep_int.mpr rfl
theorem pe_cs {X : Cx} {A : Act} {W : WX} {x : Str} {j : Nat} {pos : Pos} (hx : x.length ≤ sizeLine := by decide +kernel) : PE X (.Constant (.str x) j pos) (tE A W (cst (.str x))) := pe_cst pe_str fun _ => rep_str.mpr ⟨rfl, hx⟩
theorem pe_gs {X : Cx} {A : Act} {W : WX} {x z : Str} {pos : Pos} (hg : Gl X x) (hm : ∃ t, X.mg x = some (.str z t)) (hz : z.length ≤ sizeLine := by decide +kernel) (hd : (x == ("__debug__" : Str)) = false := by decide) : PE X (.Name x pos) (tE A W (cst (.str z))) := by
  obtain ⟨t, h⟩ := hm
  exact pe_cst (pe_glob (v := .str z) hg h ⟨t, rfl⟩ hd) fun _ => rep_str.mpr ⟨rfl, hz⟩
theorem pe_gi {X : Cx} {A : Act} {W : WX} {x : Str} {z : Int} {pos : Pos} (hg : Gl X x) (hm : ∃ t, X.mg x = some (.int z t)) (hd : (x == ("__debug__" : Str)) = false := by decide) : PE X (.Name x pos) (tE A W (cst (.int z))) := by
  obtain ⟨t, h⟩ := hm
  exact pe_cst (pe_glob (v := .int z) hg h ⟨t, rfl⟩ hd) fun _ => rep_int.mpr rfl
theorem pe_tyN {X : Cx} {A : Act} {W : WX} {x : Str} {T : String} {pos : Pos} (hg : Gl X x) (hm : X.mg x = none) (hv : bootBuiltins x = some (.type T)) (hn : x ≠ "__name__" := by decide) (hd : (x == ("__debug__" : Str)) = false := by decide) : PE X (.Name x pos) (tE A W (cst (.ty T))) :=
  pe_cst (pe_bltn hg hm hv (v := .ty T) rfl hn hd) fun _ => rep_ty.mpr rfl
/-- a name as an operand that is lent -/
theorem po_N {X : Cx} {A : Act} {W : WX} {e : Expr} {i : Nat} (h : PE X e (tVar i)) : PE X e (tO A W (oS i)) := po_S h

theorem Cal.blk {X : Cx} {w : Wd} {s : Shared} {H : Hp} {scope : Scope} {ce : PySem.Env} {fp : List Addr} (c : Cal X w) : Cal (X.blk s H scope ce fp) w := ⟨c.K, c.calm, c.un, c.gs⟩
theorem cal_of {P : Program} {w : World} {K : PySem.W.Frag} {mg : Str → Option Value} {base : Heap} {N : List Str} {qual : Str} {scope : Scope} {f : Addr} {cdv : Value} {A : Around} {outer : List PySem.Env} {s : Shared} {H : Hp} {E : XK} {k : Nat} {CM : Str → Option Addr}
    (hr : RoomG k (A.deeper (PyProof.Rows.envOfC qual scope s.heap.objs.size f cdv))) : Cal (cxOf (L2.CX P w) P w K mg base N qual scope f cdv A outer s H E) ⟨K, CM⟩ :=
  ⟨rfl, rfl, by have := hr.room.un; show (A.deeper (PyProof.Rows.envOfC qual scope s.heap.objs.size f cdv)).units + 100 < cLine; omega, hr.gs⟩
theorem tl_nil : ∀ (vs : List Val) (r r' : Env), tgNil vs r = some r' → vs.length = 0 := fun vs r r' h => by
  cases vs with
  | nil => rfl
  | cons _ _ => cases h
theorem tl_cons {n : Nat} {t : TF} {u : List Val → Env → Option Env} (hu : ∀ (vs : List Val) (r r' : Env), u vs r = some r' → vs.length = n) : ∀ (vs : List Val) (r r' : Env), tgCons t u vs r = some r' → vs.length = n + 1 := fun vs r r' h => by
  cases vs with
  | nil => cases h
  | cons v vs =>
    simp only [tgCons] at h
    cases ht : t v r with
    | none => simp only [ht] at h; cases h
    | some r1 => simp only [ht] at h; simp [hu vs r1 r' h]
theorem bt_str : bootBuiltins "str" = some (.type "str") := by decide +kernel
theorem bt_int : bootBuiltins "int" = some (.type "int") := by decide +kernel
theorem bt_list : bootBuiltins "list" = some (.type "list") := by decide +kernel
theorem bt_tuple : bootBuiltins "tuple" = some (.type "tuple") := by decide +kernel
theorem bt_dict : bootBuiltins "dict" = some (.type "dict") := by decide +kernel
theorem bt_bool : bootBuiltins "bool" = some (.type "bool") := by decide +kernel
theorem bf_isinstance : bootBuiltins "isinstance" = some (.builtin "isinstance") := by decide +kernel
theorem bf_len : bootBuiltins "len" = some (.builtin "len") := by decide +kernel
theorem bf_abs : bootBuiltins "abs" = some (.builtin "abs") := by decide +kernel
theorem bf_repr : bootBuiltins "repr" = some (.builtin "repr") := by decide +kernel
theorem bf_all : bootBuiltins "all" = some (.builtin "all") := by decide +kernel
theorem bf_any : bootBuiltins "any" = some (.builtin "any") := by decide +kernel
theorem bf_max : bootBuiltins "max" = some (.builtin "max") := by decide +kernel
theorem bf_min : bootBuiltins "min" = some (.builtin "min") := by decide +kernel
def Pneg : List Val → Option (Bool × Val)
  | [.int i] => some (false, .int (-i))
  | _ => none
theorem pe_neg {X : Cx} {A : Act} {W : WX} {x : Expr} {fo : OF} {pos : Pos} (h : PE X x (tO A W fo)) : PE X (.UnaryOp .USub x pos) (tE A W (prim Pneg (osCons fo osNil))) :=
  PE.imp (pe_un un_neg h) fun σ H Q q => by
    have q1 := prim_os1 q
    obtain ⟨r, G, k, m⟩ := q1
    refine ⟨r, G, k, ?_⟩
    cases hf : fo r with
    | bad => simp only [hf] at m
    | ex e r' => simp only [hf] at m ⊢; exact m
    | ok h r1 =>
      simp only [hf] at m ⊢
      intro x G1 H1 k1 st1 t1
      obtain ⟨G2, vs, o, z, le, rr, hp, q2⟩ := m x G1 H1 k1 st1 t1
      unfold Pneg at hp
      split at hp
      · obtain ⟨y, e, r1⟩ := rreps_one rr
        cases e; cases hp
        obtain rfl := rrep_int r1
        exact ⟨_, rfl, int_new le q2⟩
      · cases hp
/-- the promise of the def at f, found by its name -/
theorem DefP.at {P : Program} {w : World} {K : PySem.W.Frag} {mg : Str → Option Value} {base : Heap} {wd : Wd} {lvl k : Nat} {x : Str} {st : Stmt} {ps : List Str} {g : GF} {f : Addr} {fd : FuncData} (d : DefP P w K mg base wd lvl x st ps g) (hm : mg x = some (.ref f)) (F : FunP K x st f fd) (hk : lvl ≤ k) :
    FnG P w K mg base (L2.CX P w) k f fd ps (spF wd ps.length g) := by
  obtain ⟨f', fd', hm', F', _, G⟩ := d.ex
  rw [hm] at hm'
  cases hm'
  obtain ⟨_, _, _, _, _, _, _, _, _, _, _, l1, _⟩ := F.ex
  obtain ⟨_, _, _, _, _, _, _, _, _, _, _, l2, _⟩ := F'.ex
  rw [l1] at l2
  cases l2
  exact G.up hk
end M
namespace K01
open PySem L2 M
def b__law_pen : SF := (ret (lst (asCons (prim Plist (osCons (oV (slc (oS 0) pNo (pInt (cst (.int 63))))) osNil)) (asCons (cst (.int 0)) (asCons (cst (.int 0)) asNil)))))
def g__law_pen : GF := runDef [0] 1 1 b__law_pen
def b__law_draw : SF := (seq (ifS (tst (bin Pgt (oV (bin Pix (oS 0) (oV (cst (.int 2))))) (oV (cst (.int 0))))) (seq (asg 5 (bin Pmod (oV (bin Pix (oS 0) (oV (cst (.int 2))))) (oS 1)))
    (seq (setIx 0 (cst (.int 2)) (bin Pdiv (oV (bin Pix (oS 0) (oV (cst (.int 2))))) (oS 1)))
    (ret (mv 5)))) skip)
    (seq (asg 2 (bin Pix (oS 0) (oV (cst (.int 1)))))
    (seq (setIx 0 (cst (.int 1)) (bin Padd (oS 2) (oV (cst (.int 1)))))
    (seq (asg 3 (bin Padd (oV (bin Pmul (oV (cst (.int 130008))) (oS 2))) (oV (cst (.int 3768)))))
    (seq (ifS (tst (bin Pne (oV (bin Pix (oS 0) (oV (cst (.int 0))))) (oV (lst asNil)))) (asg 3 (bin Pix (oV (bin Pix (oS 0) (oV (cst (.int 0))))) (oV (bin Pmod (oS 2) (oV (prim Plen (osCons (oV (bin Pix (oS 0) (oV (cst (.int 0))))) osNil))))))) skip)
    (seq (ifS (andB (tst (bin Plt (oS 2) (oV (prim Plen (osCons (oV (bin Pix (oS 0) (oV (cst (.int 0))))) osNil))))) (tst (bin Pge (oV (prim Pabs (osCons (oS 3) osNil))) (oV (bin Ppow (oV (cst (.int 10))) (oV (cst (.int 18)))))))) (seq (asg 6 (bin Padd (oV (bin Pmul (oV (cst (.int 2))) (oV (prim Pabs (osCons (oS 3) osNil))))) (oV (prim Pint (osCons (oV (bin Plt (oS 3) (oV (cst (.int 0))))) osNil)))))
    (seq (setIx 0 (cst (.int 2)) (bin Pdiv (oS 6) (oS 1)))
    (ret (bin Pmod (oS 6) (oS 1))))) skip)
    (seq (asg 4 (bin Pmod (oV (bin Ppow (oV (bin Padd (oV (bin Padd (oV (bin Pmod (oS 3) (oV (cst (.int 2147483563))))) (oV (bin Pmul (oV (cst (.int 534142))) (oS 2))))) (oV (cst (.int 1578))))) (oV (cst (.int 5))))) (oV (cst (.int 2147483489)))))
    (seq (asg 4 (bin Pmod (oV (bin Ppow (oV (bin Padd (oV (bin Pmul (oS 4) (oV (bin Padd (oS 2) (oV (cst (.int 55542))))))) (oV (bin Pmul (oV (bin Pmul (oV (cst (.int 81738))) (oS 2))) (oS 2))))) (oV (cst (.int 3))))) (oV (cst (.int 2147483353)))))
    (ret (bin Pmod (oV (bin Pdiv (oS 4) (oV (cst (.int 32))))) (oS 1)))))))))))
def g__law_draw : GF := runDef [0, 1] 2 7 b__law_draw
def E1__law_is_name : EF := (var 1)
def F2__law_is_name : BF := (tst (bin PnotIn (oS 1) (oV (cst (.str "abcdefghijklmnopqrstuvwxyz")))))
def b__law_is_name : SF := (seq (ifS (orB (notB (tst (prim Pisi (osCons (oS 0) (osCons (oV (cst (.ty "str"))) osNil))))) (orB (tst (bin Peq (oV (prim Plen (osCons (oS 0) osNil))) (oV (cst (.int 0))))) (tst (bin Pgt (oV (prim Plen (osCons (oS 0) osNil))) (oV (cst (.int 8))))))) (ret (cst (.bl false))) skip)
    (ret (bin Peq (oV (lc (itV (var 0)) (tgN 1) F2__law_is_name E1__law_is_name [1])) (oV (lst asNil)))))
def g__law_is_name : GF := runDef [0] 1 2 b__law_is_name
def E1_is_name : EF := (bin Pin (oS 1) (oV (cst (.str "abcdefghijklmnopqrstuvwxyz"))))
def b_is_name : SF := (seq (ifS (orB (notB (tst (prim Pisi (osCons (oS 0) (osCons (oV (cst (.ty "str"))) osNil))))) (notB (tst (chn Ple Ple (oV (cst (.int 1))) (oV (prim Plen (osCons (oS 0) osNil))) (oV (cst (.int 8))))))) (ret (cst (.bl false))) skip)
    (ret (prim Pall (osCons (oV (lc (itV (var 0)) (tgN 1) yesB E1_is_name [1])) osNil))))
def g_is_name : GF := runDef [0] 1 2 b_is_name
def E1_law : EF := (bin Pix (oV (cst (.str "azbycxdwmn"))) (oV (callG 2 g__law_draw (osCons (oS 1) (osCons (oV (cst (.int 10))) osNil)))))
def L2_law : SF := (seq (asg 8 (prim Prepr (osCons (oV (callG 1 g__law_is_name (osCons (oS 7) osNil))) osNil)))
    (ifS (orB (tst (bin Pne (oV (prim Prepr (osCons (oV (callG 1 g_is_name (osCons (oS 7) osNil))) osNil))) (oS 8))) (tst (bin Pne (oV (prim Prepr (osCons (oV (callG 1 g_is_name (osPick [0] (osN 1 (osCons (oS 7) osNil))))) osNil))) (oS 8)))) (ret (cst (.bl false))) skip))
def L3_law : SF := (seq (asg 4 (prim Pjoin (osCons (oTy "str" (oV (cst (.str "")))) (osCons (oV (lc (itR rng1 (asCons (callG 2 g__law_draw (osCons (oS 1) (osCons (oV (cst (.int 10))) osNil))) asNil)) (tgN 9) yesB E1_law [9])) osNil))))
    (seq (asg 5 (callG 2 g__law_draw (osCons (oS 1) (osCons (oV (bin Padd (oV (prim Plen (osCons (oS 4) osNil))) (oV (cst (.int 1))))) osNil))))
    (seq (asg 6 (bin Pix (oV (cst (.str "azAZ09 _-:*.~{`\x40[\n"))) (oV (callG 2 g__law_draw (osCons (oS 1) (osCons (oV (cst (.int 18))) osNil))))))
    (forS (itV (bin Padd (oV (lst (asCons (var 4) (asCons (bin Padd (oV (bin Padd (oV (slc (oS 4) pNo (pInt (var 5)))) (oS 6))) (oV (slc (oS 4) (pInt (var 5)) pNo))) (asCons (bin Padd (oV (bin Padd (oV (slc (oS 4) pNo (pInt (var 5)))) (oS 6))) (oV (slc (oS 4) (pInt (bin Padd (oS 5) (oV (cst (.int 1))))) pNo))) asNil))))) (oS 2))) (tgN 7) L2_law))))
def b_law : SF := (seq (asg 1 (callG 1 g__law_pen (osCons (oS 0) osNil)))
    (seq (asg 2 (lst (asCons (cst .non) (asCons (cst (.bl true)) (asCons (cst (.int 0)) (asCons (cst (.int 1)) (asCons (cst (.str "")) (asCons (tup asNil) (asCons (lst asNil) (asCons (dNew false) (asCons (tup (asCons (cst (.str "a")) asNil)) (asCons (lst (asCons (cst (.str "a")) asNil)) (asCons (dsp [((cst (.str "a")), (cst (.int 1)))]) (asCons (cst (.str "A")) (asCons (cst (.str "a b")) (asCons (cst (.str " a")) (asCons (cst (.str "a ")) (asCons (cst (.str "a\n")) (asCons (cst (.str "\na")) (asCons (cst (.str "a1")) asNil))))))))))))))))))))
    (seq (asg 2 (bin Padd (oS 2) (oV (lst (asCons (cst (.str "a_")) (asCons (cst (.str "-")) (asCons (cst (.str "abcdefgh")) (asCons (cst (.str "abcdefghi")) (asCons (cst (.str "zzzzzzzz")) (asCons (cst (.str "if")) (asCons (cst (.str "self")) (asCons (bin Ppow (oV (cst (.int 10))) (oV (cst (.int 59)))) (asCons (bin Pmul (oV (cst (.str "a"))) (oV (cst (.int 4000)))) asNil)))))))))))))
    (seq (forS (itR rng1 (asCons (cst (.int 40)) asNil)) (tgN 3) L3_law)
    (ret (cst (.bl true)))))))
def g_law : GF := runDef [0] 1 10 b_law
/-! ### the plain law -/
abbrev pen (cs : List Int) (t r : Int) : Val := .lst [.lst (cs.map .int), .int t, .int r]
theorem toDs_ints : ∀ cs : List Int, toDs (cs.map .int) = some (cs.map .int)
  | [] => rfl
  | c :: cs => by rw [List.map_cons, toDs, toDs_ints cs]; rfl
theorem shp_ints (cs : List Int) : shp (.list (cs.map .int)) = true := by
  have h1 : ∀ cs : List Int, PyData.canLayAll0 (cs.map .int) = true := fun cs => by
    induction cs with
    | nil => simp [PyData.canLayAll0]
    | cons c cs ih => simp [PyData.canLayAll0, PyData.canLay0]; simpa using ih
  have h2 : ∀ cs : List Int, PyData.depthAll (cs.map .int) = 0 := fun cs => by
    induction cs with
    | nil => simp [PyData.depthAll]
    | cons c cs ih => simp [PyData.depthAll, PyData.depth]; simpa using ih
  show SeqAt.shaped _ = true
  unfold SeqAt.shaped
  simp only [PyData.canLay0, PyData.depth, h1, h2]
  decide
theorem draw_rest (cs : List Int) (t r n : Int) (hr : 0 < r) (h0 : 0 < n) (hn : n < 1073741824) :
    g__law_draw [(true, pen cs t r), (false, .int n)] = .ok false (.int (r % n)) (some (true, pen cs t (r / n))) := by
  simp [g__law_draw, b__law_draw, M.runDef, M.seq, M.skip, M.ifS, M.asg, M.setIx, M.ret, M.drop, M.tst, M.bin, M.prim, M.osCons, M.osNil, M.oV, M.oS, M.cst, M.var, M.mv, M.frz, M.getAll, M.Hd.get, M.ownIx, M.outOf, M.lst, M.tup, M.asCons, M.asNil, M.andB, M.orB, M.notB, M.callG, M.lend, M.lentIx, M.back, M.lents, M.tgN, M.itV, M.itR, M.forS, M.slc, M.pNo, M.pInt, List.getElem?_cons_zero, List.getElem?_cons_succ, List.set_cons_zero, List.set_cons_succ, List.map_cons, List.map_nil, List.replicate_succ, List.replicate_zero, List.length_cons, List.length_nil, List.nil_append, List.cons_append, List.append_nil, Nat.reduceAdd, Nat.reduceSub, Pix, atI, ixN, Pgt, cmpI, hr, Pmod, h0, hn, Pdiv, putIx]
theorem pne_nil (cs : List Int) : Pne [.lst (cs.map .int), .lst []] = some (false, .bl (decide (cs ≠ []))) := by
  have h1 := shp_ints cs
  have h2 := shp_ints []
  simp only [List.map_nil] at h2
  cases cs with
  | nil => simp [Pne, toD, toDs, h2, PyData.eqv, PyData.eqvAll]
  | cons c cs =>
    simp only [List.map_cons] at h1
    simp [Pne, toD, toDs, toDs_ints, h1, h2, PyData.eqv, PyData.eqvAll]
theorem ix_mod (cs : List Int) (t : Int) (h : cs ≠ []) (ht : 0 ≤ t) : ∃ c, Pix [.lst (cs.map .int), .int (t % (cs.length : Int))] = some (false, .int c) := by
  have hl : 0 < cs.length := List.length_pos_iff.mpr h
  have h1 : 0 ≤ t % (cs.length : Int) := Int.emod_nonneg _ (by omega)
  have h2 : t % (cs.length : Int) < cs.length := Int.emod_lt_of_pos _ (by omega)
  have h3 : (t % (cs.length : Int)).toNat < cs.length := by omega
  exact ⟨cs[(t % (cs.length : Int)).toNat], by simp [Pix, atI, ixN, h1, h2, h3]⟩
def mixed (c t : Int) : Int := ((c % 2147483563 + 534142 * t + 1578) ^ 5 % 2147483489 * (t + 55542) + 81738 * t * t) ^ 3 % 2147483353
def cell (cs : List Int) (t : Int) : Option Int := if cs = [] then some (130008 * t + 3768) else match Pix [.lst (cs.map .int), .int (t % (cs.length : Int))] with
  | some (false, .int c) => some c
  | _ => none
theorem cell_some (cs : List Int) (t : Int) (ht : 0 ≤ t) : ∃ c, cell cs t = some c := by
  unfold cell
  by_cases h : cs = []
  · exact ⟨_, if_pos h⟩
  · obtain ⟨c, e⟩ := ix_mod cs t h ht
    exact ⟨c, by rw [if_neg h, e]⟩
theorem mul_ok {i j : Int} (h0 : 0 ≤ j) (h : j < 2 ^ 64) : mulOk i j = true := by
  unfold mulOk
  exact decide_eq_true (.inr ⟨by omega, h⟩)
theorem mul_okL {i j : Int} (h0 : 0 ≤ i) (h : i < 2 ^ 64) : mulOk i j = true := by
  unfold mulOk
  exact decide_eq_true (.inl ⟨by omega, h⟩)
theorem draw_small (cs : List Int) (t n c : Int) (ht : 0 ≤ t) (ht2 : t < 1000000) (h0 : 0 < n) (hn : n < 1073741824) (hc : cell cs t = some c) (hb : ¬ (t < cs.length ∧ 10 ^ 18 ≤ (if c < 0 then -c else c))) :
    g__law_draw [(true, pen cs t 0), (false, .int n)] = .ok false (.int (mixed c t / 32 % n)) (some (true, pen cs (t + 1) 0)) := by
  have m0 : 0 ≤ c % 2147483563 := Int.emod_nonneg _ (by decide)
  have m1 : c % 2147483563 < 2147483563 := Int.emod_lt_of_pos _ (by decide)
  have p1 : (c % 2147483563 + 534142 * t + 1578).natAbs < 2 ^ 64 := by omega
  obtain ⟨z, hz⟩ : ∃ z, z = (c % 2147483563 + 534142 * t + 1578) ^ 5 % 2147483489 := ⟨_, rfl⟩
  have z0 : 0 ≤ z := by rw [hz]; exact Int.emod_nonneg _ (by decide)
  have z1 : z < 2147483489 := by rw [hz]; exact Int.emod_lt_of_pos _ (by decide)
  have q1 : z * (t + 55542) ≤ 2147483489 * 1055542 := Int.mul_le_mul (by omega) (by omega) (by omega) (by decide)
  have q0 : 0 ≤ z * (t + 55542) := Int.mul_nonneg z0 (by omega)
  have q2 : 81738 * t * t ≤ 81738 * 1000000 * 1000000 := Int.mul_le_mul (by omega) (by omega) ht (by decide)
  have q3 : 0 ≤ 81738 * t * t := Int.mul_nonneg (by omega) ht
  have p2 : (z * (t + 55542) + 81738 * t * t).natAbs < 2 ^ 64 := by omega
  have k1 : mulOk 130008 t = true := mul_okL (by decide) (by decide)
  have k2 : mulOk 534142 t = true := mul_okL (by decide) (by decide)
  have k3 : mulOk z (t + 55542) = true := mul_okL z0 (by omega)
  have k4 : mulOk 81738 t = true := mul_okL (by decide) (by decide)
  have k5 : mulOk (81738 * t) t = true := mul_ok ht (by omega)
  have px0 : ∀ d r, Pix [pen cs d r, .int 0] = some (false, .lst (cs.map .int)) := fun d r => by simp [Pix, atI, ixN]
  have px1 : ∀ d r, Pix [pen cs d r, .int 1] = some (false, .int d) := fun d r => by simp [Pix, atI, ixN]
  have px2 : ∀ d r, Pix [pen cs d r, .int 2] = some (false, .int r) := fun d r => by simp [Pix, atI, ixN]
  have pu1 : ∀ d r e, putIx (pen cs d r) (.int 1) (.int e) = some (pen cs e r) := fun d r e => by simp [putIx, ixN]
  have k6 : ¬ (2 ^ 64 : Int) ≤ 0 := by decide
  by_cases h : cs = []
  · have hc' : 130008 * t + 3768 = c := by simpa [cell, h] using hc
    have hl : ¬ t < (cs.length : Int) := by rw [h]; simp; omega
    have hpn : Pne [.lst (cs.map .int), .lst []] = some (false, .bl false) := by rw [pne_nil]; simp [h]
    simp [g__law_draw, b__law_draw, M.runDef, M.seq, M.skip, M.ifS, M.asg, M.setIx, M.ret, M.drop, M.tst, M.bin, M.prim, M.osCons, M.osNil, M.oV, M.oS, M.cst, M.var, M.mv, M.frz, M.getAll, M.Hd.get, M.ownIx, M.outOf, M.lst, M.tup, M.asCons, M.asNil, M.andB, M.orB, M.notB, M.callG, M.lend, M.lentIx, M.back, M.lents, M.tgN, M.itV, M.itR, M.forS, M.slc, M.pNo, M.pInt, List.getElem?_cons_zero, List.getElem?_cons_succ, List.set_cons_zero, List.set_cons_succ, List.map_cons, List.map_nil, List.replicate_succ, List.replicate_zero, List.length_cons, List.length_nil, List.nil_append, List.cons_append, List.append_nil, Nat.reduceAdd, Nat.reduceSub, px0, px1, px2, pu1, Pgt, Pge, Plt, cmpI, Pmod, h0, hn, Pdiv, Padd, Pmul, Ppow, Pabs, Pint, Plen, hpn, hl, k1, k2, k4, k5, hc', p1, p2, k3, ← hz, mixed]
  · have hlN : 0 < cs.length := List.length_pos_iff.mpr h
    have hl : 0 < (cs.length : Int) := by omega
    have hpn : Pne [.lst (cs.map .int), .lst []] = some (false, .bl true) := by rw [pne_nil]; simp [h]
    have hix : Pix [.lst (cs.map .int), .int (t % (cs.length : Int))] = some (false, .int c) := by
      obtain ⟨c', e⟩ := ix_mod cs t h ht
      unfold cell at hc
      rw [if_neg h, e] at hc
      cases hc
      exact e
    by_cases hl2 : t < (cs.length : Int)
    · have hb' : ¬ (1000000000000000000 : Int) ≤ (if c < 0 then -c else c) := fun z => hb ⟨hl2, z⟩
      simp [g__law_draw, b__law_draw, M.runDef, M.seq, M.skip, M.ifS, M.asg, M.setIx, M.ret, M.drop, M.tst, M.bin, M.prim, M.osCons, M.osNil, M.oV, M.oS, M.cst, M.var, M.mv, M.frz, M.getAll, M.Hd.get, M.ownIx, M.outOf, M.lst, M.tup, M.asCons, M.asNil, M.andB, M.orB, M.notB, M.callG, M.lend, M.lentIx, M.back, M.lents, M.tgN, M.itV, M.itR, M.forS, M.slc, M.pNo, M.pInt, List.getElem?_cons_zero, List.getElem?_cons_succ, List.set_cons_zero, List.set_cons_succ, List.map_cons, List.map_nil, List.replicate_succ, List.replicate_zero, List.length_cons, List.length_nil, List.nil_append, List.cons_append, List.append_nil, Nat.reduceAdd, Nat.reduceSub, px0, px1, px2, pu1, Pgt, Pge, Plt, cmpI, Pmod, h0, hn, Pdiv, Padd, Pmul, Ppow, Pabs, Pint, Plen, hpn, hix, hlN, hl2, hb', k1, k2, k4, k5, p1, p2, k3, ← hz, mixed]
    · simp [g__law_draw, b__law_draw, M.runDef, M.seq, M.skip, M.ifS, M.asg, M.setIx, M.ret, M.drop, M.tst, M.bin, M.prim, M.osCons, M.osNil, M.oV, M.oS, M.cst, M.var, M.mv, M.frz, M.getAll, M.Hd.get, M.ownIx, M.outOf, M.lst, M.tup, M.asCons, M.asNil, M.andB, M.orB, M.notB, M.callG, M.lend, M.lentIx, M.back, M.lents, M.tgN, M.itV, M.itR, M.forS, M.slc, M.pNo, M.pInt, List.getElem?_cons_zero, List.getElem?_cons_succ, List.set_cons_zero, List.set_cons_succ, List.map_cons, List.map_nil, List.replicate_succ, List.replicate_zero, List.length_cons, List.length_nil, List.nil_append, List.cons_append, List.append_nil, Nat.reduceAdd, Nat.reduceSub, px0, px1, px2, pu1, Pgt, Pge, Plt, cmpI, Pmod, h0, hn, Pdiv, Padd, Pmul, Ppow, Pabs, Pint, Plen, hpn, hix, hlN, hl2, k1, k2, k4, k5, p1, p2, k3, ← hz, mixed]
theorem draw_great (cs : List Int) (t n c : Int) (ht : 0 ≤ t) (ht2 : t < 1000000) (h0 : 0 < n) (hn : n < 1073741824) (hc : cell cs t = some c) (hb : t < cs.length ∧ 10 ^ 18 ≤ (if c < 0 then -c else c)) :
    g__law_draw [(true, pen cs t 0), (false, .int n)] = .ok false (.int ((2 * (if c < 0 then -c else c) + (if c < 0 then 1 else 0)) % n)) (some (true, pen cs (t + 1) ((2 * (if c < 0 then -c else c) + (if c < 0 then 1 else 0)) / n))) := by
  have k1 : mulOk 130008 t = true := mul_okL (by decide) (by decide)
  have k2 : ∀ j, mulOk 2 j = true := fun j => mul_okL (by decide) (by decide)
  have px0 : ∀ d r, Pix [pen cs d r, .int 0] = some (false, .lst (cs.map .int)) := fun d r => by simp [Pix, atI, ixN]
  have px1 : ∀ d r, Pix [pen cs d r, .int 1] = some (false, .int d) := fun d r => by simp [Pix, atI, ixN]
  have px2 : ∀ d r, Pix [pen cs d r, .int 2] = some (false, .int r) := fun d r => by simp [Pix, atI, ixN]
  have pu1 : ∀ d r e, putIx (pen cs d r) (.int 1) (.int e) = some (pen cs e r) := fun d r e => by simp [putIx, ixN]
  have pu2 : ∀ d r e, putIx (pen cs d r) (.int 2) (.int e) = some (pen cs d e) := fun d r e => by simp [putIx, ixN]
  have h : cs ≠ [] := fun z => by rw [z] at hb; simp at hb; omega
  have hlN : 0 < cs.length := List.length_pos_iff.mpr h
  have hl : 0 < (cs.length : Int) := by omega
  have hpn : Pne [.lst (cs.map .int), .lst []] = some (false, .bl true) := by rw [pne_nil]; simp [h]
  have hix : Pix [.lst (cs.map .int), .int (t % (cs.length : Int))] = some (false, .int c) := by
    obtain ⟨c', e⟩ := ix_mod cs t h ht
    unfold cell at hc
    rw [if_neg h, e] at hc
    cases hc
    exact e
  have hl2 := hb.1
  have hb' : (1000000000000000000 : Int) ≤ (if c < 0 then -c else c) := hb.2
  simp [g__law_draw, b__law_draw, M.runDef, M.seq, M.skip, M.ifS, M.asg, M.setIx, M.ret, M.drop, M.tst, M.bin, M.prim, M.osCons, M.osNil, M.oV, M.oS, M.cst, M.var, M.mv, M.frz, M.getAll, M.Hd.get, M.ownIx, M.outOf, M.lst, M.tup, M.asCons, M.asNil, M.andB, M.orB, M.notB, M.callG, M.lend, M.lentIx, M.back, M.lents, M.tgN, M.itV, M.itR, M.forS, M.slc, M.pNo, M.pInt, List.getElem?_cons_zero, List.getElem?_cons_succ, List.set_cons_zero, List.set_cons_succ, List.map_cons, List.map_nil, List.replicate_succ, List.replicate_zero, List.length_cons, List.length_nil, List.nil_append, List.cons_append, List.append_nil, Nat.reduceAdd, Nat.reduceSub, px0, px1, px2, pu1, pu2, Pgt, Pge, Plt, cmpI, Pmod, h0, hn, Pdiv, Padd, Pmul, Ppow, Pabs, Pint, Plen, hpn, hix, hlN, hl2, hb', k1, k2]
/-- a drawn number, the pen behind it -/
theorem draw (cs : List Int) (t r n : Int) (ht : 0 ≤ t) (ht2 : t < 1000000) (hr : 0 ≤ r) (h0 : 0 < n) (hn : n < 1073741824) :
    ∃ d t' r', g__law_draw [(true, pen cs t r), (false, .int n)] = .ok false (.int d) (some (true, pen cs t' r')) ∧ 0 ≤ d ∧ d < n ∧ 0 ≤ t' ∧ t' ≤ t + 1 ∧ 0 ≤ r' := by
  by_cases hz : 0 < r
  · exact ⟨_, _, _, draw_rest cs t r n hz h0 hn, Int.emod_nonneg _ (by omega), Int.emod_lt_of_pos _ h0, ht, by omega, Int.ediv_nonneg hr (by omega)⟩
  · have e : r = 0 := by omega
    subst e
    obtain ⟨c, hc⟩ := cell_some cs t ht
    by_cases hb : t < cs.length ∧ 10 ^ 18 ≤ (if c < 0 then -c else c)
    · exact ⟨_, _, _, draw_great cs t n c ht ht2 h0 hn hc hb, Int.emod_nonneg _ (by omega), Int.emod_lt_of_pos _ h0, by omega, by omega, Int.ediv_nonneg (by split <;> omega) (by omega)⟩
    · exact ⟨_, _, _, draw_small cs t n c ht ht2 h0 hn hc hb, Int.emod_nonneg _ (by omega), Int.emod_lt_of_pos _ h0, by omega, by omega, by omega⟩
theorem pen_made (ns : List Int) (h : ns.length ≤ 63) : g__law_pen [(false, .scr ns)] = .ok true (pen ns 0 0) none := by
  have e : cutA ns none (some 63) = ns := by
    unfold cutA
    have h1 : HT.sIx ns.length 0 none = 0 := rfl
    have h2 : HT.sIx ns.length ns.length (some 63) = ns.length := by
      show min (63 : Int).toNat ns.length = ns.length
      exact Nat.min_eq_right (by omega)
    rw [h1, h2]; simp
  simp [g__law_pen, b__law_pen, M.runDef, M.seq, M.skip, M.ifS, M.asg, M.setIx, M.ret, M.drop, M.tst, M.bin, M.prim, M.osCons, M.osNil, M.oV, M.oS, M.cst, M.var, M.mv, M.frz, M.getAll, M.Hd.get, M.ownIx, M.outOf, M.lst, M.tup, M.asCons, M.asNil, M.andB, M.orB, M.notB, M.callG, M.lend, M.lentIx, M.back, M.lents, M.tgN, M.itV, M.itR, M.forS, M.slc, M.pNo, M.pInt, List.getElem?_cons_zero, List.getElem?_cons_succ, List.set_cons_zero, List.set_cons_succ, List.map_cons, List.map_nil, List.replicate_succ, List.replicate_zero, List.length_cons, List.length_nil, List.nil_append, List.cons_append, List.append_nil, Nat.reduceAdd, Nat.reduceSub, Psl, e, Plist]

/-! ### names -/
def letters : Str := "abcdefghijklmnopqrstuvwxyz"
def good (s : Str) : Prop := s.length ≤ 100000 ∧ ∀ c ∈ s.cps.toList, c < 0x110000
def one (c : Nat) : Str := ⟨#[c]⟩
theorem len_list (s : Str) : s.cps.toList.length = s.length := by rw [Array.length_toList]; rfl
def isL (c : Nat) : Bool := decide (c ∈ letters.cps.toList)
def okName (s : Str) : Bool := decide (1 ≤ s.length ∧ s.length ≤ 8) && s.cps.toList.all isL
theorem pin_one (c : Nat) : Pin [.str (one c), .str "abcdefghijklmnopqrstuvwxyz"] = some (false, .bl (isL c)) := by
  simp [Pin, inOf, one, letters, isL]
theorem pnotin_one (c : Nat) : PnotIn [.str (one c), .str "abcdefghijklmnopqrstuvwxyz"] = some (false, .bl (!isL c)) := by
  simp [PnotIn, inOf, one, letters, isL]
/-- a comprehension whose turns leave the slots as they were -/
theorem lcL_map {α : Type} {t : TF} {c : BF} {f : EF} {sl : List Nat} {env : M.Env} (y z : α → Val) (p : α → Bool) : ∀ (xs : List α) (acc : List Val),
    (∀ x ∈ xs, ∃ r1, t (y x) env = some r1 ∧ c r1 = .ok (p x) r1 ∧ wipeR r1 sl = env ∧ (p x = true → ∃ o r3, frz f r1 = .ok o (z x) r3 ∧ wipeR r3 sl = env)) → acc.length + xs.length ≤ 100000 →
    lcL t c f sl (xs.map y) acc env = .ok (acc ++ (xs.filter p).map z) env
  | [], acc, _, _ => by simp [lcL]
  | x :: xs, acc, h, hl => by
    obtain ⟨r1, e1, e2, e3, e4⟩ := h x (by simp)
    have hx := fun x' hx' => h x' (List.mem_cons_of_mem _ hx')
    rw [List.length_cons] at hl
    rw [List.map_cons, lcL]
    cases hp : p x with
    | false =>
      rw [hp] at e2
      simp only [e1, e2, e3]
      rw [lcL_map y z p xs acc hx (by omega), List.filter_cons_of_neg (by simp [hp])]
    | true =>
      rw [hp] at e2
      obtain ⟨o, r3, e5, e6⟩ := e4 hp
      have ha : acc.length < 100000 := by omega
      simp only [e1, e2, e5, e6, if_pos ha]
      rw [lcL_map y z p xs (acc ++ [z x]) hx (by simp; omega), List.filter_cons_of_pos (by simp [hp])]
      simp
theorem lc_is (v0 : Val) (cs : List Nat) (h : cs.length ≤ 100000) : lcL (M.tgN 1) yesB E1_is_name [1] (cs.map fun c => .str (one c)) [] [some (false, v0), none] =
      .ok ((cs.map isL).map Val.bl) [some (false, v0), none] := by
  have := lcL_map (t := M.tgN 1) (c := yesB) (f := E1_is_name) (sl := [1]) (env := [some (false, v0), none]) (fun c => .str (one c)) (fun c => Val.bl (isL c)) (fun _ => true) cs [] (fun x _ => ⟨[some (false, v0), some (false, .str (one x))], by simp [M.tgN], rfl, by simp [wipeR], fun _ => ⟨false, [some (false, v0), some (false, .str (one x))], by simp [E1_is_name, M.runDef, M.seq, M.skip, M.ifS, M.asg, M.setIx, M.ret, M.drop, M.tst, M.bin, M.prim, M.osCons, M.osNil, M.oV, M.oS, M.cst, M.var, M.mv, M.frz, M.getAll, M.Hd.get, M.ownIx, M.outOf, M.lst, M.tup, M.asCons, M.asNil, M.andB, M.orB, M.notB, M.callG, M.lend, M.lentIx, M.back, M.lents, M.tgN, M.itV, M.itR, M.forS, M.slc, M.pNo, M.pInt, List.getElem?_cons_zero, List.getElem?_cons_succ, List.set_cons_zero, List.set_cons_succ, List.map_cons, List.map_nil, List.replicate_succ, List.replicate_zero, List.length_cons, List.length_nil, List.nil_append, List.cons_append, List.append_nil, Nat.reduceAdd, Nat.reduceSub, pin_one], by simp [wipeR]⟩⟩) (by simpa using h)
  rw [this, List.filter_eq_self.mpr (by simp)]
  simp
theorem lc_law (v0 : Val) (cs : List Nat) (h : cs.length ≤ 100000) : lcL (M.tgN 1) F2__law_is_name E1__law_is_name [1] (cs.map fun c => .str (one c)) [] [some (false, v0), none] =
      .ok (((cs.filter fun c => !isL c).map one).map Val.str) [some (false, v0), none] := by
  have := lcL_map (t := M.tgN 1) (c := F2__law_is_name) (f := E1__law_is_name) (sl := [1]) (env := [some (false, v0), none]) (fun c => .str (one c)) (fun c => .str (one c)) (fun c => !isL c) cs [] (fun x _ => ⟨[some (false, v0), some (false, .str (one x))], by simp [M.tgN], by simp [F2__law_is_name, M.runDef, M.seq, M.skip, M.ifS, M.asg, M.setIx, M.ret, M.drop, M.tst, M.bin, M.prim, M.osCons, M.osNil, M.oV, M.oS, M.cst, M.var, M.mv, M.frz, M.getAll, M.Hd.get, M.ownIx, M.outOf, M.lst, M.tup, M.asCons, M.asNil, M.andB, M.orB, M.notB, M.callG, M.lend, M.lentIx, M.back, M.lents, M.tgN, M.itV, M.itR, M.forS, M.slc, M.pNo, M.pInt, List.getElem?_cons_zero, List.getElem?_cons_succ, List.set_cons_zero, List.set_cons_succ, List.map_cons, List.map_nil, List.replicate_succ, List.replicate_zero, List.length_cons, List.length_nil, List.nil_append, List.cons_append, List.append_nil, Nat.reduceAdd, Nat.reduceSub, pnotin_one], by simp [wipeR], fun _ => ⟨false, [some (false, v0), some (false, .str (one x))], by simp [E1__law_is_name, M.runDef, M.seq, M.skip, M.ifS, M.asg, M.setIx, M.ret, M.drop, M.tst, M.bin, M.prim, M.osCons, M.osNil, M.oV, M.oS, M.cst, M.var, M.mv, M.frz, M.getAll, M.Hd.get, M.ownIx, M.outOf, M.lst, M.tup, M.asCons, M.asNil, M.andB, M.orB, M.notB, M.callG, M.lend, M.lentIx, M.back, M.lents, M.tgN, M.itV, M.itR, M.forS, M.slc, M.pNo, M.pInt, List.getElem?_cons_zero, List.getElem?_cons_succ, List.set_cons_zero, List.set_cons_succ, List.map_cons, List.map_nil, List.replicate_succ, List.replicate_zero, List.length_cons, List.length_nil, List.nil_append, List.cons_append, List.append_nil, Nat.reduceAdd, Nat.reduceSub], by simp [wipeR]⟩⟩) (by simpa using h)
  rw [this]
  simp
theorem asBls_map : ∀ bs : List Bool, asBls (bs.map Val.bl) = some bs
  | [] => rfl
  | b :: bs => by simp [asBls, asBls_map bs]
theorem asBls_comp {α : Type} (f : α → Bool) (xs : List α) : asBls (xs.map (Val.bl ∘ f)) = some (xs.map f) := by
  rw [← List.map_map, asBls_map]
theorem toDs_strs : ∀ ss : List Str, toDs (ss.map Val.str) = some (ss.map PyData.str)
  | [] => rfl
  | s :: ss => by simp [toDs, toD, toDs_strs ss]
theorem shp_strs (ss : List Str) (h : ∀ s ∈ ss, ∀ c ∈ s.cps.toList, c < 0x110000) : shp (.list (ss.map .str)) = true := by
  have h1 : ∀ ss : List Str, (∀ s ∈ ss, ∀ c ∈ s.cps.toList, c < 0x110000) → PyData.canLayAll0 (ss.map .str) = true := fun ss => by
    induction ss with
    | nil => intro _; simp [PyData.canLayAll0]
    | cons s ss ih =>
      intro h
      have hs : PyData.strOk s = true := by
        unfold PyData.strOk
        rw [Array.all_eq_true_iff_forall_mem]
        intro c hc
        exact decide_eq_true (h s (by simp) c (by simpa using hc))
      simp [PyData.canLayAll0, PyData.canLay0, hs, ih fun s' hs' => h s' (by simp [hs'])]
  have h2 : ∀ ss : List Str, PyData.depthAll (ss.map .str) = 0 := fun ss => by
    induction ss with
    | nil => simp [PyData.depthAll]
    | cons s ss ih => simp [PyData.depthAll, PyData.depth, ih]
  show SeqAt.shaped _ = true
  unfold SeqAt.shaped
  simp only [PyData.canLay0, PyData.depth, h1 ss h, h2]
  decide
theorem peq_nil (ss : List Str) (h : ∀ s ∈ ss, ∀ c ∈ s.cps.toList, c < 0x110000) : Peq [.lst (ss.map .str), .lst []] = some (false, .bl (decide (ss = []))) := by
  have h1 := shp_strs ss h
  have h2 := shp_strs [] (by simp)
  simp only [List.map_nil] at h2
  cases ss with
  | nil => simp [Peq, toD, toDs, h2, PyData.eqv, PyData.eqvAll]
  | cons c cs =>
    simp only [List.map_cons] at h1
    simp [Peq, toD, toDs, toDs_strs, h1, h2, PyData.eqv, PyData.eqvAll]
theorem shp_int (i : Int) : shp (.int i) = true := by
  show SeqAt.shaped _ = true
  simp [SeqAt.shaped, PyData.canLay0, PyData.depth]
theorem peq_int (i j : Int) : Peq [.int i, .int j] = some (false, .bl (i == j)) := by simp [Peq, toD, shp_int, PyData.eqv]
theorem kb_str : kitB "str" "str" = some true := by decide +kernel
theorem signs_one (s : Str) : signs s = s.cps.toList.map fun c => .str (one c) := rfl
theorem is_name_str (s : Str) (h : good s) : g_is_name [(false, .str s)] = .ok false (.bl (okName s)) none := by
  have k := kb_str
  have hl := len_list s
  have z := lc_is (.str s) s.cps.toList (by have := h.1; omega)
  by_cases h1 : 1 ≤ s.length
  · have a1 : (1 : Int) ≤ (s.length : Int) := by omega
    by_cases h2 : s.length ≤ 8
    · have a2 : (s.length : Int) ≤ 8 := by omega
      simp [g_is_name, b_is_name, M.runDef, M.seq, M.skip, M.ifS, M.asg, M.setIx, M.ret, M.drop, M.tst, M.bin, M.prim, M.osCons, M.osNil, M.oV, M.oS, M.cst, M.var, M.mv, M.frz, M.getAll, M.Hd.get, M.ownIx, M.outOf, M.lst, M.tup, M.asCons, M.asNil, M.andB, M.orB, M.notB, M.callG, M.lend, M.lentIx, M.back, M.lents, M.tgN, M.itV, M.itR, M.forS, M.slc, M.pNo, M.pInt, List.getElem?_cons_zero, List.getElem?_cons_succ, List.set_cons_zero, List.set_cons_succ, List.map_cons, List.map_nil, List.replicate_succ, List.replicate_zero, List.length_cons, List.length_nil, List.nil_append, List.cons_append, List.append_nil, Nat.reduceAdd, Nat.reduceSub, chn, Pisi, tyOf, k, Plen, Ple, cmpI, a1, a2, lc, itemsOf, wipeR, restR, signs_one, z, Pall, asBls_comp, okName, h1, h2]
    · have a2 : ¬ (s.length : Int) ≤ 8 := by omega
      simp [g_is_name, b_is_name, M.runDef, M.seq, M.skip, M.ifS, M.asg, M.setIx, M.ret, M.drop, M.tst, M.bin, M.prim, M.osCons, M.osNil, M.oV, M.oS, M.cst, M.var, M.mv, M.frz, M.getAll, M.Hd.get, M.ownIx, M.outOf, M.lst, M.tup, M.asCons, M.asNil, M.andB, M.orB, M.notB, M.callG, M.lend, M.lentIx, M.back, M.lents, M.tgN, M.itV, M.itR, M.forS, M.slc, M.pNo, M.pInt, List.getElem?_cons_zero, List.getElem?_cons_succ, List.set_cons_zero, List.set_cons_succ, List.map_cons, List.map_nil, List.replicate_succ, List.replicate_zero, List.length_cons, List.length_nil, List.nil_append, List.cons_append, List.append_nil, Nat.reduceAdd, Nat.reduceSub, chn, Pisi, tyOf, k, Plen, Ple, cmpI, a1, a2, okName, h1, h2]
  · have a1 : ¬ (1 : Int) ≤ (s.length : Int) := by omega
    simp [g_is_name, b_is_name, M.runDef, M.seq, M.skip, M.ifS, M.asg, M.setIx, M.ret, M.drop, M.tst, M.bin, M.prim, M.osCons, M.osNil, M.oV, M.oS, M.cst, M.var, M.mv, M.frz, M.getAll, M.Hd.get, M.ownIx, M.outOf, M.lst, M.tup, M.asCons, M.asNil, M.andB, M.orB, M.notB, M.callG, M.lend, M.lentIx, M.back, M.lents, M.tgN, M.itV, M.itR, M.forS, M.slc, M.pNo, M.pInt, List.getElem?_cons_zero, List.getElem?_cons_succ, List.set_cons_zero, List.set_cons_succ, List.map_cons, List.map_nil, List.replicate_succ, List.replicate_zero, List.length_cons, List.length_nil, List.nil_append, List.cons_append, List.append_nil, Nat.reduceAdd, Nat.reduceSub, chn, Pisi, tyOf, k, Plen, Ple, cmpI, a1, okName, h1]
theorem toDs_strsC {α : Type} (f : α → Str) (xs : List α) : toDs (xs.map (Val.str ∘ f)) = some (xs.map (PyData.str ∘ f)) := by
  rw [← List.map_map, toDs_strs, List.map_map]
theorem law_is_name_str (s : Str) (h : good s) : g__law_is_name [(false, .str s)] = .ok false (.bl (okName s)) none := by
  have k := kb_str
  have hl := len_list s
  have z := lc_law (.str s) s.cps.toList (by have := h.1; omega)
  have pe := peq_nil ((s.cps.toList.filter fun c => !isL c).map one) (fun x hx c hc => by
    obtain ⟨y, hy, e⟩ := List.mem_map.mp hx
    subst e
    have : c = y := by simpa [one] using hc
    rw [this]
    exact h.2 y (List.mem_filter.mp hy).1)
  have e0 : Peq [.int (s.length : Int), .int 0] = some (false, .bl (decide (s.length = 0))) := by rw [peq_int]; congr 3; rw [Bool.eq_iff_iff]; simp
  by_cases h1 : s.length = 0
  · simp [g__law_is_name, b__law_is_name, M.runDef, M.seq, M.skip, M.ifS, M.asg, M.setIx, M.ret, M.drop, M.tst, M.bin, M.prim, M.osCons, M.osNil, M.oV, M.oS, M.cst, M.var, M.mv, M.frz, M.getAll, M.Hd.get, M.ownIx, M.outOf, M.lst, M.tup, M.asCons, M.asNil, M.andB, M.orB, M.notB, M.callG, M.lend, M.lentIx, M.back, M.lents, M.tgN, M.itV, M.itR, M.forS, M.slc, M.pNo, M.pInt, List.getElem?_cons_zero, List.getElem?_cons_succ, List.set_cons_zero, List.set_cons_succ, List.map_cons, List.map_nil, List.replicate_succ, List.replicate_zero, List.length_cons, List.length_nil, List.nil_append, List.cons_append, List.append_nil, Nat.reduceAdd, Nat.reduceSub, Pisi, tyOf, k, Plen, peq_int, okName, h1]
  · by_cases h2 : (8 : Int) < (s.length : Int)
    · have h3 : ¬ s.length ≤ 8 := by omega
      simp [g__law_is_name, b__law_is_name, M.runDef, M.seq, M.skip, M.ifS, M.asg, M.setIx, M.ret, M.drop, M.tst, M.bin, M.prim, M.osCons, M.osNil, M.oV, M.oS, M.cst, M.var, M.mv, M.frz, M.getAll, M.Hd.get, M.ownIx, M.outOf, M.lst, M.tup, M.asCons, M.asNil, M.andB, M.orB, M.notB, M.callG, M.lend, M.lentIx, M.back, M.lents, M.tgN, M.itV, M.itR, M.forS, M.slc, M.pNo, M.pInt, List.getElem?_cons_zero, List.getElem?_cons_succ, List.set_cons_zero, List.set_cons_succ, List.map_cons, List.map_nil, List.replicate_succ, List.replicate_zero, List.length_cons, List.length_nil, List.nil_append, List.cons_append, List.append_nil, Nat.reduceAdd, Nat.reduceSub, Pisi, tyOf, k, Plen, Pgt, cmpI, e0, okName, h1, h2, h3]
    · have h3 : s.length ≤ 8 := by omega
      have h4 : 1 ≤ s.length := by omega
      simp only [List.map_map] at z pe
      simp [g__law_is_name, b__law_is_name, M.runDef, M.seq, M.skip, M.ifS, M.asg, M.setIx, M.ret, M.drop, M.tst, M.bin, M.prim, M.osCons, M.osNil, M.oV, M.oS, M.cst, M.var, M.mv, M.frz, M.getAll, M.Hd.get, M.ownIx, M.outOf, M.lst, M.tup, M.asCons, M.asNil, M.andB, M.orB, M.notB, M.callG, M.lend, M.lentIx, M.back, M.lents, M.tgN, M.itV, M.itR, M.forS, M.slc, M.pNo, M.pInt, List.getElem?_cons_zero, List.getElem?_cons_succ, List.set_cons_zero, List.set_cons_succ, List.map_cons, List.map_nil, List.replicate_succ, List.replicate_zero, List.length_cons, List.length_nil, List.nil_append, List.cons_append, List.append_nil, Nat.reduceAdd, Nat.reduceSub, Pisi, tyOf, k, Plen, Pgt, cmpI, e0, h1, h2, lc, itemsOf, wipeR, restR, signs_one, z, pe, okName, h3, h4]
      rw [Bool.eq_iff_iff]
      simp only [decide_eq_true_eq, Array.all_eq_true_iff_forall_mem]
theorem is_other (v : Val) (T : String) (h : tyOf v = some T) (hk : kitB T "str" = some false) : g_is_name [(false, v)] = .ok false (.bl false) none ∧ g__law_is_name [(false, v)] = .ok false (.bl false) none := by
  constructor
  · simp [g_is_name, b_is_name, M.runDef, M.seq, M.skip, M.ifS, M.asg, M.setIx, M.ret, M.drop, M.tst, M.bin, M.prim, M.osCons, M.osNil, M.oV, M.oS, M.cst, M.var, M.mv, M.frz, M.getAll, M.Hd.get, M.ownIx, M.outOf, M.lst, M.tup, M.asCons, M.asNil, M.andB, M.orB, M.notB, M.callG, M.lend, M.lentIx, M.back, M.lents, M.tgN, M.itV, M.itR, M.forS, M.slc, M.pNo, M.pInt, List.getElem?_cons_zero, List.getElem?_cons_succ, List.set_cons_zero, List.set_cons_succ, List.map_cons, List.map_nil, List.replicate_succ, List.replicate_zero, List.length_cons, List.length_nil, List.nil_append, List.cons_append, List.append_nil, Nat.reduceAdd, Nat.reduceSub, Pisi, h, hk]
  · simp [g__law_is_name, b__law_is_name, M.runDef, M.seq, M.skip, M.ifS, M.asg, M.setIx, M.ret, M.drop, M.tst, M.bin, M.prim, M.osCons, M.osNil, M.oV, M.oS, M.cst, M.var, M.mv, M.frz, M.getAll, M.Hd.get, M.ownIx, M.outOf, M.lst, M.tup, M.asCons, M.asNil, M.andB, M.orB, M.notB, M.callG, M.lend, M.lentIx, M.back, M.lents, M.tgN, M.itV, M.itR, M.forS, M.slc, M.pNo, M.pInt, List.getElem?_cons_zero, List.getElem?_cons_succ, List.set_cons_zero, List.set_cons_succ, List.map_cons, List.map_nil, List.replicate_succ, List.replicate_zero, List.length_cons, List.length_nil, List.nil_append, List.cons_append, List.append_nil, Nat.reduceAdd, Nat.reduceSub, Pisi, h, hk]
/-! ### what is given -/
def Fine (v : Val) : Prop := (∃ s, v = .str s ∧ good s) ∨ ∃ T, tyOf v = some T ∧ kitB T "str" = some false
theorem both (v : Val) (h : Fine v) : ∃ b, g_is_name [(false, v)] = .ok false (.bl b) none ∧ g__law_is_name [(false, v)] = .ok false (.bl b) none := by
  rcases h with ⟨s, rfl, hs⟩ | ⟨T, h, hk⟩
  · exact ⟨_, is_name_str s hs, law_is_name_str s hs⟩
  · exact ⟨false, is_other v T h hk⟩
theorem good_of {s : Str} (h : (decide (s.length ≤ 100000) && s.cps.toList.all fun c => decide (c < 0x110000)) = true) : good s := by
  rw [Bool.and_eq_true, List.all_eq_true] at h
  exact ⟨of_decide_eq_true h.1, fun c hc => of_decide_eq_true (h.2 c hc)⟩
theorem good_app {s t : Str} (hs : good s) (ht : good t) (h : s.length + t.length ≤ 100000) : good (s ++ t) := by
  refine ⟨by rw [str_len_app]; exact h, fun c hc => ?_⟩
  have : (s ++ t).cps.toList = s.cps.toList ++ t.cps.toList := by
    show (s.cps ++ t.cps).toList = _
    simp
  rw [this, List.mem_append] at hc
  exact hc.elim (hs.2 c) (ht.2 c)
theorem good_cut {s : Str} (lo hi : Option Int) (hs : good s) : good (cutS s lo hi) := by
  refine ⟨Nat.le_trans (cutS_length s lo hi) hs.1, fun c hc => hs.2 c ?_⟩
  have hc' : c ∈ (s.cps.toList.drop (HT.sIx s.length 0 lo)).take (HT.sIx s.length s.length hi - HT.sIx s.length 0 lo) := hc
  exact List.mem_of_mem_drop (List.mem_of_mem_take hc')
theorem good_one {c : Nat} (h : c < 0x110000) : good (one c) := ⟨by show 1 ≤ 100000; decide, fun d hd => by
  have : d = c := by simpa [one] using hd
  rw [this]; exact h⟩
theorem good_rep {s : Str} (n : Nat) (hs : good s) (h : s.length * n ≤ 100000) : good (repS s n) := by
  refine ⟨by rw [repS_length]; exact h, fun c hc => ?_⟩
  have hc' : c ∈ (List.replicate n s.cps.toList).flatten := by simpa [repS] using hc
  obtain ⟨l, hl, hcl⟩ := List.mem_flatten.mp hc'
  rw [List.eq_of_mem_replicate hl] at hcl
  exact hs.2 c hcl
theorem joinL_nil : ∀ l : List (List Nat), TL.joinL [] l = l.flatten
  | [] => rfl
  | [p] => by simp [TL.joinL]
  | p :: q :: r => by
    have ih := joinL_nil (q :: r)
    rw [TL.joinL, ih]; simp
theorem join_tl (ys : List Str) : (Txt.join "" ys).cps.toList = (ys.map fun y => y.cps.toList).flatten := by
  have e : Txt.join "" ys = Str.join "" ys := PySem.StrLaws.glued_eq_join "" ys
  rw [e]
  have := TL.tl_join "" ys
  rw [← joinL_nil]
  exact this

/-! ### the loops -/
theorem pix_str (A : Str) (d : Int) (h0 : 0 ≤ d) (h1 : d < A.length) (hA : ∀ c ∈ A.cps.toList, c < 0x110000) : ∃ c, Pix [.str A, .int d] = some (false, .str (one c)) ∧ c < 0x110000 := by
  have hl := len_list A
  have h2 : d.toNat < A.cps.toList.length := by omega
  have h3 : d < (A.cps.toList.length : Int) := by omega
  refine ⟨A.cps.toList[d.toNat], ?_, hA _ (List.getElem_mem h2)⟩
  show Option.map _ (atI A.cps.toList d) = _
  unfold atI ixN
  rw [if_pos h0, if_pos h3]
  simp only [Option.bind_some, List.getElem?_eq_getElem h2, Option.map_some]
  rfl
theorem lc_word (cs : List Int) (a0 a2 a3 a4 a5 a6 a7 a8 : M.Slot) : ∀ (vs acc : List Val) (t r : Int), 0 ≤ t → t + vs.length < 1000000 → 0 ≤ r → acc.length + vs.length ≤ 100000 →
    ∃ (ys : List Nat) (t' r' : Int), lcL (M.tgN 9) yesB E1_law [9] vs acc [a0, some (true, pen cs t r), a2, a3, a4, a5, a6, a7, a8, none] = .ok (acc ++ ys.map fun c => .str (one c)) [a0, some (true, pen cs t' r'), a2, a3, a4, a5, a6, a7, a8, none] ∧
      ys.length = vs.length ∧ (∀ c ∈ ys, c < 0x110000) ∧ 0 ≤ t' ∧ t' ≤ t + vs.length ∧ 0 ≤ r'
  | [], acc, t, r, ht, _, hr, _ => ⟨[], t, r, by simp [lcL], rfl, by simp, ht, by simp, hr⟩
  | v :: vs, acc, t, r, ht, hb, hr, hl => by
    rw [List.length_cons] at hb hl
    obtain ⟨d, t1, r1, e, d0, d1, q0, q1, q2⟩ := draw cs t r 10 ht (by omega) hr (by decide) (by decide)
    obtain ⟨c, ec, hc⟩ := pix_str "azbycxdwmn" d d0 d1 (by decide +kernel)
    obtain ⟨ys, t2, r2, ih, w1, w2, w3, w4, w5⟩ := lc_word cs a0 a2 a3 a4 a5 a6 a7 a8 vs (acc ++ [.str (one c)]) t1 r1 q0 (by omega) q2 (by simp; omega)
    refine ⟨c :: ys, t2, r2, ?_, by simp [w1], fun x hx => ?_, w3, by rw [List.length_cons]; omega, w5⟩
    · have ha : acc.length < 100000 := by omega
      have e1 : frz E1_law [a0, some (true, pen cs t r), a2, a3, a4, a5, a6, a7, a8, some (false, v)] = .ok false (.str (one c)) [a0, some (true, pen cs t1 r1), a2, a3, a4, a5, a6, a7, a8, some (false, v)] := by
        simp [E1_law, M.runDef, M.seq, M.skip, M.ifS, M.asg, M.setIx, M.ret, M.drop, M.tst, M.bin, M.prim, M.osCons, M.osNil, M.oV, M.oS, M.cst, M.var, M.mv, M.frz, M.getAll, M.Hd.get, M.ownIx, M.outOf, M.lst, M.tup, M.asCons, M.asNil, M.andB, M.orB, M.notB, M.callG, M.lend, M.lentIx, M.back, M.lents, M.tgN, M.itV, M.itR, M.forS, M.slc, M.pNo, M.pInt, List.getElem?_cons_zero, List.getElem?_cons_succ, List.set_cons_zero, List.set_cons_succ, List.map_cons, List.map_nil, List.replicate_succ, List.replicate_zero, List.length_cons, List.length_nil, List.nil_append, List.cons_append, List.append_nil, Nat.reduceAdd, Nat.reduceSub, e, ec]
      rw [lcL]
      simp only [M.tgN, List.set_cons_succ, List.set_cons_zero, yesB, e1, if_pos ha, wipeR]
      rw [ih]
      simp
    · rcases List.mem_cons.mp hx with z | z
      · rw [z]; exact hc
      · exact w2 x z
theorem shown_bl (b : Bool) : ∃ x : Str, Prepr [.bl b] = some (false, .str x) ∧ Pne [.str x, .str x] = some (false, .bl false) := by
  have key : ∀ x : Str, PyData.strOk x = true → Pne [.str x, .str x] = some (false, .bl false) := fun x hx => by
    have : shp (.str x) = true := by
      show SeqAt.shaped _ = true
      simp [SeqAt.shaped, PyData.canLay0, PyData.depth, hx]
    simp [Pne, toD, this, PyData.eqv]
  cases b with
  | true => exact ⟨"True", by simp [Prepr, toD, PyData.showable, PyData.hasDict, PyData.depth, PyData.shown]; decide +kernel, key _ (by decide +kernel)⟩
  | false => exact ⟨"False", by simp [Prepr, toD, PyData.showable, PyData.hasDict, PyData.depth, PyData.shown]; decide +kernel, key _ (by decide +kernel)⟩
theorem given_loop (a0 a1 a2 a3 a4 a5 a6 a9 : M.Slot) : ∀ (vs : List Val) (a7 a8 : M.Slot), (∀ v ∈ vs, Fine v) → ∃ b7 b8, forL (M.tgN 7) L2_law vs [a0, a1, a2, a3, a4, a5, a6, a7, a8, a9] = .nx [a0, a1, a2, a3, a4, a5, a6, b7, b8, a9]
  | [], a7, a8, _ => ⟨a7, a8, rfl⟩
  | v :: vs, a7, a8, h => by
    obtain ⟨b, e1, e2⟩ := both v (h v (by simp))
    obtain ⟨x, e3, e4⟩ := shown_bl b
    obtain ⟨b7, b8, ih⟩ := given_loop a0 a1 a2 a3 a4 a5 a6 a9 vs (some (false, v)) (some (false, .str x)) fun u hu => h u (List.mem_cons_of_mem _ hu)
    refine ⟨b7, b8, ?_⟩
    have e5 : L2_law [a0, a1, a2, a3, a4, a5, a6, some (false, v), a8, a9] = .nx [a0, a1, a2, a3, a4, a5, a6, some (false, v), some (false, .str x), a9] := by
      simp [L2_law, M.runDef, M.seq, M.skip, M.ifS, M.asg, M.setIx, M.ret, M.drop, M.tst, M.bin, M.prim, M.osCons, M.osNil, M.oV, M.oS, M.cst, M.var, M.mv, M.frz, M.getAll, M.Hd.get, M.ownIx, M.outOf, M.lst, M.tup, M.asCons, M.asNil, M.andB, M.orB, M.notB, M.callG, M.lend, M.lentIx, M.back, M.lents, M.tgN, M.itV, M.itR, M.forS, M.slc, M.pNo, M.pInt, List.getElem?_cons_zero, List.getElem?_cons_succ, List.set_cons_zero, List.set_cons_succ, List.map_cons, List.map_nil, List.replicate_succ, List.replicate_zero, List.length_cons, List.length_nil, List.nil_append, List.cons_append, List.append_nil, Nat.reduceAdd, Nat.reduceSub, e1, e2, e3, e4, osPick, osN, pick]
    rw [forL]
    simp only [M.tgN, List.set_cons_succ, List.set_cons_zero, e5]
    exact ih
theorem asStrs_one (ys : List Nat) : asStrs (ys.map fun c => .str (one c)) = some (ys.map one) := by
  induction ys with
  | nil => rfl
  | cons c ys ih => rw [List.map_cons, asStrs, ih]; rfl
theorem flat_one (ys : List Nat) : ((ys.map one).map fun y => y.cps.toList).flatten = ys := by
  induction ys with
  | nil => rfl
  | cons c ys ih => simp only [List.map_cons, List.flatten_cons, ih]; rfl
theorem pjoin_ok (ys : List Nat) (h : ys.length ≤ 10) (hc : ∀ c ∈ ys, c < 0x110000) : ∃ w : Str, Pjoin [.str "", .lst (ys.map fun c => .str (one c))] = some (false, .str w) ∧ w.length = ys.length ∧ good w := by
  have e := join_tl (ys.map one)
  rw [flat_one] at e
  have l1 : (Txt.join "" (ys.map one)).length = ys.length := by rw [← len_list, e]
  have l2 : ((ys.map one).map (·.length)).sum = ys.length := by
    clear e l1 h hc
    induction ys with
    | nil => rfl
    | cons c ys ih => simp only [List.map_cons, List.sum_cons, ih, List.length_cons]; show 1 + ys.length = _; omega
  have l3 : ("" : Str).length = 0 := by decide
  refine ⟨_, ?_, l1, by rw [l1]; omega, fun c hc' => hc c (by rw [e] at hc'; exact hc')⟩
  unfold Pjoin
  simp only [asStrs_one]
  rw [if_pos]
  refine ⟨by rw [l2, l3]; omega, by rw [l1]; exact Nat.le_trans h (by decide)⟩
theorem padd_str (a b : Str) (h : a.length + b.length ≤ 100000) : Padd [.str a, .str b] = some (false, .str (a ++ b)) := by
  have : a.length + b.length ≤ sizeLine := line_of h
  simp [Padd, this]
theorem turn (cs : List Int) (odds : List Val) (ho : odds.length ≤ 1000) (hf : ∀ v ∈ odds, Fine v) (a0 : M.Slot) (t r : Int) (ht : 0 ≤ t) (hb : t < 900000) (hr : 0 ≤ r) (a3 a4 a5 a6 a7 a8 a9 : M.Slot) :
    ∃ t' r' b4 b5 b6 b7 b8, L3_law [a0, some (true, pen cs t r), some (true, .lst odds), a3, a4, a5, a6, a7, a8, a9] = .nx [a0, some (true, pen cs t' r'), some (true, .lst odds), a3, b4, b5, b6, b7, b8, a9] ∧ 0 ≤ t' ∧ t' ≤ t + 20 ∧ 0 ≤ r' := by
  obtain ⟨d, t1, r1, e1, d0, d1, p0, p1, p2⟩ := draw cs t r 10 ht (by omega) hr (by decide) (by decide)
  obtain ⟨ys, t2, r2, e2, w1, w2, q0, q1, q2⟩ := lc_word cs a0 (some (true, .lst odds)) a3 a4 a5 a6 a7 a8 (M.upTo 0 d.toNat) [] t1 r1 p0 (by simp [M.upTo]; omega) p2 (by simp [M.upTo]; omega)
  have hu : (M.upTo 0 d.toNat).length = d.toNat := by simp [M.upTo]
  rw [hu] at w1 q1
  obtain ⟨wd, e3, w3, g3⟩ := pjoin_ok ys (by omega) w2
  obtain ⟨k, t3, r3, e4, k0, k1, s0, s1, s2⟩ := draw cs t2 r2 ((wd.length : Int) + 1) q0 (by omega) q2 (by omega) (by omega)
  obtain ⟨m, t4, r4, e5, m0, m1, u0, u1, u2⟩ := draw cs t3 r3 18 s0 (by omega) s2 (by decide) (by decide)
  obtain ⟨c, e6, hc⟩ := pix_str "azAZ09 _-:*.~{`\x40[\n" m m0 m1 (by decide +kernel)
  have hr1 : rng1 [.int d] = some (M.upTo 0 d.toNat) := by
    have : -(2 ^ 62) ≤ d ∧ d < 2 ^ 62 := ⟨by omega, by omega⟩
    simp only [rng1]
    rw [if_pos this]
  have gc := good_one hc
  have c1 : ∀ lo hi, (cutS wd lo hi).length ≤ wd.length := fun lo hi => cutS_length wd lo hi
  have lo1 : (one c).length = 1 := rfl
  have z1 := c1 none (some k)
  have z2 := c1 (some k) none
  have z3 := c1 (some (k + 1)) none
  have x1 := padd_str (cutS wd none (some k)) (one c) (by omega)
  have x2 := padd_str (cutS wd none (some k) ++ one c) (cutS wd (some k) none) (by rw [str_len_app]; omega)
  have x3 := padd_str (cutS wd none (some k) ++ one c) (cutS wd (some (k + 1)) none) (by rw [str_len_app]; omega)
  have y1 := good_app (good_cut none (some k) g3) gc (by omega)
  have y2 := good_app y1 (good_cut (some k) none g3) (by rw [str_len_app]; omega)
  have y3 := good_app y1 (good_cut (some (k + 1)) none g3) (by rw [str_len_app]; omega)
  have ks : Padd [.int (wd.length : Int), .int 1] = some (false, .int ((wd.length : Int) + 1)) := rfl
  have kk : Padd [.int k, .int 1] = some (false, .int (k + 1)) := rfl
  obtain ⟨b7, b8, e7⟩ := given_loop a0 (some (true, pen cs t4 r4)) (some (true, .lst odds)) a3 (some (false, .str wd)) (some (false, .int k)) (some (false, .str (one c))) a9
    (.str wd :: .str (cutS wd none (some k) ++ one c ++ cutS wd (some k) none) :: .str (cutS wd none (some k) ++ one c ++ cutS wd (some (k + 1)) none) :: odds) a7 a8
    (fun v hv => by
      rcases List.mem_cons.mp hv with z | hv
      · exact .inl ⟨_, z, g3⟩
      rcases List.mem_cons.mp hv with z | hv
      · exact .inl ⟨_, z, y2⟩
      rcases List.mem_cons.mp hv with z | hv
      · exact .inl ⟨_, z, y3⟩
      exact hf v hv)
  have pl : Padd [.lst [.str wd, .str (cutS wd none (some k) ++ one c ++ cutS wd (some k) none), .str (cutS wd none (some k) ++ one c ++ cutS wd (some (k + 1)) none)], .lst odds] =
      some (true, .lst (.str wd :: .str (cutS wd none (some k) ++ one c ++ cutS wd (some k) none) :: .str (cutS wd none (some k) ++ one c ++ cutS wd (some (k + 1)) none) :: odds)) := by
    have : 3 + odds.length ≤ 100000 := by omega
    simp [Padd, this]
  refine ⟨t4, r4, some (false, .str wd), some (false, .int k), some (false, .str (one c)), b7, b8, ?_, u0, by omega, u2⟩
  simp [L3_law, M.runDef, M.seq, M.skip, M.ifS, M.asg, M.setIx, M.ret, M.drop, M.tst, M.bin, M.prim, M.osCons, M.osNil, M.oV, M.oS, M.cst, M.var, M.mv, M.frz, M.getAll, M.Hd.get, M.ownIx, M.outOf, M.lst, M.tup, M.asCons, M.asNil, M.andB, M.orB, M.notB, M.callG, M.lend, M.lentIx, M.back, M.lents, M.tgN, M.itV, M.itR, M.forS, M.slc, M.pNo, M.pInt, List.getElem?_cons_zero, List.getElem?_cons_succ, List.set_cons_zero, List.set_cons_succ, List.map_cons, List.map_nil, List.replicate_succ, List.replicate_zero, List.length_cons, List.length_nil, List.nil_append, List.cons_append, List.append_nil, Nat.reduceAdd, Nat.reduceSub, e1, e2, e3, e4, e5, e6, hr1, lc, wipeR, restR, oTy, tyOf, Plen, Psl, ks, kk, x1, x2, x3, pl, itemsOf, e7]
theorem turns (cs : List Int) (odds : List Val) (ho : odds.length ≤ 1000) (hf : ∀ v ∈ odds, Fine v) (a0 : M.Slot) : ∀ (vs : List Val) (t r : Int) (a3 a4 a5 a6 a7 a8 a9 : M.Slot), 0 ≤ t → t + 20 * vs.length < 900000 → 0 ≤ r →
    ∃ env, forL (M.tgN 3) L3_law vs [a0, some (true, pen cs t r), some (true, .lst odds), a3, a4, a5, a6, a7, a8, a9] = .nx env
  | [], t, r, a3, a4, a5, a6, a7, a8, a9, _, _, _ => ⟨_, rfl⟩
  | v :: vs, t, r, a3, a4, a5, a6, a7, a8, a9, ht, hb, hr => by
    rw [List.length_cons] at hb
    obtain ⟨t', r', b4, b5, b6, b7, b8, e, q0, q1, q2⟩ := turn cs odds ho hf a0 t r ht (by omega) hr (some (false, v)) a4 a5 a6 a7 a8 a9
    obtain ⟨env, ih⟩ := turns cs odds ho hf a0 vs t' r' (some (false, v)) b4 b5 b6 b7 b8 a9 q0 (by omega) q2
    refine ⟨env, ?_⟩
    rw [forL]
    simp only [M.tgN, List.set_cons_succ, List.set_cons_zero, e]
    exact ih
def odds : List Val := [.non, .bl true, .int 0, .int 1, .str "", .tup [], .lst [], .dct false [], .tup [.str "a"], .lst [.str "a"], .dct false [(.str "a", .int 1)], .str "A", .str "a b", .str " a", .str "a ", .str "a\n", .str "\na", .str "a1",
  .str "a_", .str "-", .str "abcdefgh", .str "abcdefghi", .str "zzzzzzzz", .str "if", .str "self", .int 100000000000000000000000000000000000000000000000000000000000, .str (repS "a" 4000)]
theorem odds_fine : ∀ v ∈ odds, Fine v := by
  intro v hv
  simp only [odds, List.mem_cons, List.not_mem_nil, or_false] at hv
  rcases hv with h | h | h | h | h | h | h | h | h | h | h | h | h | h | h | h | h | h | h | h | h | h | h | h | h | h | h <;> subst h <;> first
    | exact .inl ⟨_, rfl, good_of (by decide +kernel)⟩
    | exact .inl ⟨_, rfl, good_rep 4000 (good_of (by decide +kernel)) (by decide +kernel)⟩
    | exact .inr ⟨_, rfl, by decide +kernel⟩
theorem holds (ns : List Int) (h : ns.length ≤ 63) : g_law [(false, .scr ns)] = .ok false (.bl true) none := by
  have e1 := pen_made ns h
  obtain ⟨env, e2⟩ := turns ns odds (by decide) odds_fine (some (false, .scr ns)) (M.upTo 0 40) 0 0 none none none none none none none (by decide) (by decide +kernel) (by decide)
  have e3 : rng1 [.int 40] = some (M.upTo 0 40) := by
    simp [rng1]
  have e4 : Ppow [.int 10, .int 59] = some (false, .int 100000000000000000000000000000000000000000000000000000000000) := by
    simp [Ppow]
  have e5 : Pmul [.str "a", .int 4000] = some (false, .str (repS "a" 4000)) := by
    have : ("a" : Str).length * 4000 ≤ sizeLine := by decide +kernel
    simp [Pmul, this]
  simp only [odds] at e2
  simp [g_law, b_law, M.runDef, M.seq, M.skip, M.ifS, M.asg, M.setIx, M.ret, M.drop, M.tst, M.bin, M.prim, M.osCons, M.osNil, M.oV, M.oS, M.cst, M.var, M.mv, M.frz, M.getAll, M.Hd.get, M.ownIx, M.outOf, M.lst, M.tup, M.asCons, M.asNil, M.andB, M.orB, M.notB, M.callG, M.lend, M.lentIx, M.back, M.lents, M.tgN, M.itV, M.itR, M.forS, M.slc, M.pNo, M.pInt, List.getElem?_cons_zero, List.getElem?_cons_succ, List.set_cons_zero, List.set_cons_succ, List.map_cons, List.map_nil, List.replicate_succ, List.replicate_zero, List.length_cons, List.length_nil, List.nil_append, List.cons_append, List.append_nil, Nat.reduceAdd, Nat.reduceSub, e1, dNew, dsp, dspL, putAll, keyOf, dPut, kv, e4, e5, Padd, e3, e2]
abbrev top (i : Nat) : Stmt := PySem.Challenge.pw_passwidth_k01_names_recognized.main.body.getD i (.Pass ⟨0, 0, 0, 0⟩)
abbrev s__law_pen : Stmt := top 5
abbrev s__law_draw : Stmt := top 6
abbrev s__law_is_name : Stmt := top 7
abbrev s_is_name : Stmt := top 3
abbrev s_law : Stmt := top 8
theorem sc__law_pen : FnScope ["_law_script"] ["_law_script"] (defScope s__law_pen) := ⟨rfl, rfl, rfl, by decide +kernel, rfl, by decide +kernel, by decide +kernel⟩
theorem sc__law_draw : FnScope ["_law_pen_here", "_law_size", "_law_turn", "_law_cell", "_law_mixed", "_law_digit", "_law_great"] ["_law_pen_here", "_law_size"] (defScope s__law_draw) := ⟨rfl, rfl, rfl, by decide +kernel, rfl, by decide +kernel, by decide +kernel⟩
theorem sc__law_is_name : FnScope ["_law_given", "_law_sign"] ["_law_given"] (defScope s__law_is_name) := ⟨rfl, rfl, rfl, by decide +kernel, rfl, by decide +kernel, by decide +kernel⟩
theorem sc_is_name : FnScope ["value", "letter"] ["value"] (defScope s_is_name) := ⟨rfl, rfl, rfl, by decide +kernel, rfl, by decide +kernel, by decide +kernel⟩
theorem sc_law : FnScope ["_law_script", "_law_pen_here", "_law_odd", "_law_turn", "_law_word", "_law_at", "_law_sign", "_law_given", "_law_due", "_law_k"] ["_law_script"] (defScope s_law) := ⟨rfl, rfl, rfl, by decide +kernel, rfl, by decide +kernel, by decide +kernel⟩
structure Txt (K : PySem.W.Frag) (mg : Str → Option Value) : Prop where
  f__law_pen : ∃ f fd, mg "_law_pen" = some (.ref f) ∧ FunP K "_law_pen" s__law_pen f fd
  f__law_draw : ∃ f fd, mg "_law_draw" = some (.ref f) ∧ FunP K "_law_draw" s__law_draw f fd
  f__law_is_name : ∃ f fd, mg "_law_is_name" = some (.ref f) ∧ FunP K "_law_is_name" s__law_is_name f fd
  f_is_name : ∃ f fd, mg "is_name" = some (.ref f) ∧ FunP K "is_name" s_is_name f fd
  f_law : ∃ f fd, mg "law" = some (.ref f) ∧ FunP K "law" s_law f fd
  b_abs : mg "abs" = none
  b_all : mg "all" = none
  b_int : mg "int" = none
  b_isinstance : mg "isinstance" = none
  b_len : mg "len" = none
  b_list : mg "list" = none
  b_range : mg "range" = none
  b_repr : mg "repr" = none
  b_str : mg "str" = none
  c_LETTERS : ∃ t, mg "LETTERS" = some (.str "abcdefghijklmnopqrstuvwxyz" t)
  c_LONGEST_NAME : ∃ t, mg "LONGEST_NAME" = some (.int 8 t)
theorem kw_0 : KwB "is_name" s_is_name ["value"] ["value"] [0] 0 := fun _ _ _ _ _ _ us ws zs h1 h2 h3 _ => match us, ws, h1, h2, h3 with | [], [_], _, _, h3 => by cases h3; rfl
section
variable {P : Program} {w : World} {K : PySem.W.Frag} {mg : Str → Option Value} {base : Heap} {CM : Str → Option Addr}
theorem ok__law_pen (T : Txt K mg) : DefP P w K mg base ⟨K, CM⟩ 1 "_law_pen" s__law_pen ["_law_script"] g__law_pen := by
  obtain ⟨f, fd, hm, F⟩ := T.f__law_pen
  refine def_mk (N := ["_law_script"]) (ios := [0]) (k := 0) hm F sc__law_pen (fun cdv A0 outer s H E hr => ⟨fun A W hw hio tk => ?_⟩) (fun _ _ _ _ _ _ us hl => match us, hl with | [_], _ => rfl)
  have c := cal_of (CM := CM) (N := ["_law_script"]) (mg := mg) (P := P) (w := w) (K := K) (base := base) (E := E) (f := f) (cdv := cdv) (H := H) (s := s) (A := A0) (outer := outer) (qual := "_law_pen") (scope := defScope s__law_pen) (k := 0) hr
  rw [← hw] at c
  have nd : (["_law_script"] : List Str).Nodup := sc__law_pen.nd
  have nio : ∀ i, i ∉ A.io ∨ i ∈ [0] := fun i => by by_cases h : i ∈ A.io; exact .inr (hio i h); exact .inl h
  exact (pss_one' (ps_ret' (pe_lst' (pa_asCons (pe_bt (bi_list c) rfl T.b_list bt_list (pa_osCons (po_V (pe_slc c (po_S (pv 0)) po_pNo (po_pInt pe_ci))) pa_osNil)) (pa_asCons pe_ci (pa_asCons pe_ci pa_asNil))))))
theorem ok__law_draw (T : Txt K mg) : DefP P w K mg base ⟨K, CM⟩ 1 "_law_draw" s__law_draw ["_law_pen_here", "_law_size"] g__law_draw := by
  obtain ⟨f, fd, hm, F⟩ := T.f__law_draw
  refine def_mk (N := ["_law_pen_here", "_law_size", "_law_turn", "_law_cell", "_law_mixed", "_law_digit", "_law_great"]) (ios := [0, 1]) (k := 0) hm F sc__law_draw (fun cdv A0 outer s H E hr => ⟨fun A W hw hio tk => ?_⟩) (fun _ _ _ _ _ _ us hl => match us, hl with | [_, _], _ => rfl)
  have c := cal_of (CM := CM) (N := ["_law_pen_here", "_law_size", "_law_turn", "_law_cell", "_law_mixed", "_law_digit", "_law_great"]) (mg := mg) (P := P) (w := w) (K := K) (base := base) (E := E) (f := f) (cdv := cdv) (H := H) (s := s) (A := A0) (outer := outer) (qual := "_law_draw") (scope := defScope s__law_draw) (k := 0) hr
  rw [← hw] at c
  have nd : (["_law_pen_here", "_law_size", "_law_turn", "_law_cell", "_law_mixed", "_law_digit", "_law_great"] : List Str).Nodup := sc__law_draw.nd
  have nio : ∀ i, i ∉ A.io ∨ i ∈ [0, 1] := fun i => by by_cases h : i ∈ A.io; exact .inr (hio i h); exact .inl h
  exact (pss_cons' (ps_if' (pt_cmpV opr_gt (po_V (pe_idx c (po_S (pv 0)) (po_V pe_ci))) (po_V pe_ci)) (pss_cons' (ps_asg' (i := 5) nd rfl (by first | exact .inl rfl | exact .inr rfl) (pe_bin (opr_mod c) (po_V (pe_idx c (po_S (pv 0)) (po_V pe_ci))) (po_S (pv 1))) ((nio 5).resolve_right (by decide)))
    (pss_cons' (ps_setIx c (pv 0) pe_ci (pe_bin (opr_div c) (po_V (pe_idx c (po_S (pv 0)) (po_V pe_ci))) (po_S (pv 1))))
    (pss_one' (ps_ret' (pe_mv (pv 5)))))) pss_nil')
    (pss_cons' (ps_asg' (i := 2) nd rfl (by first | exact .inl rfl | exact .inr rfl) (pe_idx c (po_S (pv 0)) (po_V pe_ci)) ((nio 2).resolve_right (by decide)))
    (pss_cons' (ps_setIx c (pv 0) pe_ci (pe_bin (opr_add c) (po_S (pv 2)) (po_V pe_ci)))
    (pss_cons' (ps_asg' (i := 3) nd rfl (by first | exact .inl rfl | exact .inr rfl) (pe_bin (opr_add c) (po_V (pe_bin (opr_mul c) (po_V pe_ci) (po_S (pv 2)))) (po_V pe_ci)) ((nio 3).resolve_right (by decide)))
    (pss_cons' (ps_if' (pt_cmpV (opr_ne c) (po_V (pe_idx c (po_S (pv 0)) (po_V pe_ci))) (po_V (pe_lst' pa_asNil))) (pss_one' (ps_asg' (i := 3) nd rfl (by first | exact .inl rfl | exact .inr rfl) (pe_idx c (po_V (pe_idx c (po_S (pv 0)) (po_V pe_ci))) (po_V (pe_bin (opr_mod c) (po_S (pv 2)) (po_V (pe_bi (bi_len c) rfl T.b_len bf_len (pa_osCons (po_V (pe_idx c (po_S (pv 0)) (po_V pe_ci))) pa_osNil)))))) ((nio 3).resolve_right (by decide)))) pss_nil')
    (pss_cons' (ps_if' (PW.pt (pw_and' (pt_cmpV opr_lt (po_S (pv 2)) (po_V (pe_bi (bi_len c) rfl T.b_len bf_len (pa_osCons (po_V (pe_idx c (po_S (pv 0)) (po_V pe_ci))) pa_osNil)))) (pw_and1 (pt_cmpV opr_ge (po_V (pe_bi bi_abs rfl T.b_abs bf_abs (pa_osCons (po_S (pv 3)) pa_osNil))) (po_V (pe_bin (opr_pow c) (po_V pe_ci) (po_V pe_ci))))))) (pss_cons' (ps_asg' (i := 6) nd rfl (by first | exact .inl rfl | exact .inr rfl) (pe_bin (opr_add c) (po_V (pe_bin (opr_mul c) (po_V pe_ci) (po_V (pe_bi bi_abs rfl T.b_abs bf_abs (pa_osCons (po_S (pv 3)) pa_osNil))))) (po_V (pe_bt bi_int rfl T.b_int bt_int (pa_osCons (po_V (pe_cmpV opr_lt (po_S (pv 3)) (po_V pe_ci))) pa_osNil)))) ((nio 6).resolve_right (by decide)))
    (pss_cons' (ps_setIx c (pv 0) pe_ci (pe_bin (opr_div c) (po_S (pv 6)) (po_S (pv 1))))
    (pss_one' (ps_ret' (pe_bin (opr_mod c) (po_S (pv 6)) (po_S (pv 1))))))) pss_nil')
    (pss_cons' (ps_asg' (i := 4) nd rfl (by first | exact .inl rfl | exact .inr rfl) (pe_bin (opr_mod c) (po_V (pe_bin (opr_pow c) (po_V (pe_bin (opr_add c) (po_V (pe_bin (opr_add c) (po_V (pe_bin (opr_mod c) (po_S (pv 3)) (po_V pe_ci))) (po_V (pe_bin (opr_mul c) (po_V pe_ci) (po_S (pv 2)))))) (po_V pe_ci))) (po_V pe_ci))) (po_V pe_ci)) ((nio 4).resolve_right (by decide)))
    (pss_cons' (ps_asg' (i := 4) nd rfl (by first | exact .inl rfl | exact .inr rfl) (pe_bin (opr_mod c) (po_V (pe_bin (opr_pow c) (po_V (pe_bin (opr_add c) (po_V (pe_bin (opr_mul c) (po_S (pv 4)) (po_V (pe_bin (opr_add c) (po_S (pv 2)) (po_V pe_ci))))) (po_V (pe_bin (opr_mul c) (po_V (pe_bin (opr_mul c) (po_V pe_ci) (po_S (pv 2)))) (po_S (pv 2)))))) (po_V pe_ci))) (po_V pe_ci)) ((nio 4).resolve_right (by decide)))
    (pss_one' (ps_ret' (pe_bin (opr_mod c) (po_V (pe_bin (opr_div c) (po_S (pv 4)) (po_V pe_ci))) (po_S (pv 1)))))))))))))
theorem ok__law_is_name (T : Txt K mg) : DefP P w K mg base ⟨K, CM⟩ 1 "_law_is_name" s__law_is_name ["_law_given"] g__law_is_name := by
  obtain ⟨f, fd, hm, F⟩ := T.f__law_is_name
  refine def_mk (N := ["_law_given", "_law_sign"]) (ios := [0]) (k := 0) hm F sc__law_is_name (fun cdv A0 outer s H E hr => ⟨fun A W hw hio tk => ?_⟩) (fun _ _ _ _ _ _ us hl => match us, hl with | [_], _ => rfl)
  have c := cal_of (CM := CM) (N := ["_law_given", "_law_sign"]) (mg := mg) (P := P) (w := w) (K := K) (base := base) (E := E) (f := f) (cdv := cdv) (H := H) (s := s) (A := A0) (outer := outer) (qual := "_law_is_name") (scope := defScope s__law_is_name) (k := 0) hr
  rw [← hw] at c
  have nd : (["_law_given", "_law_sign"] : List Str).Nodup := sc__law_is_name.nd
  have nio : ∀ i, i ∉ A.io ∨ i ∈ [0] := fun i => by by_cases h : i ∈ A.io; exact .inr (hio i h); exact .inl h
  exact (pss_cons' (ps_if' (PW.pt (pw_or' (pt_not' (pt_tst (pe_bi (bi_isi c) rfl T.b_isinstance bf_isinstance (pa_osCons (po_S (pv 0)) (pa_osCons (po_V (pe_tyN rfl T.b_str bt_str)) pa_osNil))))) (pw_or' (pt_cmpV (opr_eq c) (po_V (pe_bi (bi_len c) rfl T.b_len bf_len (pa_osCons (po_S (pv 0)) pa_osNil))) (po_V pe_ci)) (pw_or1 (pt_cmpV opr_gt (po_V (pe_bi (bi_len c) rfl T.b_len bf_len (pa_osCons (po_S (pv 0)) pa_osNil))) (po_V pe_ci)))))) (pss_one' (ps_ret' (pe_cst pe_bl fun _ => rep_bl.mpr rfl))) pss_nil')
    (pss_one' (ps_ret' (pe_cmpV (opr_eq c) (po_V (pe_lcM rfl nd (pi_V c.K (pe_var' (pv 0))) (blkOk_by (own := [("_law_sign", 1)]) (by rfl)) (fun _ _ _ _ _ => (pg_N (i := 1) nd rfl (by first | exact .inl rfl | exact .inr rfl) ((nio 1).resolve_right (by decide)))) (fun _ _ _ _ _ => (pts_1 (pt_cmpV (opr_notIn (Cal.blk c)) (po_S (pv 1)) (po_V pe_cs)))) (fun _ _ _ _ _ => (pe_var' (pv 1))) (tok_N 1) (by decide) (fun i hi => (by decide : ∀ i ∈ ([0] : List Nat), i ∉ _) i (hio i hi)))) (po_V (pe_lst' pa_asNil))))))
theorem ok_is_name (T : Txt K mg) : DefP P w K mg base ⟨K, CM⟩ 1 "is_name" s_is_name ["value"] g_is_name := by
  obtain ⟨f, fd, hm, F⟩ := T.f_is_name
  refine def_mk (N := ["value", "letter"]) (ios := [0]) (k := 0) hm F sc_is_name (fun cdv A0 outer s H E hr => ⟨fun A W hw hio tk => ?_⟩) (fun _ _ _ _ _ _ us hl => match us, hl with | [_], _ => rfl)
  have c := cal_of (CM := CM) (N := ["value", "letter"]) (mg := mg) (P := P) (w := w) (K := K) (base := base) (E := E) (f := f) (cdv := cdv) (H := H) (s := s) (A := A0) (outer := outer) (qual := "is_name") (scope := defScope s_is_name) (k := 0) hr
  rw [← hw] at c
  have nd : (["value", "letter"] : List Str).Nodup := sc_is_name.nd
  have nio : ∀ i, i ∉ A.io ∨ i ∈ [0] := fun i => by by_cases h : i ∈ A.io; exact .inr (hio i h); exact .inl h
  exact (pss_cons' (ps_if' (PW.pt (pw_or' (pt_not' (pt_tst (pe_bi (bi_isi c) rfl T.b_isinstance bf_isinstance (pa_osCons (po_S (pv 0)) (pa_osCons (po_V (pe_tyN rfl T.b_str bt_str)) pa_osNil))))) (pw_or1 (pt_not' (pt_chn opr_le opr_le (po_V pe_ci) (po_V (pe_bi (bi_len c) rfl T.b_len bf_len (pa_osCons (po_S (pv 0)) pa_osNil))) (po_V (pe_gi rfl T.c_LONGEST_NAME))))))) (pss_one' (ps_ret' (pe_cst pe_bl fun _ => rep_bl.mpr rfl))) pss_nil')
    (pss_one' (ps_ret' (pe_bi (bi_all c) rfl T.b_all bf_all (pa_osCons (po_V (pe_lcM rfl nd (pi_V c.K (pe_var' (pv 0))) (blkOk_by (own := [("letter", 1)]) (by rfl)) (fun _ _ _ _ _ => (pg_N (i := 1) nd rfl (by first | exact .inl rfl | exact .inr rfl) ((nio 1).resolve_right (by decide)))) (fun _ _ _ _ _ => pts_no) (fun _ _ _ _ _ => (pe_cmpV (opr_in (Cal.blk c)) (po_S (pv 1)) (po_V (pe_gs rfl T.c_LETTERS)))) (tok_N 1) (by decide) (fun i hi => (by decide : ∀ i ∈ ([0] : List Nat), i ∉ _) i (hio i hi)))) pa_osNil)))))
theorem ok_law (T : Txt K mg) : DefP P w K mg base ⟨K, CM⟩ 2 "law" s_law ["_law_script"] g_law := by
  obtain ⟨f, fd, hm, F⟩ := T.f_law
  have e__law_pen := ok__law_pen (P := P) (w := w) (base := base) (CM := CM) T
  have e__law_draw := ok__law_draw (P := P) (w := w) (base := base) (CM := CM) T
  have e__law_is_name := ok__law_is_name (P := P) (w := w) (base := base) (CM := CM) T
  have e_is_name := ok_is_name (P := P) (w := w) (base := base) (CM := CM) T
  refine def_mk (N := ["_law_script", "_law_pen_here", "_law_odd", "_law_turn", "_law_word", "_law_at", "_law_sign", "_law_given", "_law_due", "_law_k"]) (ios := [0]) (k := 1) hm F sc_law (fun cdv A0 outer s H E hr => ⟨fun A W hw hio tk => ?_⟩) (fun _ _ _ _ _ _ us hl => match us, hl with | [_], _ => rfl)
  have c := cal_of (CM := CM) (N := ["_law_script", "_law_pen_here", "_law_odd", "_law_turn", "_law_word", "_law_at", "_law_sign", "_law_given", "_law_due", "_law_k"]) (mg := mg) (P := P) (w := w) (K := K) (base := base) (E := E) (f := f) (cdv := cdv) (H := H) (s := s) (A := A0) (outer := outer) (qual := "law") (scope := defScope s_law) (k := 1) hr
  rw [← hw] at c
  have d__law_pen := e__law_pen; rw [← hw] at d__law_pen; clear e__law_pen
  have d__law_draw := e__law_draw; rw [← hw] at d__law_draw; clear e__law_draw
  have d__law_is_name := e__law_is_name; rw [← hw] at d__law_is_name; clear e__law_is_name
  have d_is_name := e_is_name; rw [← hw] at d_is_name; clear e_is_name
  have nd : (["_law_script", "_law_pen_here", "_law_odd", "_law_turn", "_law_word", "_law_at", "_law_sign", "_law_given", "_law_due", "_law_k"] : List Str).Nodup := sc_law.nd
  have nio : ∀ i, i ∉ A.io ∨ i ∈ [0] := fun i => by by_cases h : i ∈ A.io; exact .inr (hio i h); exact .inl h
  exact (pss_cons' (ps_asg' (i := 1) nd rfl (by first | exact .inl rfl | exact .inr rfl) (pe_cD d__law_pen (hr.le (by decide)) rfl tk (pa_osCons (po_S (pv 0)) pa_osNil)) ((nio 1).resolve_right (by decide)))
    (pss_cons' (ps_asg' (i := 2) nd rfl (by first | exact .inl rfl | exact .inr rfl) (pe_lst' (pa_asCons (pe_cst pe_non fun _ => rep_non.mpr rfl) (pa_asCons (pe_cst pe_bl fun _ => rep_bl.mpr rfl) (pa_asCons pe_ci (pa_asCons pe_ci (pa_asCons pe_cs (pa_asCons (pe_tup' pa_asNil) (pa_asCons (pe_lst' pa_asNil) (pa_asCons pe_dNewK (pa_asCons (pe_tup' (pa_asCons pe_cs pa_asNil)) (pa_asCons (pe_lst' (pa_asCons pe_cs pa_asNil)) (pa_asCons (pe_dsp (pps_Cons pe_cs pe_ci pps_Nil)) (pa_asCons pe_cs (pa_asCons pe_cs (pa_asCons pe_cs (pa_asCons pe_cs (pa_asCons pe_cs (pa_asCons pe_cs (pa_asCons pe_cs pa_asNil))))))))))))))))))) ((nio 2).resolve_right (by decide)))
    (pss_cons' (ps_asg' (i := 2) nd rfl (by first | exact .inl rfl | exact .inr rfl) (pe_bin (opr_add c) (po_S (pv 2)) (po_V (pe_lst' (pa_asCons pe_cs (pa_asCons pe_cs (pa_asCons pe_cs (pa_asCons pe_cs (pa_asCons pe_cs (pa_asCons pe_cs (pa_asCons pe_cs (pa_asCons (pe_bin (opr_pow c) (po_V pe_ci) (po_V pe_ci)) (pa_asCons (pe_bin (opr_mul c) (po_V pe_cs) (po_V pe_ci)) pa_asNil)))))))))))) ((nio 2).resolve_right (by decide)))
    (pss_cons' (ps_for' (passes_of rfl) rfl (pi_rng1 rfl T.b_range (pa_asCons pe_ci pa_asNil)) (pg_N (i := 3) nd rfl (by first | exact .inl rfl | exact .inr rfl) ((nio 3).resolve_right (by decide))) (pss_cons' (ps_asg' (i := 4) nd rfl (by first | exact .inl rfl | exact .inr rfl) (pe_mt c (by decide) PySem.F.plainAttrs_str PySem.F.slot_str_join PySem.F.type_str_join mtp_join (po_V pe_cs) (pa_osCons (po_V (pe_lcM rfl nd (pi_rng1 rfl T.b_range (pa_asCons (pe_cD d__law_draw (hr.le (by decide)) rfl tk (pa_osCons (po_S (pv 1)) (pa_osCons (po_V pe_ci) pa_osNil))) pa_asNil)) (blkOk_by (own := [("_law_k", 9)]) (by rfl)) (fun _ _ _ _ _ => (pg_N (i := 9) nd rfl (by first | exact .inl rfl | exact .inr rfl) ((nio 9).resolve_right (by decide)))) (fun _ _ _ _ _ => pts_no) (fun _ _ _ _ _ => (pe_idx (Cal.blk c) (po_V pe_cs) (po_V (pe_cD d__law_draw (hr.le (by decide)) rfl takes0 (pa_osCons (po_S (pv 1)) (pa_osCons (po_V pe_ci) pa_osNil)))))) (tok_N 9) (by decide) (fun i hi => (by decide : ∀ i ∈ ([0] : List Nat), i ∉ _) i (hio i hi)))) pa_osNil)) ((nio 4).resolve_right (by decide)))
    (pss_cons' (ps_asg' (i := 5) nd rfl (by first | exact .inl rfl | exact .inr rfl) (pe_cD d__law_draw (hr.le (by decide)) rfl tk (pa_osCons (po_S (pv 1)) (pa_osCons (po_V (pe_bin (opr_add c) (po_V (pe_bi (bi_len c) rfl T.b_len bf_len (pa_osCons (po_S (pv 4)) pa_osNil))) (po_V pe_ci))) pa_osNil))) ((nio 5).resolve_right (by decide)))
    (pss_cons' (ps_asg' (i := 6) nd rfl (by first | exact .inl rfl | exact .inr rfl) (pe_idx c (po_V pe_cs) (po_V (pe_cD d__law_draw (hr.le (by decide)) rfl tk (pa_osCons (po_S (pv 1)) (pa_osCons (po_V pe_ci) pa_osNil))))) ((nio 6).resolve_right (by decide)))
    (pss_one' (ps_for' (passes_of rfl) rfl (pi_V c.K (pe_bin (opr_add c) (po_V (pe_lst' (pa_asCons (pe_var' (pv 4)) (pa_asCons (pe_bin (opr_add c) (po_V (pe_bin (opr_add c) (po_V (pe_slc c (po_S (pv 4)) po_pNo (po_pInt (pe_var' (pv 5))))) (po_S (pv 6)))) (po_V (pe_slc c (po_S (pv 4)) (po_pInt (pe_var' (pv 5))) po_pNo))) (pa_asCons (pe_bin (opr_add c) (po_V (pe_bin (opr_add c) (po_V (pe_slc c (po_S (pv 4)) po_pNo (po_pInt (pe_var' (pv 5))))) (po_S (pv 6)))) (po_V (pe_slc c (po_S (pv 4)) (po_pInt (pe_bin (opr_add c) (po_S (pv 5)) (po_V pe_ci))) po_pNo))) pa_asNil))))) (po_S (pv 2)))) (pg_N (i := 7) nd rfl (by first | exact .inl rfl | exact .inr rfl) ((nio 7).resolve_right (by decide))) (pss_cons' (ps_asg' (i := 8) nd rfl (by first | exact .inl rfl | exact .inr rfl) (pe_bi (bi_repr c) rfl T.b_repr bf_repr (pa_osCons (po_V (pe_cD d__law_is_name (hr.le (by decide)) rfl tk (pa_osCons (po_S (pv 7)) pa_osNil))) pa_osNil)) ((nio 8).resolve_right (by decide)))
    (pss_one' (ps_if' (PW.pt (pw_or' (pt_cmpV (opr_ne c) (po_V (pe_bi (bi_repr c) rfl T.b_repr bf_repr (pa_osCons (po_V (pe_cD d_is_name (hr.le (by decide)) rfl tk (pa_osCons (po_S (pv 7)) pa_osNil))) pa_osNil))) (po_S (pv 8))) (pw_or1 (pt_cmpV (opr_ne c) (po_V (pe_bi (bi_repr c) rfl T.b_repr bf_repr (pa_osCons (po_V (pe_cDK0 d_is_name (hr.le (by decide)) rfl tk kw_0 (pk_osCons (po_S (pv 7)) pk_osNil))) pa_osNil))) (po_S (pv 8)))))) (pss_one' (ps_ret' (pe_cst pe_bl fun _ => rep_bl.mpr rfl))) pss_nil')))))))))
    (pss_one' (ps_ret' (pe_cst pe_bl fun _ => rep_bl.mpr rfl)))))))
end
theorem law_fn {K : PySem.W.Frag} {mg : Str → Option Value} (T : Txt K mg) {P : Program} {w : World} {base : Heap} {f : Addr} {fd : FuncData} (hm : mg "law" = some (.ref f)) (F : FunP K "law" s_law f fd) : FnG P w K mg base (L2.CX P w) 12 f fd ["_law_script"] (spF ⟨K, fun _ => none⟩ 1 g_law) := (ok_law T).at hm F (by decide)
/-! ### the head -/
def d__law_pen : He.DefD := ⟨("_law_pen", none), "_law_pen", "_law_pen", defArgs s__law_pen, defBody s__law_pen, defScope s__law_pen, [], []⟩
def d__law_draw : He.DefD := ⟨("_law_draw", none), "_law_draw", "_law_draw", defArgs s__law_draw, defBody s__law_draw, defScope s__law_draw, [], []⟩
def d__law_is_name : He.DefD := ⟨("_law_is_name", none), "_law_is_name", "_law_is_name", defArgs s__law_is_name, defBody s__law_is_name, defScope s__law_is_name, [], []⟩
def d_is_name : He.DefD := ⟨("is_name", none), "is_name", "is_name", defArgs s_is_name, defBody s_is_name, defScope s_is_name, [], []⟩
def d_law : He.DefD := ⟨("law", none), "law", "law", defArgs s_law, defBody s_law, defScope s_law, [], []⟩
def fn : List He.DefD := [d__law_pen, d__law_draw, d__law_is_name, d_is_name, d_law]
def fa : List He.Fa := [.glo "_law_pen", .glo "_law_draw", .glo "_law_is_name", .glo "is_name", .glo "law", .free "abs", .free "all", .free "int", .free "isinstance", .free "len", .free "list", .free "range", .free "repr", .free "str", .str "LETTERS" "abcdefghijklmnopqrstuvwxyz", .int "LONGEST_NAME" 8]
abbrev R : PySem.W.OpenRow := PySem.W.OpenLaw.row PySem.Challenge.rw_passwidth_k01_names_recognized
abbrev hk : PySem.W.Hook := He.hookD 4 fa fn
def ob (s : PySem.W.SharedT) : He.AlD := He.obsDG 4 fa fn (HandSHeadRun.getT s)
theorem ob_eq (s : PySem.W.SharedT) : ob s = hk.obs s.abs := He.obsDG_eq (HandSHeadRun.getT_eq s)
def loose : List Str := ["LETTERS", "LONGEST_NAME", "is_name", "_law_pen", "_law_draw", "_law_is_name"]
theorem run (w : World) : HandSHeadRun.RunEq R (PySem.W.view R.prog [8]) hk ob 3000 loose w := by
  intro os
  kernel_rfl
theorem txt {K : PySem.W.Frag} {h : Heap} {mg : Str → Option Value} (X : K.In h) (G : h.Ns mainGlobals mg) (c : He.SaysD fa fn K) : Txt K mg where
  f__law_pen := by
    obtain ⟨fd, F⟩ := c.def_ 0 (d := d__law_pen) rfl
    exact ⟨_, fd, He.glo_ok X G (c.fact 0 (f := .glo "_law_pen") rfl), F⟩
  f__law_draw := by
    obtain ⟨fd, F⟩ := c.def_ 1 (d := d__law_draw) rfl
    exact ⟨_, fd, He.glo_ok X G (c.fact 1 (f := .glo "_law_draw") rfl), F⟩
  f__law_is_name := by
    obtain ⟨fd, F⟩ := c.def_ 2 (d := d__law_is_name) rfl
    exact ⟨_, fd, He.glo_ok X G (c.fact 2 (f := .glo "_law_is_name") rfl), F⟩
  f_is_name := by
    obtain ⟨fd, F⟩ := c.def_ 3 (d := d_is_name) rfl
    exact ⟨_, fd, He.glo_ok X G (c.fact 3 (f := .glo "is_name") rfl), F⟩
  f_law := by
    obtain ⟨fd, F⟩ := c.def_ 4 (d := d_law) rfl
    exact ⟨_, fd, He.glo_ok X G (c.fact 4 (f := .glo "law") rfl), F⟩
  b_abs := He.free_ok X G (c.fact 5 (f := .free "abs") rfl)
  b_all := He.free_ok X G (c.fact 6 (f := .free "all") rfl)
  b_int := He.free_ok X G (c.fact 7 (f := .free "int") rfl)
  b_isinstance := He.free_ok X G (c.fact 8 (f := .free "isinstance") rfl)
  b_len := He.free_ok X G (c.fact 9 (f := .free "len") rfl)
  b_list := He.free_ok X G (c.fact 10 (f := .free "list") rfl)
  b_range := He.free_ok X G (c.fact 11 (f := .free "range") rfl)
  b_repr := He.free_ok X G (c.fact 12 (f := .free "repr") rfl)
  b_str := He.free_ok X G (c.fact 13 (f := .free "str") rfl)
  c_LETTERS := He.str_ok X G (c.fact 14 (f := .str "LETTERS" "abcdefghijklmnopqrstuvwxyz") rfl)
  c_LONGEST_NAME := He.int_ok X G (c.fact 15 (f := .int "LONGEST_NAME" 8) rfl)
end K01
open PySem PySem.W PySem.Calls PyProof.Rows
theorem PySem.Challenge.cw_passwidth_k01_names_recognized_holds : PySem.Challenge.rw_passwidth_k01_names_recognized.Holds := by
  w_on; o_law
  refine HandSHeadRun.head_any (r := OpenLaw.row PySem.Challenge.rw_passwidth_k01_names_recognized) (q := view (OpenLaw.row PySem.Challenge.rw_passwidth_k01_names_recognized).prog [8]) (H := K01.hk) (ob := K01.ob) (M := 3000) (loose := K01.loose) (d := HandSHeadRun.topDef (OpenLaw.row PySem.Challenge.rw_passwidth_k01_names_recognized).prog 8) (kwd := []) K01.ob_eq
    (by kernel_rfl) (fun s => by kernel_rfl) K01.run (by kernel_rfl) (by kernel_rfl) (by kernel_rfl) (by rfl) (by first | assumption | decide +kernel) (by decide +kernel) ⟨rfl, rfl, rfl, rfl, rfl, by decide +kernel⟩ ?hw ?hc
  case hw => w_witness2
  case hc =>
    refine M.walk_end (l := PySem.Challenge.rw_passwidth_k01_names_recognized) (n := 63) (k := 12) (x := "_law_script") rfl (by decide) (by kernel_rfl) M.roomG_top ?F
    intro w mg fa h Y G hmg0
    obtain ⟨K, KX, c⟩ := Y
    have hmg : mg ("law" : PySem.Str) = some (.ref fa) := by
      have e : (HandSHeadRun.topDef (OpenLaw.row PySem.Challenge.rw_passwidth_k01_names_recognized).prog 8).name = ("law" : PySem.Str) := by kernel_rfl
      rw [← e]
      exact hmg0
    have T := K01.txt KX G c
    obtain ⟨f, fd, hm, F⟩ := T.f_law
    have ef := hmg.symm.trans hm
    cases ef
    refine ⟨K, fun _ => none, fd, K01.g_law, KX, fun s v => L2.FunD.bindsA (ps := ["_law_script"]) F (fun _ _ _ _ _ _ us hl => match us, hl with | [_], _ => rfl) s [v] rfl, K01.holds, fun base _ _ => ?_⟩
    exact K01.law_fn T hm F
