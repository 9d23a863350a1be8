import PyProof.Rows.All
import Wide.All
import OpenK.AllK
import Wide.FinOn
import HandS.ForMost
import HandS.ForExc
import HandS.Wide
import HandS.Deep
import HandS.SortInts
import HandS.Flow
import HandS.CallSlots
import HandS.WideBits
import HandS.TupAny
import HandS.Conv
import HandS.IsInst
import HandS.RevRange
import HandS.Walk
import HandS.Style
import HandS.Zip
import HandS.More
import HandS.SetFor
import HandS.Strs
import HandS.Defaults
import PySem.Challenge.RW_camplay_k47_small_books_meet
set_option Elab.async false
set_option linter.all false
set_option maxRecDepth 100000
set_option maxHeartbeats 4000000
set_option autoImplicit false
/-! DL1: data, what stands for it in the abstract heap, states -/
namespace DL
open PySem L2
/-- data that stands still -/
inductive D where
  | non | bl (b : Bool) | int (i : Int) | str (x : Str) | any
  | tup (xs : List D) | lst (xs : List D) | scr (ns : List Int)
  | dct (kvs : List (Key × D)) | obj (c : Nat) (fs : List (Str × D))
/-- what is owned: a list, a dict by keys, a dict by tuples of keys -/
inductive Lf where
  | lst (ds : List D) | dct (kvs : List (Key × D)) | dcT (kvs : List (List Key × D))
inductive FV where
  | dat (d : D) | own (l : Lf) | hole
inductive MO where
  | lf (l : Lf) | ins (c : Nat) (fs : List (Str × FV)) | rcd (kvs : List (Key × FV))
inductive SV where
  | dat (d : D) | own (m : MO)
abbrev Slots := List (Option SV)
/-- an exception: its class, its fields -/
structure EX where
  cls : Nat
  fs : Option (List (Str × D))

section
variable (K : PySem.W.Frag) (κ : Nat → Addr)
mutual
inductive Rp (I : Hp) : V → D → Prop
  | non : Rp I .non .non
  | bl (b : Bool) : Rp I (.bl b) (.bl b)
  | int (i : Int) : Rp I (.int i) (.int i)
  | str (x : Str) : Rp I (.str x) (.str x)
  | any (v : V) : Rp I v .any
  | tup {a : Addr} {vs : List V} {ds : List D} : I a = some (.tup vs) → RpA I vs ds → Rp I (.ref a) (.tup ds)
  | lst {a : Addr} {vs : List V} {ds : List D} : I a = some (.lst vs) → RpA I vs ds → Rp I (.ref a) (.lst ds)
  | scr {a : Addr} {ns : List Int} : SqL K I a (ns.map V.int) → Rp I (.ref a) (.scr ns)
  | dct {a : Addr} {kvs : List (Key × V)} {kds : List (Key × D)} : I a = some (.dK kvs) → RpK I kvs kds → Rp I (.ref a) (.dct kds)
  | obj {a dx : Addr} {c : Nat} {fs : List (Str × V)} {gs : List (Str × D)} : I a = some (.ins (κ c) dx fs) → RpF I fs gs → Rp I (.ref a) (.obj c gs)
inductive RpA (I : Hp) : List V → List D → Prop
  | nil : RpA I [] []
  | cons {v : V} {vs : List V} {d : D} {ds : List D} : Rp I v d → RpA I vs ds → RpA I (v :: vs) (d :: ds)
inductive RpK (I : Hp) : List (Key × V) → List (Key × D) → Prop
  | nil : RpK I [] []
  | cons {k : Key} {v : V} {vs : List (Key × V)} {d : D} {ds : List (Key × D)} : Rp I v d → RpK I vs ds → RpK I ((k, v) :: vs) ((k, d) :: ds)
inductive RpF (I : Hp) : List (Str × V) → List (Str × D) → Prop
  | nil : RpF I [] []
  | cons {k : Str} {v : V} {vs : List (Str × V)} {d : D} {ds : List (Str × D)} : Rp I v d → RpF I vs ds → RpF I ((k, v) :: vs) ((k, d) :: ds)
end
end
theorem same_sq {K : PySem.W.Frag} {I I' : Hp} {a : Addr} {xs : List V} (e : Same I I') (h : SqL K I a xs) : SqL K I' a xs := e.seq h
section
variable {K : PySem.W.Frag} {κ : Nat → Addr} {I I' : Hp}
mutual
theorem Rp.mono (e : Same I I') : ∀ {v : V} {d : D}, Rp K κ I v d → Rp K κ I' v d
  | _, _, .non => .non
  | _, _, .bl b => .bl b
  | _, _, .int i => .int i
  | _, _, .str x => .str x
  | _, _, .any x => .any x
  | _, _, .tup h r => .tup (e _ _ h) (RpA.mono e r)
  | _, _, .lst h r => .lst (e _ _ h) (RpA.mono e r)
  | _, _, .scr h => .scr (same_sq e h)
  | _, _, .dct h r => .dct (e _ _ h) (RpK.mono e r)
  | _, _, .obj h r => .obj (e _ _ h) (RpF.mono e r)
theorem RpA.mono (e : Same I I') : ∀ {v : List V} {d : List D}, RpA K κ I v d → RpA K κ I' v d
  | _, _, .nil => .nil
  | _, _, .cons h r => .cons (Rp.mono e h) (RpA.mono e r)
theorem RpK.mono (e : Same I I') : ∀ {v : List (Key × V)} {d : List (Key × D)}, RpK K κ I v d → RpK K κ I' v d
  | _, _, .nil => .nil
  | _, _, .cons h r => .cons (Rp.mono e h) (RpK.mono e r)
theorem RpF.mono (e : Same I I') : ∀ {v : List (Str × V)} {d : List (Str × D)}, RpF K κ I v d → RpF K κ I' v d
  | _, _, .nil => .nil
  | _, _, .cons h r => .cons (Rp.mono e h) (RpF.mono e r)
end
theorem RpA.length : ∀ {vs : List V} {ds : List D}, RpA K κ I vs ds → vs.length = ds.length
  | _, _, .nil => rfl
  | _, _, .cons _ r => by simp [r.length]
theorem RpA.get : ∀ {vs : List V} {ds : List D} {i : Nat} {d : D}, RpA K κ I vs ds → ds[i]? = some d → ∃ v, vs[i]? = some v ∧ Rp K κ I v d
  | _, _, _, _, .nil, e => by simp at e
  | _, _, 0, _, .cons h _, e => by simp at e; subst e; exact ⟨_, rfl, h⟩
  | _, _, i + 1, d, .cons _ r, e => by
    obtain ⟨v, h1, h2⟩ := r.get (i := i) (d := d) (by simpa using e)
    exact ⟨v, by simpa using h1, h2⟩
theorem RpA.getV : ∀ {vs : List V} {ds : List D} {i : Nat} {v : V}, RpA K κ I vs ds → vs[i]? = some v → ∃ d, ds[i]? = some d ∧ Rp K κ I v d
  | _, _, _, _, .nil, e => by simp at e
  | _, _, 0, _, .cons h _, e => by simp at e; subst e; exact ⟨_, rfl, h⟩
  | _, _, i + 1, d, .cons _ r, e => by
    obtain ⟨v, h1, h2⟩ := r.getV (i := i) (v := d) (by simpa using e)
    exact ⟨v, by simpa using h1, h2⟩
theorem RpA.append : ∀ {vs ws : List V} {ds es : List D}, RpA K κ I vs ds → RpA K κ I ws es → RpA K κ I (vs ++ ws) (ds ++ es)
  | _, _, _, _, .nil, s => s
  | _, _, _, _, .cons h r, s => .cons h (r.append s)
theorem RpA.take : ∀ {vs : List V} {ds : List D} (n : Nat), RpA K κ I vs ds → RpA K κ I (vs.take n) (ds.take n)
  | _, _, 0, _ => by simp; exact .nil
  | _, _, n + 1, .nil => by simp; exact .nil
  | _, _, n + 1, .cons h r => by simp; exact .cons h (r.take n)
theorem RpA.drop : ∀ {vs : List V} {ds : List D} (n : Nat), RpA K κ I vs ds → RpA K κ I (vs.drop n) (ds.drop n)
  | _, _, 0, r => by simpa using r
  | _, _, n + 1, .nil => by simp; exact .nil
  | _, _, n + 1, .cons _ r => by simpa using r.drop n
theorem RpA.set : ∀ {vs : List V} {ds : List D} (n : Nat) {v : V} {d : D}, RpA K κ I vs ds → Rp K κ I v d → RpA K κ I (vs.set n v) (ds.set n d)
  | _, _, _, _, _, .nil, _ => by simp; exact .nil
  | _, _, 0, _, _, .cons _ r, h => by simp; exact .cons h r
  | _, _, n + 1, _, _, .cons g r, h => by simp; exact .cons g (r.set n h)
theorem RpA.reverse : ∀ {vs : List V} {ds : List D}, RpA K κ I vs ds → RpA K κ I vs.reverse ds.reverse
  | _, _, .nil => .nil
  | _, _, .cons h r => by simp; exact r.reverse.append (.cons h .nil)
theorem RpA.rep {vs : List V} {ds : List D} (h : RpA K κ I vs ds) : ∀ k : Nat, RpA K κ I (List.replicate k vs).flatten (List.replicate k ds).flatten
  | 0 => by simp; exact .nil
  | k + 1 => by simp only [List.replicate_succ, List.flatten_cons]; exact h.append (RpA.rep h k)
theorem RpA.eraseIdx : ∀ {vs : List V} {ds : List D} (n : Nat), RpA K κ I vs ds → RpA K κ I (vs.eraseIdx n) (ds.eraseIdx n)
  | _, _, _, .nil => by simp; exact .nil
  | _, _, 0, .cons _ r => by simpa using r
  | _, _, n + 1, .cons h r => by simp; exact .cons h (r.eraseIdx n)
theorem RpA.dropLast : ∀ {vs : List V} {ds : List D}, RpA K κ I vs ds → RpA K κ I vs.dropLast ds.dropLast := fun {vs ds} h => by
  rw [List.dropLast_eq_take, List.dropLast_eq_take, h.length]; exact h.take _
theorem RpA.ints : ∀ {ns : List Int}, RpA K κ I (ns.map V.int) (ns.map D.int)
  | [] => .nil
  | _ :: _ => .cons (.int _) RpA.ints
theorem RpA.ofInts : ∀ {vs : List V} {ns : List Int}, RpA K κ I vs (ns.map D.int) → vs = ns.map V.int
  | _, [], .nil => rfl
  | _, _ :: _, .cons (.int _) r => by rw [r.ofInts]; rfl
theorem RpA.strs : ∀ {ns : List Str}, RpA K κ I (ns.map V.str) (ns.map D.str)
  | [] => .nil
  | _ :: _ => .cons (.str _) RpA.strs
theorem RpA.ofStrs : ∀ {vs : List V} {ns : List Str}, RpA K κ I vs (ns.map D.str) → vs = ns.map V.str
  | _, [], .nil => rfl
  | _, _ :: _, .cons (.str _) r => by rw [r.ofStrs]; rfl
theorem RpA.bls : ∀ {ns : List Bool}, RpA K κ I (ns.map V.bl) (ns.map D.bl)
  | [] => .nil
  | _ :: _ => .cons (.bl _) RpA.bls
theorem RpA.ofBls : ∀ {vs : List V} {ns : List Bool}, RpA K κ I vs (ns.map D.bl) → vs = ns.map V.bl
  | _, [], .nil => rfl
  | _, _ :: _, .cons (.bl _) r => by rw [r.ofBls]; rfl
end

/-! ### dicts of data -/
section
variable {κ' : Type} [DecidableEq κ']
def getK (kvs : List (κ' × D)) (k : κ') : Option D := (kvs.find? fun kv => decide (kv.1 = k)).map (·.2)
def setK {β : Type} (kvs : List (κ' × β)) (k : κ') (v : β) : List (κ' × β) :=
  if (kvs.any fun kv => decide (kv.1 = k)) = true then kvs.map (fun kv => if kv.1 = k then (kv.1, v) else kv) else kvs ++ [(k, v)]
end
inductive RpT (K : PySem.W.Frag) (κ : Nat → Addr) (I : Hp) : List (List Key × V) → List (List Key × D) → Prop
  | nil : RpT K κ I [] []
  | cons {k : List Key} {v : V} {vs : List (List Key × V)} {d : D} {ds : List (List Key × D)} : Rp K κ I v d → RpT K κ I vs ds → RpT K κ I ((k, v) :: vs) ((k, d) :: ds)

section
variable (K : PySem.W.Frag) (κ : Nat → Addr) (I H : Hp)
inductive OwL : V → Lf → List Addr → Prop
  | lst {a : Addr} {vs : List V} {ds : List D} : H a = some (.lst vs) → RpA K κ I vs ds → OwL (.ref a) (.lst ds) [a]
  | dct {a : Addr} {vs : List (Key × V)} {ds : List (Key × D)} : H a = some (.dK vs) → RpK K κ I vs ds → OwL (.ref a) (.dct ds) [a]
  | dcT {a : Addr} {vs : List (List Key × V)} {ds : List (List Key × D)} : H a = some (.dT vs) → RpT K κ I vs ds → OwL (.ref a) (.dcT ds) [a]
inductive OwF : V → FV → List Addr → Prop
  | dat {v : V} {d : D} : Rp K κ I v d → OwF v (.dat d) []
  | own {v : V} {l : Lf} {fp : List Addr} : OwL K κ I H v l fp → OwF v (.own l) fp
  | hole {v : V} : OwF v .hole []
inductive OwFs {α : Type} : List (α × V) → List (α × FV) → List Addr → Prop
  | nil : OwFs [] [] []
  | cons {f : α} {v : V} {x : FV} {fp fq : List Addr} {vs : List (α × V)} {xs : List (α × FV)} : OwF K κ I H v x fp → OwFs vs xs fq → OwFs ((f, v) :: vs) ((f, x) :: xs) (fp ++ fq)
inductive OwM : V → MO → List Addr → Prop
  | lf {v : V} {l : Lf} {fp : List Addr} : OwL K κ I H v l fp → OwM v (.lf l) fp
  | ins {a dx : Addr} {c : Nat} {vs : List (Str × V)} {xs : List (Str × FV)} {fp : List Addr} : H a = some (.ins (κ c) dx vs) → OwFs K κ I H vs xs fp → OwM (.ref a) (.ins c xs) (a :: fp)
  | rcd {a : Addr} {vs : List (Key × V)} {xs : List (Key × FV)} {fp : List Addr} : H a = some (.dK vs) → OwFs K κ I H vs xs fp → OwM (.ref a) (.rcd xs) (a :: fp)
inductive OwS : V → SV → List Addr → Prop
  | dat {v : V} {d : D} : Rp K κ I v d → OwS v (.dat d) []
  | own {v : V} {m : MO} {fp : List Addr} : OwM K κ I H v m fp → OwS v (.own m) fp
inductive EnvR : List (Option V) → Slots → List Addr → Prop
  | nil : EnvR [] [] []
  | no {x : Option V} {σ : List (Option V)} {env : Slots} {fp : List Addr} : EnvR σ env fp → EnvR (x :: σ) (none :: env) fp
  | so {v : V} {x : SV} {σ : List (Option V)} {env : Slots} {fp fq : List Addr} : OwS K κ I H v x fp → EnvR σ env fq → EnvR (some v :: σ) (some x :: env) (fp ++ fq)
end
section
variable {K : PySem.W.Frag} {κ : Nat → Addr} {I I' H H' : Hp}
theorem RpT.mono (e : Same I I') : ∀ {v : List (List Key × V)} {d : List (List Key × D)}, RpT K κ I v d → RpT K κ I' v d
  | _, _, .nil => .nil
  | _, _, .cons h r => .cons (h.mono e) (r.mono e)
theorem OwL.mono (e : Same I I') {v : V} {l : Lf} {fp : List Addr} (h : OwL K κ I H v l fp) (k : ∀ a ∈ fp, H' a = H a) : OwL K κ I' H' v l fp := by
  cases h with
  | lst h r => exact .lst ((k _ (by simp)).trans h) (r.mono e)
  | dct h r => exact .dct ((k _ (by simp)).trans h) (r.mono e)
  | dcT h r => exact .dcT ((k _ (by simp)).trans h) (r.mono e)
theorem OwF.mono (e : Same I I') {v : V} {l : FV} {fp : List Addr} (h : OwF K κ I H v l fp) (k : ∀ a ∈ fp, H' a = H a) : OwF K κ I' H' v l fp := by
  cases h with
  | dat r => exact .dat (r.mono e)
  | own r => exact .own (r.mono e k)
  | hole => exact .hole
theorem OwFs.mono {α : Type} (e : Same I I') : ∀ {vs : List (α × V)} {xs : List (α × FV)} {fp : List Addr}, OwFs K κ I H vs xs fp → (∀ a ∈ fp, H' a = H a) → OwFs K κ I' H' vs xs fp
  | _, _, _, .nil, _ => .nil
  | _, _, _, .cons h r, k => .cons (h.mono e fun a ha => k a (List.mem_append_left _ ha)) (r.mono e fun a ha => k a (List.mem_append_right _ ha))
theorem OwM.mono (e : Same I I') {v : V} {l : MO} {fp : List Addr} (h : OwM K κ I H v l fp) (k : ∀ a ∈ fp, H' a = H a) : OwM K κ I' H' v l fp := by
  cases h with
  | lf r => exact .lf (r.mono e k)
  | ins h r => exact .ins ((k _ (by simp)).trans h) (r.mono e fun a ha => k a (List.mem_cons_of_mem _ ha))
  | rcd h r => exact .rcd ((k _ (by simp)).trans h) (r.mono e fun a ha => k a (List.mem_cons_of_mem _ ha))
theorem OwS.mono (e : Same I I') {v : V} {l : SV} {fp : List Addr} (h : OwS K κ I H v l fp) (k : ∀ a ∈ fp, H' a = H a) : OwS K κ I' H' v l fp := by
  cases h with
  | dat r => exact .dat (r.mono e)
  | own r => exact .own (r.mono e k)
theorem EnvR.mono (e : Same I I') : ∀ {σ : List (Option V)} {env : Slots} {fp : List Addr}, EnvR K κ I H σ env fp → (∀ a ∈ fp, H' a = H a) → EnvR K κ I' H' σ env fp
  | _, _, _, .nil, _ => .nil
  | _, _, _, .no r, k => .no (r.mono e k)
  | _, _, _, .so h r, k => .so (h.mono e fun a ha => k a (List.mem_append_left _ ha)) (r.mono e fun a ha => k a (List.mem_append_right _ ha))
theorem EnvR.length : ∀ {σ : List (Option V)} {env : Slots} {fp : List Addr}, EnvR K κ I H σ env fp → σ.length = env.length
  | _, _, _, .nil => rfl
  | _, _, _, .no r => by simp [r.length]
  | _, _, _, .so _ r => by simp [r.length]
/-- a slot is taken out -/
theorem EnvR.get : ∀ {σ : List (Option V)} {env : Slots} {fp : List Addr} {i : Nat} {x : SV}, EnvR K κ I H σ env fp → env[i]? = some (some x) →
    ∃ v f1 f2, σ[i]? = some (some v) ∧ OwS K κ I H v x f1 ∧ EnvR K κ I H σ (env.set i none) f2 ∧ (f1 ++ f2).Perm fp
  | _, _, _, _, _, .nil, e => by simp at e
  | _, _, _, 0, _, .no r, e => by simp at e
  | _, _, _, i + 1, x, .no r, e => by
    obtain ⟨v, f1, f2, h1, h2, h3, h4⟩ := r.get (i := i) (x := x) (by simpa using e)
    exact ⟨v, f1, f2, by simpa using h1, h2, by simpa using EnvR.no h3, h4⟩
  | _, _, _, 0, x, .so h r, e => by
    simp at e; subst e
    exact ⟨_, _, _, rfl, h, by simpa using EnvR.no r, .refl _⟩
  | _, _, _, i + 1, x, .so (fp := g1) (fq := g2) h r, e => by
    obtain ⟨v, f1, f2, h1, h2, h3, h4⟩ := r.get (i := i) (x := x) (by simpa using e)
    refine ⟨v, f1, g1 ++ f2, by simpa using h1, h2, by simpa using EnvR.so h h3, ?_⟩
    refine (List.perm_append_comm_assoc f1 g1 f2).trans ?_
    exact h4.append_left g1
/-- .. and laid in -/
theorem EnvR.put : ∀ {σ : List (Option V)} {env : Slots} {f2 : List Addr} {i : Nat} {x : SV} {v : V} {f1 : List Addr}, EnvR K κ I H σ env f2 → env[i]? = some none → σ[i]? = some (some v) → OwS K κ I H v x f1 →
    ∃ fp, EnvR K κ I H σ (env.set i (some x)) fp ∧ (f1 ++ f2).Perm fp
  | _, _, _, _, _, _, _, .nil, e, _, _ => by simp at e
  | _, _, _, 0, _, _, _, .so h r, e, _, _ => by simp at e
  | _, _, _, 0, x, v, f1, .no r, e, e2, h => by
    simp at e2; subst e2
    exact ⟨_, by simpa using EnvR.so h r, .refl _⟩
  | _, _, _, i + 1, x, v, f1, .no r, e, e2, h => by
    obtain ⟨fp, h1, h2⟩ := r.put (i := i) (x := x) (by simpa using e) (by simpa using e2) h
    exact ⟨fp, by simpa using EnvR.no h1, h2⟩
  | _, _, _, i + 1, x, v, f1, .so (fp := g1) (fq := g2) g r, e, e2, h => by
    obtain ⟨fp, h1, h2⟩ := r.put (i := i) (x := x) (by simpa using e) (by simpa using e2) h
    exact ⟨g1 ++ fp, by simpa using EnvR.so g h1, (List.perm_append_comm_assoc f1 g1 g2).trans (h2.append_left g1)⟩
/-- a slot is forgotten -/
theorem EnvR.forget : ∀ {σ : List (Option V)} {env : Slots} {fp : List Addr} (i : Nat), EnvR K κ I H σ env fp → ∃ f1 f2, EnvR K κ I H σ (env.set i none) f2 ∧ (f1 ++ f2).Perm fp
  | _, _, _, _, .nil => ⟨[], [], by simpa using EnvR.nil, .refl _⟩
  | _, _, fp, 0, .no r => ⟨[], fp, by simpa using EnvR.no r, .refl _⟩
  | _, _, _, 0, .so (fp := g1) (fq := g2) _ r => ⟨g1, g2, by simpa using EnvR.no r, .refl _⟩
  | _, _, fp, i + 1, .no r => by
    obtain ⟨f1, f2, h1, h2⟩ := r.forget i
    exact ⟨f1, f2, by simpa using EnvR.no h1, h2⟩
  | _, _, _, i + 1, .so (fp := g1) (fq := g2) g r => by
    obtain ⟨f1, f2, h1, h2⟩ := r.forget i
    exact ⟨f1, g1 ++ f2, by simpa using EnvR.so g h1, (List.perm_append_comm_assoc f1 g1 f2).trans (h2.append_left g1)⟩
/-- the slots' own values may change where nothing is told -/
theorem EnvR.store : ∀ {σ : List (Option V)} {env : Slots} {fp : List Addr} {i : Nat} (x : Option V), EnvR K κ I H σ env fp → (∀ y, env[i]? ≠ some (some y)) → EnvR K κ I H (σ.set i x) env fp
  | _, _, _, _, _, .nil, _ => by simpa using EnvR.nil
  | _, _, _, 0, x, .no r, _ => by simpa using EnvR.no r
  | _, _, _, 0, x, .so _ _, e => absurd rfl (e _)
  | _, _, _, i + 1, x, .no r, e => by simpa using EnvR.no (r.store (i := i) x (fun y q => e y (by simpa using q)))
  | _, _, _, i + 1, x, .so g r, e => by simpa using EnvR.so g (r.store (i := i) x (fun y q => e y (by simpa using q)))
end

/-! ### the state -/
structure Rel (I F H : Hp) (fp : List Addr) : Prop where
  ext : Same I H
  frm : Same F H
  nd : fp.Nodup
  nI : ∀ a ∈ fp, I a = none
  nF : ∀ a ∈ fp, F a = none
  tr : ∀ a ∈ fp, H a ≠ none
theorem Rel.perm {I F H : Hp} {l l' : List Addr} (p : l.Perm l') (r : Rel I F H l) : Rel I F H l' :=
  ⟨r.ext, r.frm, p.nodup_iff.mp r.nd, fun a h => r.nI a (p.mem_iff.mpr h), fun a h => r.nF a (p.mem_iff.mpr h), fun a h => r.tr a (p.mem_iff.mpr h)⟩
theorem Rel.sub {I F H : Hp} {l1 l : List Addr} (r : Rel I F H (l1 ++ l)) : Rel I F H l :=
  ⟨r.ext, r.frm, (List.nodup_append.mp r.nd).2.1, fun a h => r.nI a (List.mem_append_right _ h), fun a h => r.nF a (List.mem_append_right _ h), fun a h => r.tr a (List.mem_append_right _ h)⟩
structure Step (F I I' : Hp) : Prop where
  ext : Same I I'
  ap : ∀ a o, F a = some o → I a = none → I' a = none
theorem Step.refl (F I : Hp) : Step F I I := ⟨Same.refl I, fun _ _ _ h => h⟩
theorem Step.trans {F I I1 I2 : Hp} (a : Step F I I1) (b : Step F I1 I2) : Step F I I2 := ⟨a.ext.trans b.ext, fun x o h1 h2 => b.ap x o h1 (a.ap x o h1 h2)⟩
section
variable (K : PySem.W.Frag) (κ : Nat → Addr)
structure Ok (I F H : Hp) (σ : L2.St) (env : Slots) (nfp : List Addr) : Prop where
  ex : ∃ fp, EnvR K κ I H σ env fp ∧ Rel I F H (nfp ++ fp)
inductive RE (α : Type) where
  | ok (a : α) (env : Slots)
  | exc (e : EX) (env : Slots)
  | stuck
abbrev EM (α : Type) := Slots → RE α
/-- an exception's class and fields -/
inductive ExR (I : Hp) : EX → Value → Option Addr → Prop
  | plain (c : Nat) : ExR I ⟨c, none⟩ (.ref (κ c)) none
  | flds {c : Nat} {dd : Addr} {vs : List (Str × V)} {fs : List (Str × D)} : I dd = some (.xd vs) → RpF K κ I vs fs → ExR I ⟨c, some fs⟩ (.ref (κ c)) (some dd)
end
def RE.bind {α β : Type} (r : RE α) (g : α → EM β) : RE β := match r with
  | .ok a env => g a env
  | .exc e env => .exc e env
  | .stuck => .stuck
def EM.bind {α β : Type} (f : EM α) (g : α → EM β) : EM β := fun env => (f env).bind g
def EM.pure {α : Type} (a : α) : EM α := fun env => .ok a env
def lift {α : Type} (o : Option α) : EM α := fun env => match o with
  | some a => .ok a env
  | none => .stuck
section
variable {K : PySem.W.Frag} {κ : Nat → Addr} {I I' F H H' : Hp} {σ : L2.St} {env : Slots} {nfp : List Addr}
theorem Ok.ext (o : Ok K κ I F H σ env nfp) : Same I H := let ⟨_, _, r⟩ := o.ex; r.ext
theorem Ok.frm (o : Ok K κ I F H σ env nfp) : Same F H := let ⟨_, _, r⟩ := o.ex; r.frm
theorem Ok.len (o : Ok K κ I F H σ env nfp) : σ.length = env.length := let ⟨_, e, _⟩ := o.ex; e.length
theorem upd_fresh {H : Hp} {p : Addr} {o : HO} (h : H p = none) : Same H (upd H p o) := fun a u e => by
  rw [upd_ne (ne_of_none e h)]; exact e
theorem same_back {H H' : Hp} (e : Same H H') {p : Addr} (h : H' p = none) : H p = none := by
  cases q : H p with
  | none => rfl
  | some o => rw [e p o q] at h; cases h
/-- a new thing that will stand still -/
theorem Ok.newI {p : Addr} {o : HO} (k : Ok K κ I F H σ env nfp) (hp : H p = none) : Ok K κ (upd I p o) F (upd H p o) σ env nfp ∧ Step F I (upd I p o) ∧ (upd I p o) p = some o := by
  obtain ⟨fp, e, r⟩ := k.ex
  have hI : I p = none := same_back r.ext hp
  have nep : ∀ a ∈ nfp ++ fp, a ≠ p := fun a h z => r.tr a h (by rw [z]; exact hp)
  refine ⟨⟨fp, e.mono (upd_fresh hI) fun a h => upd_ne (nep a (List.mem_append_right _ h)), ⟨fun a u q => ?_, fun a u q => ?_, r.nd, fun a h => ?_, r.nF, fun a h => ?_⟩⟩, ⟨upd_fresh hI, fun a u q1 q2 => ?_⟩, upd_same⟩
  · by_cases z : a = p
    · subst z; rw [upd_same] at q ⊢; exact q
    · rw [upd_ne z] at q ⊢; exact r.ext a u q
  · rw [upd_ne (ne_of_none (r.frm a u q) hp)]; exact r.frm a u q
  · rw [upd_ne (nep a h)]; exact r.nI a h
  · rw [upd_ne (nep a h)]; exact r.tr a h
  · rw [upd_ne (ne_of_none (r.frm a u q1) hp)]; exact q2
/-- a new thing that is owned -/
theorem Ok.newO {p : Addr} {o : HO} (k : Ok K κ I F H σ env nfp) (hp : H p = none) : Ok K κ I F (upd H p o) σ env (p :: nfp) := by
  obtain ⟨fp, e, r⟩ := k.ex
  have hI : I p = none := same_back r.ext hp
  have hF : F p = none := same_back r.frm hp
  have nep : ∀ a ∈ nfp ++ fp, a ≠ p := fun a h z => r.tr a h (by rw [z]; exact hp)
  refine ⟨fp, e.mono (Same.refl I) fun a h => upd_ne (nep a (List.mem_append_right _ h)), ⟨fun a u q => ?_, fun a u q => ?_, ?_, ?_, ?_, ?_⟩⟩
  · rw [upd_ne (ne_of_none (r.ext a u q) hp)]; exact r.ext a u q
  · rw [upd_ne (ne_of_none (r.frm a u q) hp)]; exact r.frm a u q
  · rw [List.cons_append]; exact List.nodup_cons.mpr ⟨fun h => nep p h rfl, r.nd⟩
  · rw [List.cons_append]; intro a h; rcases List.mem_cons.mp h with rfl | h
    · exact hI
    · exact r.nI a h
  · rw [List.cons_append]; intro a h; rcases List.mem_cons.mp h with rfl | h
    · exact hF
    · exact r.nF a h
  · rw [List.cons_append]; intro a h; rcases List.mem_cons.mp h with rfl | h
    · rw [upd_same]; exact fun z => nomatch z
    · rw [upd_ne (nep a h)]; exact r.tr a h
/-- what is owned is written -/
theorem Ok.write {a : Addr} {o : HO} {l : List Addr} (k : Ok K κ I F H σ env (a :: l)) : Ok K κ I F (upd H a o) σ env (a :: l) := by
  obtain ⟨fp, e, r⟩ := k.ex
  have nd := r.nd
  rw [List.cons_append] at nd
  have na := (List.nodup_cons.mp nd).1
  refine ⟨fp, e.mono (Same.refl I) fun b h => upd_ne (fun z => na (by rw [← z]; exact List.mem_append_right _ h)), ⟨fun b u q => ?_, fun b u q => ?_, r.nd, r.nI, r.nF, fun b h => ?_⟩⟩
  · have : b ≠ a := fun z => by subst z; rw [r.nI b (by simp)] at q; cases q
    rw [upd_ne this]; exact r.ext b u q
  · have : b ≠ a := fun z => by subst z; rw [r.nF b (by simp)] at q; cases q
    rw [upd_ne this]; exact r.frm b u q
  · by_cases z : b = a
    · subst z; rw [upd_same]; exact fun z => nomatch z
    · rw [upd_ne z]; exact r.tr b h
theorem Ok.perm {l l' : List Addr} (p : l.Perm l') (k : Ok K κ I F H σ env l) : Ok K κ I F H σ env l' := by
  obtain ⟨fp, e, r⟩ := k.ex
  exact ⟨fp, e, r.perm (p.append_right fp)⟩
theorem Ok.drop {l l' : List Addr} (k : Ok K κ I F H σ env (l ++ l')) : Ok K κ I F H σ env l' := by
  obtain ⟨fp, e, r⟩ := k.ex
  rw [List.append_assoc] at r
  exact ⟨fp, e, r.sub⟩
/-- a slot taken out, its footprint beside -/
theorem Ok.get {i : Nat} {x : SV} (k : Ok K κ I F H σ env nfp) (h : env[i]? = some (some x)) : ∃ v f1, σ[i]? = some (some v) ∧ OwS K κ I H v x f1 ∧ Ok K κ I F H σ (env.set i none) (f1 ++ nfp) := by
  obtain ⟨fp, e, r⟩ := k.ex
  obtain ⟨v, f1, f2, h1, h2, h3, h4⟩ := e.get h
  refine ⟨v, f1, h1, h2, ⟨f2, h3, r.perm ?_⟩⟩
  refine (h4.symm.append_left nfp).trans ?_
  rw [List.append_assoc]
  exact List.perm_append_comm_assoc nfp f1 f2
theorem Ok.put {i : Nat} {x : SV} {v : V} {f1 : List Addr} (k : Ok K κ I F H σ env (f1 ++ nfp)) (h : env[i]? = some none) (hv : σ[i]? = some (some v)) (ho : OwS K κ I H v x f1) : Ok K κ I F H σ (env.set i (some x)) nfp := by
  obtain ⟨fp, e, r⟩ := k.ex
  obtain ⟨fq, h1, h2⟩ := e.put h hv ho
  refine ⟨fq, h1, r.perm ?_⟩
  rw [List.append_assoc]
  exact (List.perm_append_comm_assoc f1 nfp fp).trans (h2.append_left nfp)
theorem Ok.forget (i : Nat) (k : Ok K κ I F H σ env nfp) : Ok K κ I F H σ (env.set i none) nfp := by
  obtain ⟨fp, e, r⟩ := k.ex
  obtain ⟨f1, f2, h1, h2⟩ := e.forget i
  have := r.perm ((h2.symm.append_left nfp).trans (List.perm_append_comm_assoc nfp f1 f2))
  exact ⟨f2, h1, this.sub⟩
theorem Ok.store {i : Nat} {v : V} {x : SV} {f1 : List Addr} (k : Ok K κ I F H σ env (f1 ++ nfp)) (hi : i < env.length) (ho : OwS K κ I H v x f1) : Ok K κ I F H (σ.set i (some v)) (env.set i (some x)) nfp := by
  have k1 := k.forget i
  obtain ⟨fp, e, r⟩ := k1.ex
  have e2 := e.store (i := i) (some v) (fun y q => by rw [List.getElem?_set_self hi] at q; cases q)
  have k2 : Ok K κ I F H (σ.set i (some v)) (env.set i none) (f1 ++ nfp) := ⟨fp, e2, r⟩
  have hl : i < σ.length := by rw [k.len]; exact hi
  have := k2.put (i := i) (by rw [List.getElem?_set_self hi]) (by rw [List.getElem?_set_self hl]) ho
  rwa [List.set_set] at this
/-- beside, into the frame: and back -/
def addF (F H : Hp) (l : List Addr) : Hp := fun a => if a ∈ l then H a else F a
theorem Ok.frame {l : List Addr} (k : Ok K κ I F H σ env (l ++ nfp)) : Ok K κ I (addF F H l) H σ env nfp := by
  obtain ⟨fp, e, r⟩ := k.ex
  rw [List.append_assoc] at r
  refine ⟨fp, e, ⟨r.ext, fun a o q => ?_, r.sub.nd, r.sub.nI, fun a h => ?_, r.sub.tr⟩⟩
  · unfold addF at q; split at q
    · exact q
    · exact r.frm a o q
  · have : a ∉ l := fun z => (List.nodup_append.mp r.nd).2.2 a z a h rfl
    unfold addF; rw [if_neg this]; exact r.nF a (List.mem_append_right _ h)
theorem Ok.unframe {l nfp' : List Addr} {σ' : L2.St} {env' : Slots} (k : Ok K κ I F H σ env (l ++ nfp)) (k' : Ok K κ I' (addF F H l) H' σ' env' nfp') (st : Step (addF F H l) I I') :
    Ok K κ I' F H' σ' env' (l ++ nfp') ∧ (∀ a ∈ l, H' a = H a) ∧ Step F I I' := by
  obtain ⟨fp, e, r⟩ := k.ex
  obtain ⟨fp', e', r'⟩ := k'.ex
  rw [List.append_assoc] at r
  have at_ : ∀ a ∈ l, ∃ o, H a = some o ∧ addF F H l a = some o := fun a h => by
    cases q : H a with
    | none => exact absurd q (r.tr a (List.mem_append_left _ h))
    | some o => exact ⟨o, rfl, by unfold addF; rw [if_pos h]; exact q⟩
  have keep : ∀ a ∈ l, H' a = H a := fun a h => by
    obtain ⟨o, h1, h2⟩ := at_ a h
    rw [h1]; exact r'.frm a o h2
  have FF : ∀ a o, F a = some o → addF F H l a = some o := fun a o q => by
    unfold addF; split
    · exact r.frm a o q
    · exact q
  refine ⟨⟨fp', e', ⟨r'.ext, fun a o q => r'.frm a o (FF a o q), ?_, ?_, ?_, ?_⟩⟩, keep, ⟨st.ext, fun a o q1 q2 => st.ap a o (FF a o q1) q2⟩⟩
  · rw [List.append_assoc]
    refine List.nodup_append.mpr ⟨(List.nodup_append.mp r.nd).1, r'.nd, fun a h b h2 z => ?_⟩
    subst z
    obtain ⟨o, _, h3⟩ := at_ a h
    rw [r'.nF a h2] at h3; cases h3
  · rw [List.append_assoc]; intro a h; rcases List.mem_append.mp h with h | h
    · obtain ⟨o, _, h3⟩ := at_ a h
      exact st.ap a o h3 (r.nI a (List.mem_append_left _ h))
    · exact r'.nI a h
  · rw [List.append_assoc]; intro a h; rcases List.mem_append.mp h with h | h
    · exact r.nF a (List.mem_append_left _ h)
    · have := r'.nF a h
      cases q : F a with
      | none => rfl
      | some o => rw [FF a o q] at this; cases this
  · rw [List.append_assoc]; intro a h; rcases List.mem_append.mp h with h | h
    · rw [keep a h]; exact r.tr a (List.mem_append_left _ h)
    · exact r'.tr a h
/-- the owned things at l stand still from now on -/
def frz (I H : Hp) (l : List Addr) : Hp := fun a => if a ∈ l then H a else I a
theorem Ok.freeze {l : List Addr} (k : Ok K κ I F H σ env (l ++ nfp)) : Ok K κ (frz I H l) F H σ env nfp ∧ Step F I (frz I H l) := by
  obtain ⟨fp, e, r⟩ := k.ex
  rw [List.append_assoc] at r
  have ex : Same I (frz I H l) := fun a o q => by unfold frz; split
                                                  · exact r.ext a o q
                                                  · exact q
  refine ⟨⟨fp, e.mono ex fun _ _ => rfl, ⟨fun a o q => ?_, r.frm, r.sub.nd, fun a h => ?_, r.sub.nF, r.sub.tr⟩⟩, ⟨ex, fun a o q1 q2 => ?_⟩⟩
  · unfold frz at q; split at q
    · exact q
    · exact r.ext a o q
  · have : a ∉ l := fun z => (List.nodup_append.mp r.nd).2.2 a z a h rfl
    unfold frz; rw [if_neg this]; exact r.nI a (List.mem_append_right _ h)
  · have : a ∉ l := fun z => by rw [r.nF a (List.mem_append_left _ z)] at q1; cases q1
    unfold frz; rw [if_neg this]; exact q2
end
end DL

/-! DL2: readings by mirrors -/
namespace DL
open PySem L2
section
variable (K : PySem.W.Frag) (κ : Nat → Addr)
/-- what comes of a result r: R tells of a value b that it stands for a -/
def Post {α β : Type} (R : Hp → Hp → β → α → List Addr → Prop) (W : WX) (I F : Hp) (σ : L2.St) (Q : β → Hp → Prop) : RE α → Prop
  | .ok a env' => ∀ I' H' b nfp, Step F I I' → Ok K κ I' F H' σ env' nfp → R I' H' b a nfp → Q b H'
  | .exc e env' => ∀ I' H' cls dd, Step F I I' → Ok K κ I' F H' σ env' [] → ExR K κ I' e cls dd → W cls dd σ H'
  | .stuck => False
def tG {α β : Type} (R : Hp → Hp → β → α → List Addr → Prop) (W : WX) (f : EM α) : L2.St → Hp → (β → Hp → Prop) → Prop := fun σ H Q =>
  ∃ I F env, Ok K κ I F H σ env [] ∧ Post K κ R W I F σ Q (f env)
def RD : Hp → Hp → V → D → List Addr → Prop := fun I _ v d nfp => Rp K κ I v d ∧ nfp = []
def RS : Hp → Hp → V → SV → List Addr → Prop := fun I H v d nfp => OwS K κ I H v d nfp
def RB : Hp → Hp → Bool → Bool → List Addr → Prop := fun _ _ b d nfp => b = d ∧ nfp = []
def RA : Hp → Hp → List V → List D → List Addr → Prop := fun I _ v d nfp => RpA K κ I v d ∧ nfp = []
abbrev teD (W : WX) (f : EM D) : TE := tG K κ (RD K κ) W f
abbrev teS (W : WX) (f : EM SV) : TE := tG K κ (RS K κ) W f
abbrev ttD (W : WX) (f : EM Bool) : TT := tG K κ RB W f
abbrev taD (W : WX) (f : EM (List D)) : TA := tG K κ (RA K κ) W f
end
section
variable {K : PySem.W.Frag} {κ : Nat → Addr} {I I' F H H' : Hp} {σ : L2.St} {env : Slots} {W : WX}
theorem Post.step {α β : Type} {R : Hp → Hp → β → α → List Addr → Prop} {Q : β → Hp → Prop} {r : RE α} (p : Post K κ R W I F σ Q r) (s : Step F I I') : Post K κ R W I' F σ Q r := by
  cases r with
  | ok a env' => exact fun I2 H2 b nfp s2 o h => p I2 H2 b nfp (s.trans s2) o h
  | exc e env' => exact fun I2 H2 c d s2 o h => p I2 H2 c d (s.trans s2) o h
  | stuck => exact p
theorem Post.mono {α β : Type} {R : Hp → Hp → β → α → List Addr → Prop} {Q Q' : β → Hp → Prop} {r : RE α} (p : Post K κ R W I F σ Q r) (h : ∀ b H, Q b H → Q' b H) : Post K κ R W I F σ Q' r := by
  cases r with
  | ok a env' => exact fun I2 H2 b nfp s2 o x => h _ _ (p I2 H2 b nfp s2 o x)
  | exc e env' => exact p
  | stuck => exact p
/-- one thing, then another (with what the first one was) -/
theorem Post.bindE {α β γ δ : Type} {R : Hp → Hp → β → α → List Addr → Prop} {S : Hp → Hp → δ → γ → List Addr → Prop} {Q : δ → Hp → Prop} {f : EM α} {g : α → EM γ}
    (p : Post K κ S W I F σ Q ((f.bind g) env)) :
    Post K κ R W I F σ (fun b H1 => ∃ I1 env1 a nfp, Step F I I1 ∧ Ok K κ I1 F H1 σ env1 nfp ∧ R I1 H1 b a nfp ∧ f env = .ok a env1 ∧ Post K κ S W I1 F σ Q (g a env1)) (f env) := by
  unfold EM.bind at p
  revert p
  cases f env with
  | ok a env' => exact fun p I2 H2 b nfp s o h => ⟨I2, env', a, nfp, s, o, h, rfl, p.step s⟩
  | exc e env' => exact fun p => p
  | stuck => exact fun p => p
/-- one thing, then another -/
theorem Post.bind {α β γ δ : Type} {R : Hp → Hp → β → α → List Addr → Prop} {S : Hp → Hp → δ → γ → List Addr → Prop} {Q : δ → Hp → Prop} {f : EM α} {g : α → EM γ}
    (p : Post K κ S W I F σ Q ((f.bind g) env)) :
    Post K κ R W I F σ (fun b H1 => ∃ I1 env1 a nfp, Step F I I1 ∧ Ok K κ I1 F H1 σ env1 nfp ∧ R I1 H1 b a nfp ∧ Post K κ S W I1 F σ Q (g a env1)) (f env) := by
  refine Post.mono p.bindE ?_
  rintro b H ⟨I1, env1, a, nfp, s, o, h, _, q⟩
  exact ⟨I1, env1, a, nfp, s, o, h, q⟩
theorem Post.okv {α β : Type} {R : Hp → Hp → β → α → List Addr → Prop} {Q : β → Hp → Prop} {a : α} {b : β} {nfp : List Addr} (p : Post K κ R W I F σ Q (.ok a env)) (s : Step F I I') (o : Ok K κ I' F H' σ env nfp) (h : R I' H' b a nfp) : Q b H' := p I' H' b nfp s o h
theorem Post.lift {α γ δ : Type} {S : Hp → Hp → δ → γ → List Addr → Prop} {Q : δ → Hp → Prop} {o : Option α} {g : α → EM γ}
    (p : Post K κ S W I F σ Q (((DL.lift o).bind g) env)) : ∃ a, o = some a ∧ Post K κ S W I F σ Q (g a env) := by
  cases o with
  | none => exact False.elim p
  | some a => exact ⟨a, rfl, p⟩
theorem Post.lift1 {α δ : Type} {S : Hp → Hp → δ → α → List Addr → Prop} {Q : δ → Hp → Prop} {o : Option α}
    (p : Post K κ S W I F σ Q ((DL.lift o) env)) : ∃ a, o = some a ∧ Post K κ S W I F σ Q (.ok a env) := by
  cases o with
  | none => exact False.elim p
  | some a => exact ⟨a, rfl, p⟩
end
/-- another reading of the same -/
theorem pe_imp {X : Cx} {e : PySem.Expr} {t t' : TE} (h : PE X e t) (i : ∀ σ H Q, t' σ H Q → t σ H Q) : PE X e t' := ⟨fun pins s σ H Q I hw => h.run pins s σ H Q I (i σ H Q hw)⟩
theorem pt_imp {X : Cx} {e : PySem.Expr} {t t' : TT} (h : PT X e t) (i : ∀ σ H Q, t' σ H Q → t σ H Q) : PT X e t' := ⟨fun pins s σ H Q I hw => h.run pins s σ H Q I (i σ H Q hw)⟩
theorem pa_imp {X : Cx} {e : List PySem.Expr} {t t' : TA} (h : PA X e t) (i : ∀ σ H Q, t' σ H Q → t σ H Q) : PA X e t' := ⟨fun pos pins s σ H Q I hw => h.run pos pins s σ H Q I (i σ H Q hw)⟩
theorem ps_imp {X : Cx} {e : PySem.Stmt} {t t' : TS} (h : PS X e t) (i : ∀ D σ H, t' D σ H → t D σ H) : PS X e t' := ⟨fun pins s σ H D I hw => h.run pins s σ H D I (i D σ H hw)⟩
theorem pss_imp {X : Cx} {e : List PySem.Stmt} {t t' : TS} (h : PSs X e t) (i : ∀ D σ H, t' D σ H → t D σ H) : PSs X e t' := ⟨fun pins s σ H D I hw => h.run pins s σ H D I (i D σ H hw)⟩

/-! ### the mirrors' own words -/
def Lf.view : Lf → D
  | .lst ds => .lst ds
  | .dct kvs => .dct kvs
  | .dcT _ => .any
def FV.view : FV → D
  | .dat d => d
  | .own l => l.view
  | .hole => .any
def MO.view : MO → D
  | .lf l => l.view
  | .ins c fs => .obj c (fs.map fun p => (p.1, p.2.view))
  | .rcd kvs => .dct (kvs.map fun p => (p.1, p.2.view))
def SV.view : SV → D
  | .dat d => d
  | .own m => m.view
def viewEnv (env : Slots) : Slots := env.map (Option.map fun x => .dat x.view)
def D.scal : D → Bool
  | .non => true | .bl _ => true | .int _ => true | .str _ => true | _ => false
/-- a name, read: what was owned stands still from then on -/
def eVar (i : Nat) : EM D := fun env => match env[i]? with
  | some (some (.dat d)) => .ok d env
  | some (some (.own m)) => .ok m.view (env.set i (some (.dat m.view)))
  | _ => .stuck
def eC (d : D) : EM D := EM.pure d
/-- a thing asked, that tells one number, text, truth or None: all stays -/
def eQ (f : EM D) : EM D := fun env => match f (viewEnv env) with
  | .ok d _ => if d.scal = true then .ok d env else .stuck
  | _ => .stuck
def bQ (f : EM Bool) : EM Bool := fun env => match f (viewEnv env) with
  | .ok d _ => .ok d env
  | _ => .stuck
def eBin (op : D → D → Option D) (f g : EM D) : EM D := f.bind fun x => g.bind fun y => lift (op x y)
def eUn (op : D → Option D) (f : EM D) : EM D := f.bind fun x => lift (op x)

section
variable {K : PySem.W.Frag} {κ : Nat → Addr} {I I' F H H' : Hp} {σ : L2.St} {env : Slots} {W : WX}
theorem frz_at {I H : Hp} {l : List Addr} {a : Addr} (h : a ∈ l) : frz I H l a = H a := by unfold frz; rw [if_pos h]
theorem OwL.viewed {v : V} {l : Lf} {fp : List Addr} (h : OwL K κ I H v l fp) (s : Same I I') (k : ∀ a ∈ fp, I' a = H a) : Rp K κ I' v l.view := by
  cases h with
  | lst h r => exact .lst ((k _ (by simp)).trans h) (r.mono s)
  | dct h r => exact .dct ((k _ (by simp)).trans h) (r.mono s)
  | dcT h r => exact .any _
theorem OwF.viewed {v : V} {l : FV} {fp : List Addr} (h : OwF K κ I H v l fp) (s : Same I I') (k : ∀ a ∈ fp, I' a = H a) : Rp K κ I' v l.view := by
  cases h with
  | dat r => exact r.mono s
  | own r => exact r.viewed s k
  | hole => exact .any _
theorem OwFs.viewedF (s : Same I I') : ∀ {vs : List (Str × V)} {xs : List (Str × FV)} {fp : List Addr}, OwFs K κ I H vs xs fp → (∀ a ∈ fp, I' a = H a) → RpF K κ I' vs (xs.map fun p => (p.1, p.2.view))
  | _, _, _, .nil, _ => .nil
  | _, _, _, .cons h r, k => .cons (h.viewed s fun a ha => k a (List.mem_append_left _ ha)) (r.viewedF s fun a ha => k a (List.mem_append_right _ ha))
theorem OwFs.viewedK (s : Same I I') : ∀ {vs : List (Key × V)} {xs : List (Key × FV)} {fp : List Addr}, OwFs K κ I H vs xs fp → (∀ a ∈ fp, I' a = H a) → RpK K κ I' vs (xs.map fun p => (p.1, p.2.view))
  | _, _, _, .nil, _ => .nil
  | _, _, _, .cons h r, k => .cons (h.viewed s fun a ha => k a (List.mem_append_left _ ha)) (r.viewedK s fun a ha => k a (List.mem_append_right _ ha))
theorem OwM.viewed {v : V} {l : MO} {fp : List Addr} (h : OwM K κ I H v l fp) (s : Same I I') (k : ∀ a ∈ fp, I' a = H a) : Rp K κ I' v l.view := by
  cases h with
  | lf r => exact r.viewed s k
  | ins h r => exact .obj ((k _ (by simp)).trans h) (r.viewedF s fun a ha => k a (List.mem_cons_of_mem _ ha))
  | rcd h r => exact .dct ((k _ (by simp)).trans h) (r.viewedK s fun a ha => k a (List.mem_cons_of_mem _ ha))
theorem OwS.viewed {v : V} {l : SV} {fp : List Addr} (h : OwS K κ I H v l fp) (s : Same I I') (k : ∀ a ∈ fp, I' a = H a) : Rp K κ I' v l.view := by
  cases h with
  | dat r => exact r.mono s
  | own r => exact r.viewed s k
theorem EnvR.viewed (s : Same I I') : ∀ {σ : List (Option V)} {env : Slots} {fp : List Addr}, EnvR K κ I H σ env fp → (∀ a ∈ fp, I' a = H a) → EnvR K κ I' H σ (viewEnv env) []
  | _, _, _, .nil, _ => .nil
  | _, _, _, .no r, k => .no (r.viewed s k)
  | _, _, _, .so h r, k => by
    have := EnvR.so (H := H) (K := K) (κ := κ) (.dat (h.viewed s fun a ha => k a (List.mem_append_left _ ha))) (r.viewed s fun a ha => k a (List.mem_append_right _ ha))
    simpa [viewEnv] using this
theorem Rp.scal {v : V} {d : D} (h : Rp K κ I v d) (e : d.scal = true) : Rp K κ I' v d := by
  cases h <;> first | exact .non | exact .bl _ | exact .int _ | exact .str _ | cases e
/-- what is told of a view, all standing still, and then let go -/
theorem Ok.view (k : Ok K κ I F H σ env []) : ∃ fp, EnvR K κ I H σ env fp ∧ Rel I F H fp ∧ Ok K κ (frz I H fp) (addF F H fp) H σ (viewEnv env) [] := by
  obtain ⟨fp, e, r⟩ := k.ex
  have ex : Same I (frz I H fp) := fun a o q => by
    unfold frz; split
    · exact r.ext a o q
    · exact q
  refine ⟨fp, e, r, ⟨[], e.viewed ex fun a h => frz_at h, ⟨fun a o q => ?_, fun a o q => ?_, List.nodup_nil, (by simp), (by simp), (by simp)⟩⟩⟩
  · unfold frz at q; split at q
    · exact q
    · exact r.ext a o q
  · unfold addF at q; split at q
    · exact q
    · exact r.frm a o q
theorem Ok.unview {fp : List Addr} {env' : Slots} (e : EnvR K κ I H σ env fp) (r : Rel I F H fp) (s : Step (addF F H fp) (frz I H fp) I') (k : Ok K κ I' (addF F H fp) H' σ env' []) : Ok K κ I F H' σ env [] ∧ ∀ a ∈ fp, H' a = H a := by
  have kp : ∀ a ∈ fp, H' a = H a := fun a h => by
    cases q : H a with
    | none => exact absurd q (r.tr a h)
    | some o => exact k.frm a o (by unfold addF; rw [if_pos h]; exact q)
  have FF : ∀ a o, F a = some o → addF F H fp a = some o := fun a o q => by
    unfold addF; split
    · exact r.frm a o q
    · exact q
  have II : ∀ a o, I a = some o → frz I H fp a = some o := fun a o q => by
    unfold frz; split
    · exact r.ext a o q
    · exact q
  exact ⟨⟨fp, e.mono (Same.refl I) kp, ⟨fun a o q => k.ext a o (s.ext a o (II a o q)), fun a o q => k.frm a o (FF a o q), r.nd, r.nI, r.nF, fun a h => by rw [List.nil_append] at h; rw [kp a h]; exact r.tr a h⟩⟩, kp⟩
end

/-! ### names, constants, what is asked -/
section
variable {X : Cx} {κ : Nat → Addr} {W : WX} {e a b : PySem.Expr} {pos : Pos}
theorem de_var {i : Nat} {x : Str} (hN : X.N[i]? = some x := by rfl) (hv : Vis X.env.scope x := by first | exact Or.inl rfl | exact Or.inr (Or.inl rfl) | exact Or.inr (Or.inr rfl)) (hd : (x == ("__debug__" : Str)) = false := by decide)
    (hcd : (x == ("__classdict__" : Str)) = false := by decide) : PE X (.Name x pos) (teD X.K κ W (eVar i)) := by
  refine pe_imp (pe_var hN hv hd hcd) fun σ H Q h => ?_
  obtain ⟨I, F, env, k, p⟩ := h
  unfold eVar at p
  split at p
  · rename_i d q
    obtain ⟨v, f1, h1, h2, h3⟩ := k.get q
    cases h2 with
    | dat r => exact ⟨v, h1, p I H v [] (Step.refl F I) k ⟨r, rfl⟩⟩
  · rename_i m q
    obtain ⟨v, f1, h1, h2, h3⟩ := k.get q
    cases h2 with
    | own r =>
      obtain ⟨k4, s4⟩ := h3.freeze
      have rv := r.viewed s4.ext fun a h => frz_at h
      have hl : i < env.length := (List.getElem?_eq_some_iff.mp q).1
      have k5 := Ok.put (f1 := []) (nfp := []) k4 (by rw [List.getElem?_set_self hl]) h1 (.dat rv)
      rw [List.set_set] at k5
      exact ⟨v, h1, p _ H v [] s4 k5 ⟨rv, rfl⟩⟩
  · exact p.elim
theorem de_of {te : TE} {d : D} {v : V} (h : PE X e te) (hv : ∀ σ H Q, Q v H → te σ H Q) (r : ∀ I, Rp X.K κ I v d) : PE X e (teD X.K κ W (eC d)) :=
  pe_imp h fun σ H Q h => by
    obtain ⟨I, F, env, k, p⟩ := h
    exact hv _ _ _ (p I H v [] (Step.refl F I) k ⟨r I, rfl⟩)
theorem de_int {i j} : PE X (.Constant (.int i) j pos) (teD X.K κ W (eC (.int i))) := de_of pe_int (fun _ _ _ h => h) fun _ => .int i
theorem de_bl {i j} : PE X (.Constant (.bool i) j pos) (teD X.K κ W (eC (.bl i))) := de_of pe_bl (fun _ _ _ h => h) fun _ => .bl i
theorem de_non {j} : PE X (.Constant .none j pos) (teD X.K κ W (eC .non)) := de_of pe_non (fun _ _ _ h => h) fun _ => .non
theorem de_str {i j} : PE X (.Constant (.str i) j pos) (teD X.K κ W (eC (.str i))) := de_of pe_str (fun _ _ _ h => h) fun _ => .str i
/-- a module's constant: a number, a text -/
theorem de_gint {x : Str} {i : Int} {t : Tok} (hm : X.mg x = some (.int i t)) (hg : Gl X x := by rfl) (hd : (x == ("__debug__" : Str)) = false := by decide) : PE X (.Name x pos) (teD X.K κ W (eC (.int i))) :=
  de_of (pe_glob hg hm (v := .int i) ⟨t, rfl⟩ hd) (fun _ _ _ h => h) fun _ => .int i
theorem de_gstr {x i : Str} {t : Tok} (hm : X.mg x = some (.str i t)) (hg : Gl X x := by rfl) (hd : (x == ("__debug__" : Str)) = false := by decide) : PE X (.Name x pos) (teD X.K κ W (eC (.str i))) :=
  de_of (pe_glob hg hm (v := .str i) ⟨t, rfl⟩ hd) (fun _ _ _ h => h) fun _ => .str i
/-- .. all stays -/
theorem de_q {f : EM D} (h : PE X e (teD X.K κ W f)) : PE X e (teD X.K κ W (eQ f)) := pe_imp h fun σ H Q h => by
  obtain ⟨I, F, env, k, p⟩ := h
  obtain ⟨fp, e, r, kv⟩ := k.view
  refine ⟨_, _, _, kv, ?_⟩
  unfold eQ at p
  revert p
  cases f (viewEnv env) with
  | ok d env' =>
    intro p I' H' v nfp s k' hR
    obtain ⟨hr, rfl⟩ := hR
    by_cases z : d.scal = true
    · simp only [z, if_true] at p
      obtain ⟨k2, _⟩ := Ok.unview e r s k'
      exact p I H' v [] (Step.refl F I) k2 ⟨hr.scal z, rfl⟩
    · simp only [if_neg z] at p
      exact p.elim
  | exc e env' => exact fun p => p.elim
  | stuck => exact fun p => p.elim
theorem dt_q {f : EM Bool} (h : PT X e (ttD X.K κ W f)) : PT X e (ttD X.K κ W (bQ f)) := pt_imp h fun σ H Q h => by
  obtain ⟨I, F, env, k, p⟩ := h
  obtain ⟨fp, e, r, kv⟩ := k.view
  refine ⟨_, _, _, kv, ?_⟩
  unfold bQ at p
  revert p
  cases f (viewEnv env) with
  | ok d env' =>
    intro p I' H' v nfp s k' hR
    obtain ⟨hr, rfl⟩ := hR
    obtain ⟨k2, _⟩ := Ok.unview e r s k'
    exact p I H' v [] (Step.refl F I) k2 ⟨hr, rfl⟩
  | exc e env' => exact fun p => p.elim
  | stuck => exact fun p => p.elim

/-! ### two-place operations -/
/-- f does what op says -/
def OpD (X : Cx) (κ : Nat → Addr) (f : Value → Value → Sem Value) (op : D → D → Option D) : Prop :=
  ∃ r : R2, OpR X f r ∧ ∀ (σ : L2.St) (I F H : Hp) (env : Slots) (x y : V) (dx dy d : D) (Q : VK), Ok X.K κ I F H σ env [] → Rp X.K κ I x dx → Rp X.K κ I y dy → op dx dy = some d →
    (∀ I' H' v, Step F I I' → Ok X.K κ I' F H' σ env [] → Rp X.K κ I' v d → Q v H') → r x y H Q
theorem OpD.or {f : Value → Value → Sem Value} {op op' : D → D → Option D} (h : OpD X κ f op) (h' : OpD X κ f op') : OpD X κ f (fun x y => (op x y).orElse fun _ => op' x y) := by
  obtain ⟨r, h1, h2⟩ := h
  obtain ⟨r', h1', h2'⟩ := h'
  refine ⟨_, OpR.or h1 h1', fun σ I F H env x y dx dy d Q k rx ry e q => ?_⟩
  simp only at e
  cases z : op dx dy with
  | some d' =>
    rw [z] at e
    simp only [Option.orElse] at e
    cases e
    exact .inl (h2 σ I F H env x y dx dy _ Q k rx ry z q)
  | none =>
    rw [z] at e
    simp only [Option.orElse] at e
    exact .inr (h2' σ I F H env x y dx dy _ Q k rx ry e q)
theorem de_binT {f g : EM D} {op : D → D → Option D} {fn : Value → Value → Sem Value} {r : R2}
    (hr : ∀ (σ : L2.St) (I F H : Hp) (env : Slots) (x y : V) (dx dy d : D) (Q : VK), Ok X.K κ I F H σ env [] → Rp X.K κ I x dx → Rp X.K κ I y dy → op dx dy = some d →
    (∀ I' H' v, Step F I I' → Ok X.K κ I' F H' σ env [] → Rp X.K κ I' v d → Q v H') → r x y H Q) : ∀ σ H Q, teD X.K κ W (eBin op f g) σ H Q → tOp r (teD X.K κ W f) (teD X.K κ W g) σ H Q := by
  intro σ H Q h
  obtain ⟨I, F, env, k, p⟩ := h
  refine ⟨I, F, env, k, Post.mono (p.bind (R := RD X.K κ)) ?_⟩
  rintro x H1 ⟨I1, env1, dx, nfp, s1, k1, ⟨rx, rfl⟩, p1⟩
  refine ⟨I1, F, env1, k1, Post.mono (p1.bind (R := RD X.K κ)) ?_⟩
  rintro y H2 ⟨I2, env2, dy, nfp, s2, k2, ⟨ry, rfl⟩, p2⟩
  obtain ⟨d, e, p3⟩ := p2.lift1
  exact hr σ I2 F H2 env2 x y dx dy d Q k2 (rx.mono s2.ext) ry e fun I' H' v s o h => p3 I' H' v [] s o ⟨h, rfl⟩
theorem de_bin {op : PySem.Operator} {f g : EM D} {o : D → D → Option D} (ho : OpD X κ (binaryOp op) o) (ha : PE X a (teD X.K κ W f)) (hb : PE X b (teD X.K κ W g)) : PE X (.BinOp a op b pos) (teD X.K κ W (eBin o f g)) := by
  obtain ⟨r, h1, h2⟩ := ho
  exact pe_imp (pe_op h1 ha hb) (de_binT (fn := binaryOp op) h2)
theorem de_cmp {op : PySem.CmpOp} {f g : EM D} {o : D → D → Option D} (ho : OpD X κ (compareOp op) o) (ha : PE X a (teD X.K κ W f)) (hb : PE X b (teD X.K κ W g)) (hm : behindInMarks op b = false := by first | exact nomark _ | with_unfolding_all rfl | rfl) : PE X (.Compare a [op] [b] pos) (teD X.K κ W (eBin o f g)) := by
  obtain ⟨r, h1, h2⟩ := ho
  exact pe_imp (pe_cmpR h1 ha hb hm) (de_binT (fn := compareOp op) h2)
/-- a value that is a truth, as a test -/
def bVal (f : EM D) : EM Bool := f.bind fun d => lift (match d with | .bl b => some b | _ => none)
theorem dt_cmp {op : PySem.CmpOp} {f g : EM D} {o : D → D → Option D} (ho : OpD X κ (compareOp op) o) (ha : PE X a (teD X.K κ W f)) (hb : PE X b (teD X.K κ W g)) (hm : behindInMarks op b = false := by first | exact nomark _ | with_unfolding_all rfl | rfl) : PT X (.Compare a [op] [b] pos) (ttD X.K κ W (bVal (eBin o f g))) := by
  obtain ⟨r, h1, h2⟩ := ho
  refine pt_imp (pt_cmpR h1 ha hb hm) fun σ H Q h => ?_
  refine de_binT (W := W) (f := f) (g := g) (fn := compareOp op) h2 σ H _ ?_
  obtain ⟨I, F, env, k, p⟩ := h
  refine ⟨I, F, env, k, Post.mono (p.bind (R := RD X.K κ)) ?_⟩
  rintro x H1 ⟨I1, env1, dx, nfp, s1, k1, ⟨rx, rfl⟩, p1⟩
  obtain ⟨d, e, p3⟩ := p1.lift1
  split at e
  · rename_i b' _
    cases e
    cases rx
    exact ⟨_, rfl, p3 I1 H1 _ [] (Step.refl F I1) k1 ⟨rfl, rfl⟩⟩
  · cases e
end
end DL

/-! DL3: operations -/
namespace DL
open PySem L2
mutual
def D.py : D → PyData
  | .non => .none
  | .bl b => .bool b
  | .int i => .int i
  | .str x => .str x
  | .any => .none
  | .tup xs => .tuple (D.pys xs)
  | .lst xs => .list (D.pys xs)
  | .scr _ => .none
  | .dct _ => .none
  | .obj _ _ => .none
def D.pys : List D → List PyData
  | [] => []
  | x :: r => D.py x :: D.pys r
end
mutual
def D.pyOk : D → Bool
  | .non => true
  | .bl _ => true
  | .int _ => true
  | .str _ => true
  | .any => false
  | .tup xs => D.pyOks xs
  | .lst xs => D.pyOks xs
  | .scr _ => false
  | .dct _ => false
  | .obj _ _ => false
def D.pyOks : List D → Bool
  | [] => true
  | x :: r => D.pyOk x && D.pyOks r
end
section
variable {K : PySem.W.Frag} {κ : Nat → Addr} {I H : Hp}
mutual
theorem Rp.dp (e : Same I H) : ∀ {v : V} {d : D}, Rp K κ I v d → d.pyOk = true → Dp K H v d.py
  | _, _, .non, _ => by simp only [D.py]; exact .non
  | _, _, .bl b, _ => by simp only [D.py]; exact .bl b
  | _, _, .int i, _ => by simp only [D.py]; exact .int i
  | _, _, .str x, _ => by simp only [D.py]; exact .str x
  | _, _, .any x, h => by simp [D.pyOk] at h
  | _, _, .tup h r, q => by simp only [D.py]; exact .tup (SqT.of (e _ _ h)) (RpA.dp e r (by simpa [D.pyOk] using q))
  | _, _, .lst h r, q => by simp only [D.py]; exact .lst (SqL.of (e _ _ h)) (RpA.dp e r (by simpa [D.pyOk] using q))
  | _, _, .scr h, q => by simp [D.pyOk] at q
  | _, _, .dct h r, q => by simp [D.pyOk] at q
  | _, _, .obj h r, q => by simp [D.pyOk] at q
theorem RpA.dp (e : Same I H) : ∀ {v : List V} {d : List D}, RpA K κ I v d → D.pyOks d = true → DpAll K H v (D.pys d)
  | _, _, .nil, _ => by simp only [D.pys]; exact .nil
  | _, _, .cons h r, q => by
    simp only [D.pyOks, Bool.and_eq_true] at q
    simp only [D.pys]
    exact .cons (Rp.dp e h q.1) (RpA.dp e r q.2)
end
end
def opAdd : D → D → Option D
  | .int i, .int j => some (.int (i + j))
  | .str x, .str y => if x.length + y.length ≤ sizeLine then some (.str (x ++ y)) else none
  | .lst x, .lst y => if x.length + y.length ≤ sizeLine then some (.lst (x ++ y)) else none
  | .tup x, .tup y => if x.length + y.length ≤ sizeLine then some (.tup (x ++ y)) else none
  | _, _ => none
def opSub : D → D → Option D
  | .int i, .int j => some (.int (i - j))
  | _, _ => none
def mulOk (i j : Int) : Bool := decide (i.natAbs < 2 ^ 64) || decide (j.natAbs < 2 ^ 64) || decide (i.natAbs.log2 + j.natAbs.log2 < 1000000)
def opMul : D → D → Option D
  | .int i, .int j => if mulOk i j then some (.int (i * j)) else none
  | .lst x, .int k => if k < 2 ^ 63 ∧ 0 ≤ k ∧ x.length * k.toNat ≤ sizeLine then some (.lst (List.replicate k.toNat x).flatten) else none
  | .str x, .int k => if 0 ≤ k ∧ k < 2 ^ 24 ∧ x.length = 1 then some (.str ⟨(List.replicate k.toNat x.cps).foldl (· ++ ·) #[]⟩) else none
  | _, _ => none
def opFdiv : D → D → Option D
  | .int i, .int j => if 0 < j ∧ j.natAbs.log2 < 9000 then some (.int (i / j)) else if j < 0 ∧ j.natAbs.log2 < 9000 then some (.int ((-i) / (-j))) else none
  | _, _ => none
def opMod : D → D → Option D
  | .int i, .int j => if 0 < j then some (.int (i % j)) else none
  | _, _ => none
def opPow : D → D → Option D
  | .int i, .int j => if 0 ≤ j ∧ j ≤ 1000000 ∧ i.natAbs < 2 ^ 64 then some (.int (i ^ j.toNat)) else none
  | _, _ => none
def opCmp (p : Int → Int → Bool) : D → D → Option D
  | .int i, .int j => some (.bl (p i j))
  | _, _ => none
def opLt := opCmp fun i j => decide (i < j)
def opLe := opCmp fun i j => decide (i ≤ j)
def opGt := opCmp fun i j => decide (j < i)
def opGe := opCmp fun i j => decide (j ≤ i)
def eqOk (x y : D) : Bool := x.pyOk && y.pyOk && SeqAt.shaped x.py && SeqAt.shaped y.py
def opEq (x y : D) : Option D := if eqOk x y then some (.bl (PyData.eqv x.py y.py)) else none
def opNe (x y : D) : Option D := if eqOk x y then some (.bl (!PyData.eqv x.py y.py)) else none
/-- is None -/
def opIsN (x y : D) : Option D := match y, x with
  | .non, .any => none
  | .non, .non => some (.bl true)
  | .non, _ => some (.bl false)
  | _, _ => none
def opNotN (x y : D) : Option D := match y, x with
  | .non, .any => none
  | .non, .non => some (.bl false)
  | .non, _ => some (.bl true)
  | _, _ => none
def keyOf : D → Option Key
  | .int i => some (.inl i)
  | .str x => some (.inr x)
  | _ => none
/-- x in y -/
def opIn (x y : D) : Option D := match y with
  | .lst ds => if eqOk x (.lst ds) then some (.bl (ds.any fun z => PyData.eqv z.py x.py)) else none
  | .tup ds => match x with
    | .str s => if ds.all (fun d => match d with | .str _ => true | _ => false) then some (.bl (ds.any fun z => PyData.eqv z.py (.str s))) else none
    | .int s => if ds.all (fun d => match d with | .int _ => true | _ => false) then some (.bl (ds.any fun z => PyData.eqv z.py (.int s))) else none
    | _ => none
  | .dct kvs => (keyOf x).map fun k => .bl (getK kvs k).isSome
  | .str t => match x with
    | .str ⟨#[c]⟩ => some (.bl (decide (c ∈ t.cps.toList)))
    | _ => none
  | _ => none
def dNot : D → Option D
  | .bl b => some (.bl (!b))
  | _ => none
def opNotIn (x y : D) : Option D := (opIn x y).bind dNot
def unNeg : D → Option D
  | .int i => some (.int (-i))
  | _ => none
end DL

namespace DL
open PySem L2
section
variable {X : Cx} {κ : Nat → Addr}
/-- the end of a rule: nothing new -/
theorem q0 {I F H : Hp} {σ : L2.St} {env : Slots} {v : V} {d : D} {Q : VK} (k : Ok X.K κ I F H σ env []) (q : ∀ I' H' v, Step F I I' → Ok X.K κ I' F H' σ env [] → Rp X.K κ I' v d → Q v H') (r : Rp X.K κ I v d) : Q v H := q I H v (Step.refl F I) k r
/-- .. a new thing -/
theorem q1 {I F H : Hp} {σ : L2.St} {env : Slots} {d : D} {Q : VK} {o : HO} (k : Ok X.K κ I F H σ env []) (q : ∀ I' H' v, Step F I I' → Ok X.K κ I' F H' σ env [] → Rp X.K κ I' v d → Q v H')
    (r : ∀ p I', Same I I' → I' p = some o → Rp X.K κ I' (.ref p) d) : ∀ p, H p = none → Q (.ref p) (upd H p o) := fun p hp => by
  obtain ⟨k1, s1, e1⟩ := k.newI (o := o) hp
  exact q _ _ _ s1 k1 (r p _ s1.ext e1)
theorem od_add : OpD X κ (binaryOp .Add) opAdd := by
  refine ⟨_, OpR.or op_add (OpR.or op_add_str (OpR.or op_cat op_catA)), fun σ I F H env x y dx dy d Q k rx ry e q => ?_⟩
  cases rx <;> cases ry <;> simp only [opAdd] at e <;> try (cases e)
  · exact .inl ⟨_, _, rfl, rfl, q0 k q (.int _)⟩
  · split at e
    · rename_i h
      cases e
      exact .inr (.inl ⟨_, _, rfl, rfl, h, q0 k q (.str _)⟩)
    · cases e
  · rename_i h1 r1 _ _ _ h2 r2
    split at e
    · rename_i h
      cases e
      refine .inr (.inr (.inr ⟨_, _, _, _, rfl, rfl, SqT.of (k.ext _ _ h1), SqT.of (k.ext _ _ h2), ?_, ?_, ?_, ?_⟩))
      · rw [r1.length, r2.length]; exact h
      · intro z
        subst z
        cases r1
        exact q0 k q (.tup h2 r2)
      · intro _ z
        subst z
        cases r2
        exact q0 k q (by rw [List.append_nil]; exact .tup h1 r1)
      · intro _ _; exact q1 k q fun p I' s e => .tup e ((r1.append r2).mono s)
    · cases e
  · rename_i h1 r1 _ _ _ h2 r2
    split at e
    · rename_i h
      cases e
      refine .inr (.inr (.inl ⟨_, _, _, _, rfl, rfl, k.ext _ _ h1, k.ext _ _ h2, ?_, ?_⟩))
      · rw [r1.length, r2.length]; exact h
      · exact q1 k q fun p I' s e => .lst e ((r1.append r2).mono s)
    · cases e
theorem od_sub : OpD X κ (binaryOp .Sub) opSub := by
  refine ⟨_, op_sub, fun σ I F H env x y dx dy d Q k rx ry e q => ?_⟩
  cases rx <;> cases ry <;> simp only [opSub] at e <;> cases e
  exact ⟨_, _, rfl, rfl, q0 k q (.int _)⟩
/-- a text of one sign, so often -/
theorem op_rep_str : OpR X (binaryOp .Mult) (fun x y H Q => ∃ z k, x = .str z ∧ y = .int k ∧ 0 ≤ k ∧ k < 2 ^ 24 ∧ z.length = 1 ∧ Q (.str ⟨(List.replicate k.toNat z.cps).foldl (· ++ ·) #[]⟩) H) := by
  intro pins s σ H x y v u Q I rx ry h
  obtain ⟨z, k, rfl, rfl, h0, h1, hz, q⟩ := h
  obtain ⟨t, rfl⟩ := rx
  obtain ⟨t', rfl⟩ := ry
  have e24 : (2 : Int) ^ 24 = 16777216 := by decide
  have e63 : (2 : Int) ^ 63 = 9223372036854775808 := by decide
  rw [e24] at h1
  have hn : ¬ k < -(2 ^ 63 : Int) := by rw [e63]; omega
  have hn2 : ¬ k ≥ 2 ^ 63 := by rw [e63]; omega
  refine PySem.P.mul_str (by rw [decide_eq_false hn, decide_eq_false hn2]; rfl) (fun h2 _ => ?_) (fun h2 _ => ?_) ?_
  · rw [hz, e63]
    have : (1 : Int) ≤ (9223372036854775808 - 1) / k := by
      rw [Int.le_ediv_iff_mul_le (by omega)]; omega
    have e : ((1 : Nat) : Int) = 1 := rfl
    omega
  · rw [hz, Nat.one_mul]
    unfold Builtin.Str.tooLong
    have : k.toNat ≤ sizeLine := by rw [PySem.sizeLine_eq]; omega
    rw [decide_eq_false (by omega)]
  · have e1 : (z.cps).size = 1 := hz
    by_cases c1 : k < 1
    · rw [if_pos c1]
      have k0 : k = 0 := by omega
      subst k0
      refine ⟨?_, .str _, H, I.tok _, ⟨_, rfl⟩, ?_⟩
      · show Str.empty.length ≤ sizeLine
        decide
      · exact q
    · rw [if_neg c1]
      by_cases c2 : (k == 1 || z.length == 0) = true
      · rw [if_pos c2]
        have k1 : k = 1 := by
          rw [Bool.or_eq_true] at c2
          rcases c2 with c2 | c2
          · simpa using c2
          · rw [hz] at c2; cases c2
        subst k1
        refine ⟨.str z, H, I, ⟨t, rfl⟩, ?_⟩
        have e : (⟨(List.replicate (1 : Int).toNat z.cps).foldl (· ++ ·) #[]⟩ : Str) = z := by
          show (⟨#[] ++ z.cps⟩ : Str) = z
          rw [Array.empty_append]
        rw [e] at q
        exact q
      · rw [if_neg c2]
        refine ⟨?_, .str _, H, I.tok _, ⟨_, rfl⟩, q⟩
        have lenF : ∀ (n : Nat) (acc : Array Nat), ((List.replicate n z.cps).foldl (· ++ ·) acc).size = acc.size + n * z.cps.size := fun n => by
          induction n with
          | zero => intro acc; simp
          | succ n ih => intro acc; rw [List.replicate_succ, List.foldl_cons, ih, Array.size_append, Nat.succ_mul]; omega
        show ((List.replicate k.toNat z.cps).foldl (· ++ ·) #[]).size ≤ sizeLine
        rw [lenF, e1, PySem.sizeLine_eq, Array.size_empty]
        omega
theorem od_mul : OpD X κ (binaryOp .Mult) opMul := by
  refine ⟨_, OpR.or op_mul (OpR.or op_mulW (OpR.or op_rep op_rep_str)), fun σ I F H env x y dx dy d Q k rx ry e q => ?_⟩
  cases rx <;> cases ry <;> simp only [opMul] at e <;> try (cases e)
  · rename_i i j
    split at e
    · rename_i h
      cases e
      unfold mulOk at h
      rw [Bool.or_eq_true, Bool.or_eq_true] at h
      rcases h with (h | h) | h
      · exact .inl ⟨_, _, rfl, rfl, .inl (by have := of_decide_eq_true h; have e : (2 : Int) ^ 64 = 18446744073709551616 := by decide
                                             have e' : (2 : Nat) ^ 64 = 18446744073709551616 := by decide
                                             rw [e' ] at this; rw [e]; omega), q0 k q (.int _)⟩
      · exact .inl ⟨_, _, rfl, rfl, .inr (by have := of_decide_eq_true h; have e : (2 : Int) ^ 64 = 18446744073709551616 := by decide
                                             have e' : (2 : Nat) ^ 64 = 18446744073709551616 := by decide
                                             rw [e' ] at this; rw [e]; omega), q0 k q (.int _)⟩
      · exact .inr (.inl ⟨_, _, rfl, rfl, by unfold CMulW; exact of_decide_eq_true h, q0 k q (.int _)⟩)
    · cases e
  · split at e
    · rename_i h
      cases e
      exact .inr (.inr (.inr ⟨_, _, rfl, rfl, h.1, h.2.1, h.2.2, q0 k q (.str _)⟩))
    · cases e
  · rename_i h1 r1 _
    split at e
    · rename_i h
      cases e
      have e63 : (2 : Int) ^ 63 = 9223372036854775808 := by decide
      refine .inr (.inr (.inl ⟨_, _, _, rfl, rfl, k.ext _ _ h1, ?_, h.1, ?_, ?_⟩))
      · have := h.2.1
        rw [e63]; omega
      · rw [r1.length]; exact h.2.2
      · exact q1 k q fun p I' s e => .lst e ((r1.rep _).mono s)
    · cases e
theorem op_fdivM : OpR X (binaryOp .FloorDiv) (rI (fun _ j => j < 0 ∧ j.natAbs.log2 < 9000) fun i j => .int ((-i) / (-j))) := opI fun i j _ _ _ _ _ hc q => by
  have h1 : j < 0 := hc.1
  exact PyProof.Rows.floordiv_int (by omega) (by rw [← Int.neg_fdiv_neg, Int.fdiv_eq_ediv_of_nonneg (-i) (by omega)]; exact q) (.inl (PyProof.noPylong_of_log2 hc.2))
theorem od_fdiv : OpD X κ (binaryOp .FloorDiv) opFdiv := by
  refine ⟨_, OpR.or op_fdivW op_fdivM, fun σ I F H env x y dx dy d Q k rx ry e q => ?_⟩
  cases rx <;> cases ry <;> simp only [opFdiv] at e <;> try (cases e)
  split at e
  · rename_i h
    cases e
    exact .inl ⟨_, _, rfl, rfl, h, q0 k q (.int _)⟩
  · split at e
    · rename_i h
      cases e
      exact .inr ⟨_, _, rfl, rfl, h, q0 k q (.int _)⟩
    · cases e
theorem od_mod : OpD X κ (binaryOp .Mod) opMod := by
  refine ⟨_, op_mod, fun σ I F H env x y dx dy d Q k rx ry e q => ?_⟩
  cases rx <;> cases ry <;> simp only [opMod] at e <;> try (cases e)
  split at e
  · rename_i h
    cases e
    exact ⟨_, _, rfl, rfl, h, q0 k q (.int _)⟩
  · cases e
theorem od_pow : OpD X κ (binaryOp .Pow) opPow := by
  refine ⟨_, op_pow, fun σ I F H env x y dx dy d Q k rx ry e q => ?_⟩
  cases rx <;> cases ry <;> simp only [opPow] at e <;> try (cases e)
  split at e
  · rename_i h
    cases e
    exact ⟨_, _, rfl, rfl, h, q0 k q (.int _)⟩
  · cases e
theorem od_cmp {f : Value → Value → Sem Value} {p : Int → Int → Bool} (h : OpR X f (rI0 fun i j => .bl (p i j))) : OpD X κ f (opCmp p) := by
  refine ⟨_, h, fun σ I F H env x y dx dy d Q k rx ry e q => ?_⟩
  cases rx <;> cases ry <;> simp only [opCmp] at e <;> cases e
  exact ⟨_, _, rfl, rfl, q0 k q (.bl _)⟩
theorem od_lt : OpD X κ (compareOp .Lt) opLt := od_cmp op_lt
theorem od_le : OpD X κ (compareOp .LtE) opLe := od_cmp op_le
theorem od_gt : OpD X κ (compareOp .Gt) opGt := od_cmp op_gt
theorem od_ge : OpD X κ (compareOp .GtE) opGe := od_cmp op_ge
theorem od_eq (hu : X.A.units + 64 < cLine) : OpD X κ (compareOp .Eq) opEq := by
  refine ⟨_, op_eqD hu, fun σ I F H env x y dx dy d Q k rx ry e q => ?_⟩
  unfold opEq at e
  split at e
  · rename_i h
    cases e
    unfold eqOk at h
    simp only [Bool.and_eq_true] at h
    exact ⟨_, _, rx.dp k.ext h.1.1.1, ry.dp k.ext h.1.1.2, h.1.2, h.2, q0 k q (.bl _)⟩
  · cases e
theorem od_ne (hu : X.A.units + 64 < cLine) : OpD X κ (compareOp .NotEq) opNe := by
  refine ⟨_, op_neD hu, fun σ I F H env x y dx dy d Q k rx ry e q => ?_⟩
  unfold opNe at e
  split at e
  · rename_i h
    cases e
    unfold eqOk at h
    simp only [Bool.and_eq_true] at h
    exact ⟨_, _, rx.dp k.ext h.1.1.1, ry.dp k.ext h.1.1.2, h.1.2, h.2, q0 k q (.bl _)⟩
  · cases e
theorem od_isN : OpD X κ (compareOp .Is) opIsN := by
  refine ⟨_, op_isN, fun σ I F H env x y dx dy d Q k rx ry e q => ?_⟩
  cases ry <;> simp only [opIsN] at e <;> try (cases e)
  cases rx <;> simp only [opIsN] at e <;> cases e <;> exact ⟨rfl, q0 k q (.bl _)⟩
theorem od_notN : OpD X κ (compareOp .IsNot) opNotN := by
  refine ⟨_, op_notN, fun σ I F H env x y dx dy d Q k rx ry e q => ?_⟩
  cases ry <;> simp only [opNotN] at e <;> try (cases e)
  cases rx <;> simp only [opNotN] at e <;> cases e <;> exact ⟨rfl, q0 k q (.bl _)⟩
end
end DL

/-! DL4: tests, displays, subscripts, attributes, calls of what is built in -/
namespace DL
open PySem L2
/-! ### words of the mirrors -/
def bAnd (f g : EM Bool) : EM Bool := f.bind fun c => if c = true then g else EM.pure false
def bOr (f g : EM Bool) : EM Bool := f.bind fun c => if c = true then EM.pure true else g
def bNot (f : EM Bool) : EM Bool := f.bind fun c => EM.pure (!c)
def dB : D → Option Bool
  | .bl b => some b
  | _ => none
def eB (f : EM Bool) : EM D := f.bind fun c => EM.pure (.bl c)
def eIf (c : EM Bool) (f g : EM D) : EM D := c.bind fun b => if b = true then f else g
def eAndV (f g : EM D) : EM D := f.bind fun x => (lift (dB x)).bind fun c => if c = true then g else EM.pure (.bl false)
def eOrV (f g : EM D) : EM D := f.bind fun x => (lift (dB x)).bind fun c => if c = true then EM.pure (.bl true) else g
def aNil : EM (List D) := EM.pure []
def aCons (f : EM D) (g : EM (List D)) : EM (List D) := f.bind fun d => g.bind fun ds => EM.pure (d :: ds)
def tupOf (ds : List D) : Option D := if ds.length ≤ sizeLine then some (.tup ds) else none
def lstOf (ds : List D) : Option D := if ds.length ≤ sizeLine then some (.lst ds) else none
def eTup (g : EM (List D)) : EM D := g.bind fun ds => lift (tupOf ds)
def eLst (g : EM (List D)) : EM D := g.bind fun ds => lift (lstOf ds)
def sLst (g : EM (List D)) : EM SV := g.bind fun ds => lift (if ds.length ≤ sizeLine then some (.own (.lf (.lst ds))) else none)
def sDat (f : EM D) : EM SV := f.bind fun d => EM.pure (.dat d)
def sDctN : EM SV := EM.pure (.own (.lf (.dct [])))
def sDctT : EM SV := EM.pure (.own (.lf (.dcT [])))
def opIx : D → D → Option D
  | .lst ds, .int i => atI ds i
  | .tup ds, .int i => atI ds i
  | .scr ns, .int i => (atI ns i).map D.int
  | .str s, .int i => if s.length ≤ sizeLine then (atI s.cps.toList i).map fun c => .str ⟨#[c]⟩ else none
  | _, _ => none
def opGet : D → D → Option D
  | .dct kvs, k => (keyOf k).bind fun k => getK kvs k
  | _, _ => none
def cutD (xs : List D) (lo hi : Option Int) : List D := (xs.drop (HT.sIx xs.length 0 lo)).take (HT.sIx xs.length xs.length hi - HT.sIx xs.length 0 lo)
def cutI (xs : List Int) (lo hi : Option Int) : List Int := (xs.drop (HT.sIx xs.length 0 lo)).take (HT.sIx xs.length xs.length hi - HT.sIx xs.length 0 lo)
def opSl : D → Option Int → Option Int → Option D
  | .lst ds, lo, hi => some (.lst (cutD ds lo hi))
  | .tup ds, lo, hi => some (.tup (cutD ds lo hi))
  | .scr ns, lo, hi => some (.lst ((cutI ns lo hi).map D.int))
  | .str s, lo, hi => if s.length ≤ sizeLine then some (.str (cutS s lo hi)) else none
  | _, _, _ => none
def oNo : EM (Option Int) := EM.pure none
def dI : D → Option Int
  | .int i => some i
  | _ => none
def oYes (f : EM D) : EM (Option Int) := f.bind fun d => lift ((dI d).map some)
def eSl (f : EM D) (lo hi : EM (Option Int)) : EM D := f.bind fun d => lo.bind fun l => hi.bind fun h => lift (opSl d l h)
def opFld (c : Nat) (f : Str) : D → Option D
  | .obj c' gs => if c' = c then gs.lookup f else none
  | _ => none
def eCallB (op : List D → Option D) (g : EM (List D)) : EM D := g.bind fun ds => lift (op ds)
section
variable {X : Cx} {κ : Nat → Addr} {W : WX} {e a b : PySem.Expr} {pos : Pos} {es rest : List PySem.Expr}
/-! ### tests -/
theorem dw_and1 {f : EM Bool} (ha : PT X a (ttD X.K κ W f)) : PW X (.BoolOp .And [a] pos) (ttD X.K κ W f) := pw_and1 ha
theorem dw_or1 {f : EM Bool} (ha : PT X a (ttD X.K κ W f)) : PW X (.BoolOp .Or [a] pos) (ttD X.K κ W f) := pw_or1 ha
theorem pw_imp {e : PySem.Expr} {t t' : TT} (h : PW X e t) (i : ∀ σ H Q, t' σ H Q → t σ H Q) : PW X e t' := ⟨fun wh pins s σ H Q I hw => h.run wh pins s σ H Q I (i σ H Q hw)⟩
theorem dw_and {f g : EM Bool} (ha : PT X a (ttD X.K κ W f)) (hb : PW X (.BoolOp .And (b :: rest) pos) (ttD X.K κ W g)) : PW X (.BoolOp .And (a :: b :: rest) pos) (ttD X.K κ W (bAnd f g)) := by
  refine pw_imp (pw_and ha hb) fun σ H Q h => ?_
  obtain ⟨I, F, env, k, p⟩ := h
  refine ⟨I, F, env, k, Post.mono (p.bind (R := RB)) ?_⟩
  rintro c H1 ⟨I1, env1, c', nfp, s1, k1, ⟨rfl, rfl⟩, p1⟩
  cases c with
  | true => exact ⟨I1, F, env1, k1, p1⟩
  | false => exact p1 I1 H1 _ [] (Step.refl F I1) k1 ⟨rfl, rfl⟩
theorem dw_or {f g : EM Bool} (ha : PT X a (ttD X.K κ W f)) (hb : PW X (.BoolOp .Or (b :: rest) pos) (ttD X.K κ W g)) : PW X (.BoolOp .Or (a :: b :: rest) pos) (ttD X.K κ W (bOr f g)) := by
  refine pw_imp (pw_or ha hb) fun σ H Q h => ?_
  obtain ⟨I, F, env, k, p⟩ := h
  refine ⟨I, F, env, k, Post.mono (p.bind (R := RB)) ?_⟩
  rintro c H1 ⟨I1, env1, c', nfp, s1, k1, ⟨rfl, rfl⟩, p1⟩
  cases c with
  | false => exact ⟨I1, F, env1, k1, p1⟩
  | true => exact p1 I1 H1 _ [] (Step.refl F I1) k1 ⟨rfl, rfl⟩
theorem dt_w {f : EM Bool} (h : PW X e (ttD X.K κ W f)) : PT X e (ttD X.K κ W f) := h.pt
theorem dt_not {f : EM Bool} (ha : PT X a (ttD X.K κ W f)) : PT X (.UnaryOp .Not a pos) (ttD X.K κ W (bNot f)) := by
  refine pt_imp (pt_not ha) fun σ H Q h => ?_
  obtain ⟨I, F, env, k, p⟩ := h
  refine ⟨I, F, env, k, Post.mono (p.bind (R := RB)) ?_⟩
  rintro c H1 ⟨I1, env1, c', nfp, s1, k1, ⟨rfl, rfl⟩, p1⟩
  exact p1 I1 H1 _ [] (Step.refl F I1) k1 ⟨rfl, rfl⟩
/-- a value that is True or False, as a test -/
theorem dt_val {f : EM D} (h : PE X e (teD X.K κ W f)) (he : ∀ whole, isTrue e X.env whole = (do let v ← whole; standAt e.pos; holding [v] (truthy v)) := by intro _; rfl) : PT X e (ttD X.K κ W (bVal f)) := by
  refine pt_imp (pt_val h he) fun σ H Q h => ?_
  obtain ⟨I, F, env, k, p⟩ := h
  refine ⟨I, F, env, k, Post.mono (p.bind (R := RD X.K κ)) ?_⟩
  rintro x H1 ⟨I1, env1, dx, nfp, s1, k1, ⟨rx, rfl⟩, p1⟩
  obtain ⟨d, e, p3⟩ := p1.lift1
  split at e
  · cases e
    cases rx
    exact ⟨_, rfl, p3 I1 H1 _ [] (Step.refl F I1) k1 ⟨rfl, rfl⟩⟩
  · cases e
theorem de_not {f : EM D} (ha : PE X a (teD X.K κ W f)) : PE X (.UnaryOp .Not a pos) (teD X.K κ W (eUn dNot f)) := by
  refine pe_imp (pe_not ha) fun σ H Q h => ?_
  obtain ⟨I, F, env, k, p⟩ := h
  refine ⟨I, F, env, k, Post.mono (p.bind (R := RD X.K κ)) ?_⟩
  rintro x H1 ⟨I1, env1, dx, nfp, s1, k1, ⟨rx, rfl⟩, p1⟩
  obtain ⟨d, e, p3⟩ := p1.lift1
  cases dx <;> simp only [dNot] at e <;> cases e
  cases rx
  exact ⟨_, rfl, p3 I1 H1 _ [] (Step.refl F I1) k1 ⟨.bl _, rfl⟩⟩
theorem de_neg {f : EM D} (ha : PE X a (teD X.K κ W f)) : PE X (.UnaryOp .USub a pos) (teD X.K κ W (eUn unNeg f)) := by
  refine pe_imp (pe_un un_neg ha) fun σ H Q h => ?_
  obtain ⟨I, F, env, k, p⟩ := h
  refine ⟨I, F, env, k, Post.mono (p.bind (R := RD X.K κ)) ?_⟩
  rintro x H1 ⟨I1, env1, dx, nfp, s1, k1, ⟨rx, rfl⟩, p1⟩
  obtain ⟨d, e, p3⟩ := p1.lift1
  cases dx <;> simp only [unNeg] at e <;> cases e
  cases rx
  exact ⟨_, rfl, p3 I1 H1 _ [] (Step.refl F I1) k1 ⟨.int _, rfl⟩⟩
theorem de_one {op} {f : EM D} (h : PE X a (teD X.K κ W f)) : PE X (.BoolOp op [a] pos) (teD X.K κ W f) := pe_one h
theorem dB_some {d : D} {c : Bool} (h : dB d = some c) : d = .bl c := by cases d <;> simp [dB] at h; rw [h]
theorem de_and {f g : EM D} (ha : PE X a (teD X.K κ W f)) (hb : PE X (.BoolOp .And (b :: rest) pos) (teD X.K κ W g)) : PE X (.BoolOp .And (a :: b :: rest) pos) (teD X.K κ W (eAndV f g)) := by
  refine pe_imp (pe_and ha hb) fun σ H Q h => ?_
  obtain ⟨I, F, env, k, p⟩ := h
  refine ⟨I, F, env, k, Post.mono (p.bind (R := RD X.K κ)) ?_⟩
  rintro x H1 ⟨I1, env1, dx, nfp, s1, k1, ⟨rx, rfl⟩, p1⟩
  obtain ⟨c, e, p3⟩ := p1.lift
  have e' := dB_some e
  subst e'
  cases rx
  refine ⟨c, rfl, ?_⟩
  cases c with
  | true => exact ⟨I1, F, env1, k1, p3⟩
  | false => exact p3 I1 H1 _ [] (Step.refl F I1) k1 ⟨.bl _, rfl⟩
theorem de_or {f g : EM D} (ha : PE X a (teD X.K κ W f)) (hb : PE X (.BoolOp .Or (b :: rest) pos) (teD X.K κ W g)) : PE X (.BoolOp .Or (a :: b :: rest) pos) (teD X.K κ W (eOrV f g)) := by
  refine pe_imp (pe_or ha hb) fun σ H Q h => ?_
  obtain ⟨I, F, env, k, p⟩ := h
  refine ⟨I, F, env, k, Post.mono (p.bind (R := RD X.K κ)) ?_⟩
  rintro x H1 ⟨I1, env1, dx, nfp, s1, k1, ⟨rx, rfl⟩, p1⟩
  obtain ⟨c, e, p3⟩ := p1.lift
  have e' := dB_some e
  subst e'
  cases rx
  refine ⟨c, rfl, ?_⟩
  cases c with
  | false => exact ⟨I1, F, env1, k1, p3⟩
  | true => exact p3 I1 H1 _ [] (Step.refl F I1) k1 ⟨.bl _, rfl⟩
theorem de_if {c : PySem.Expr} {t : EM Bool} {f g : EM D} (hc : PT X c (ttD X.K κ W t)) (ha : PE X a (teD X.K κ W f)) (hb : PE X b (teD X.K κ W g)) : PE X (.IfExp c a b pos) (teD X.K κ W (eIf t f g)) := by
  refine pe_imp (pe_ifExp hc ha hb) fun σ H Q h => ?_
  obtain ⟨I, F, env, k, p⟩ := h
  refine ⟨I, F, env, k, Post.mono (p.bind (R := RB)) ?_⟩
  rintro x H1 ⟨I1, env1, dx, nfp, s1, k1, ⟨rfl, rfl⟩, p1⟩
  cases x with
  | true => exact ⟨I1, F, env1, k1, p1⟩
  | false => exact ⟨I1, F, env1, k1, p1⟩
/-! ### displays -/
theorem da_nil : PA X [] (taD X.K κ W aNil) := pa_imp pa_nil fun σ H Q h => by
  obtain ⟨I, F, env, k, p⟩ := h
  exact p I H _ [] (Step.refl F I) k ⟨.nil, rfl⟩
theorem da_cons {f : EM D} {g : EM (List D)} (ha : PE X e (teD X.K κ W f)) (hr : PA X es (taD X.K κ W g)) (hs : starEach (e :: es) X.env = (false, eval e X.env) :: starEach es X.env := by rfl) : PA X (e :: es) (taD X.K κ W (aCons f g)) :=
  pa_imp (pa_cons ha hr hs) fun σ H Q h => by
    obtain ⟨I, F, env, k, p⟩ := h
    refine ⟨I, F, env, k, Post.mono (p.bind (R := RD X.K κ)) ?_⟩
    rintro x H1 ⟨I1, env1, dx, nfp, s1, k1, ⟨rx, rfl⟩, p1⟩
    refine ⟨I1, F, env1, k1, Post.mono (p1.bind (R := RA X.K κ)) ?_⟩
    rintro xs H2 ⟨I2, env2, ds, nfp, s2, k2, ⟨rs, rfl⟩, p2⟩
    exact p2 I2 H2 _ [] (Step.refl F I2) k2 ⟨.cons (rx.mono s2.ext) rs, rfl⟩
theorem de_tup {x1} {g : EM (List D)} (h : PA X es (taD X.K κ W g)) : PE X (.Tuple es x1 pos) (teD X.K κ W (eTup g)) := by
  refine pe_imp (pe_tup h) fun σ H Q h => ?_
  obtain ⟨I, F, env, k, p⟩ := h
  refine ⟨I, F, env, k, Post.mono (p.bind (R := RA X.K κ)) ?_⟩
  rintro xs H1 ⟨I1, env1, ds, nfp, s1, k1, ⟨rx, rfl⟩, p1⟩
  obtain ⟨d, e, p3⟩ := p1.lift1
  unfold tupOf at e
  split at e
  · rename_i hz
    cases e
    refine ⟨by rw [rx.length]; exact hz, q1 k1 (fun I' H' v s o r => p3 I' H' v [] s o ⟨r, rfl⟩) fun p I' s e => .tup e (rx.mono s)⟩
  · cases e
theorem de_lst {g : EM (List D)} (h : PA X es (taD X.K κ W g)) : PE X (.List es pos) (teD X.K κ W (eLst g)) := by
  refine pe_imp (pe_lst h) fun σ H Q h => ?_
  obtain ⟨I, F, env, k, p⟩ := h
  refine ⟨I, F, env, k, Post.mono (p.bind (R := RA X.K κ)) ?_⟩
  rintro xs H1 ⟨I1, env1, ds, nfp, s1, k1, ⟨rx, rfl⟩, p1⟩
  obtain ⟨d, e, p3⟩ := p1.lift1
  unfold lstOf at e
  split at e
  · rename_i hz
    cases e
    refine ⟨by rw [rx.length]; exact hz, q1 k1 (fun I' H' v s o r => p3 I' H' v [] s o ⟨r, rfl⟩) fun p I' s e => .lst e (rx.mono s)⟩
  · cases e
/-- .. owned -/
theorem ds_lst {g : EM (List D)} (h : PA X es (taD X.K κ W g)) : PE X (.List es pos) (teS X.K κ W (sLst g)) := by
  refine pe_imp (pe_lst h) fun σ H Q h => ?_
  obtain ⟨I, F, env, k, p⟩ := h
  refine ⟨I, F, env, k, Post.mono (p.bind (R := RA X.K κ)) ?_⟩
  rintro xs H1 ⟨I1, env1, ds, nfp, s1, k1, ⟨rx, rfl⟩, p1⟩
  obtain ⟨d, e, p3⟩ := p1.lift1
  split at e
  · rename_i hz
    cases e
    refine ⟨by rw [rx.length]; exact hz, fun p hp => ?_⟩
    exact p3 I1 _ _ [p] (Step.refl F I1) (k1.newO hp) (.own (.lf (.lst upd_same rx)))
  · cases e
theorem ds_dctN : PE X (.Dict [] [] pos) (teS X.K κ W sDctN) := pe_imp pe_dnewK fun σ H Q h => by
  obtain ⟨I, F, env, k, p⟩ := h
  exact fun a ha => p I _ _ [a] (Step.refl F I) (k.newO ha) (.own (.lf (.dct upd_same .nil)))
theorem ds_dctT : PE X (.Dict [] [] pos) (teS X.K κ W sDctT) := pe_imp pe_dnewT fun σ H Q h => by
  obtain ⟨I, F, env, k, p⟩ := h
  exact fun a ha => p I _ _ [a] (Step.refl F I) (k.newO ha) (.own (.lf (.dcT upd_same .nil)))
theorem ds_dat {f : EM D} (h : PE X e (teD X.K κ W f)) : PE X e (teS X.K κ W (sDat f)) := pe_imp h fun σ H Q h => by
  obtain ⟨I, F, env, k, p⟩ := h
  refine ⟨I, F, env, k, Post.mono (p.bind (R := RD X.K κ)) ?_⟩
  rintro x H1 ⟨I1, env1, dx, nfp, s1, k1, ⟨rx, rfl⟩, p1⟩
  exact p1 I1 H1 _ [] (Step.refl F I1) k1 (.dat rx)
/-! ### subscripts -/
theorem atI_RpA {K : PySem.W.Frag} {I : Hp} {vs : List V} {ds : List D} {i : Int} {d : D} (r : RpA K κ I vs ds) (h : atI ds i = some d) : ∃ v, atI vs i = some v ∧ Rp K κ I v d := by
  unfold atI at h ⊢
  rw [r.length]
  cases q : ixN ds.length i with
  | none => rw [q] at h; cases h
  | some j => rw [q] at h; exact r.get (by simpa using h)
theorem atI_map {α β : Type} (f : α → β) (xs : List α) (i : Int) : atI (xs.map f) i = (atI xs i).map f := by
  unfold atI
  rw [List.length_map]
  cases ixN xs.length i with
  | none => rfl
  | some j => simp
theorem de_ix {f g : EM D} (ha : PE X a (teD X.K κ W f)) (hb : PE X b (teD X.K κ W g)) (hs : PlainIx b := by exact fun _ _ => rfl) : PE X (.Subscript a b pos) (teD X.K κ W (eBin opIx f g)) := by
  refine pe_imp (pe_ix ix_seq ha hb hs) (de_binT (fn := fun _ _ => pure .none) ?_)
  intro σ I F H env x y dx dy d Q k rx ry e q
  cases rx <;> cases ry <;> simp only [opIx] at e <;> try (cases e)
  · split at e
    · rename_i hz
      rename_i s i
      cases h : atI s.cps.toList i with
      | none => rw [h] at e; cases e
      | some c =>
        rw [h] at e
        simp only [Option.map_some, Option.some.injEq] at e
        subst e
        exact .inr (.inr ⟨_, _, c, rfl, rfl, hz, h, q0 k q (.str _)⟩)
    · cases e
  · rename_i h1 r1 i
    obtain ⟨v, hv, rv⟩ := atI_RpA r1 e
    exact .inr (.inl ⟨_, _, _, v, rfl, rfl, SqT.of (k.ext _ _ h1), hv, q0 k q rv⟩)
  · rename_i h1 r1 i
    obtain ⟨v, hv, rv⟩ := atI_RpA r1 e
    exact .inl ⟨_, _, _, v, rfl, rfl, SqL.of (k.ext _ _ h1), hv, q0 k q rv⟩
  · rename_i ns hq i
    cases h : atI ns i with
    | none => rw [h] at e; cases e
    | some c =>
      rw [h] at e
      simp only [Option.map_some, Option.some.injEq] at e
      subst e
      exact .inl ⟨_, _, _, .int c, rfl, rfl, same_sq k.ext hq, by rw [atI_map, h]; rfl, q0 k q (.int c)⟩
theorem getK_RpK {K : PySem.W.Frag} {I : Hp} {k : Key} {d : D} : ∀ {kvs : List (Key × V)} {kds : List (Key × D)}, RpK K κ I kvs kds → getK kds k = some d → ∃ v, valV kvs k = some v ∧ Rp K κ I v d
  | _, _, .nil, h => by simp [getK] at h
  | (k', v) :: vs, (_, d') :: ds, .cons h r, e => by
    by_cases z : k' = k
    · subst z
      simp [getK] at e
      subst e
      exact ⟨v, by simp [valV], h⟩
    · obtain ⟨v', h1, h2⟩ := getK_RpK (k := k) (d := d) r (by simpa [getK, z] using e)
      exact ⟨v', by simpa [valV, z] using h1, h2⟩
theorem getK_none {K : PySem.W.Frag} {I : Hp} {k : Key} : ∀ {kvs : List (Key × V)} {kds : List (Key × D)}, RpK K κ I kvs kds → getK kds k = none → valV kvs k = none
  | _, _, .nil, h => by simp [valV]
  | (k', v) :: vs, (_, d') :: ds, .cons h r, e => by
    by_cases z : k' = k
    · subst z
      simp [getK] at e
    · have := getK_none (k := k) r (by simpa [getK, z] using e)
      simpa [valV, z] using this
theorem getK_some {K : PySem.W.Frag} {I : Hp} {k : Key} {kvs : List (Key × V)} {kds : List (Key × D)} (r : RpK K κ I kvs kds) : (valV kvs k).isSome = (getK kds k).isSome := by
  cases h : getK kds k with
  | none => rw [getK_none r h]; rfl
  | some d =>
    obtain ⟨v, h1, _⟩ := getK_RpK r h
    rw [h1]; rfl
theorem keyOf_kV {K : PySem.W.Frag} {I : Hp} {v : V} {d : D} {k : Key} (r : Rp K κ I v d) (h : keyOf d = some k) : v = kV k := by
  cases r <;> simp only [keyOf] at h <;> cases h <;> rfl
theorem de_get {f g : EM D} (hu : X.A.units + 1 < cLine) (ha : PE X a (teD X.K κ W f)) (hb : PE X b (teD X.K κ W g)) (hs : NoSl b := by exact fun _ _ => rfl) : PE X (.Subscript a b pos) (teD X.K κ W (eBin opGet f g)) := by
  refine pe_imp (pe_dget hu ha hb hs) fun σ H Q h => de_binT (r := fun x y H Q => ∃ a v, x = .ref a ∧ DGet H a y (some v) ∧ Q v H) (fn := fun _ _ => pure .none) ?_ σ H Q h
  intro σ I F H env x y dx dy d Q k rx ry e q
  cases rx <;> simp only [opGet] at e <;> try (cases e)
  rename_i h1 r1
  cases hk : keyOf dy with
  | none => rw [hk] at e; cases e
  | some ky =>
    rw [hk] at e
    obtain ⟨v, hv, rv⟩ := getK_RpK r1 (by simpa using e)
    have := keyOf_kV ry hk
    subst this
    exact ⟨_, v, rfl, by rw [← hv]; exact DGet.k (k.ext _ _ h1), q0 k q rv⟩
/-! ### slices -/
theorem RpA.cut {K : PySem.W.Frag} {I : Hp} {vs : List V} {ds : List D} (r : RpA K κ I vs ds) (lo hi : Option Int) : RpA K κ I (cutV vs lo hi) (cutD ds lo hi) := by
  unfold cutV cutD
  rw [r.length]
  exact (r.drop _).take _
theorem cutV_ints (ns : List Int) (lo hi : Option Int) : cutV (ns.map V.int) lo hi = (cutI ns lo hi).map V.int := by
  unfold cutV cutI
  rw [List.length_map, List.map_take, List.map_drop]
theorem sIx_whole {α : Type} (xs : List α) (lo hi : Option Int) (h : HT.sIx xs.length 0 lo = 0 ∧ HT.sIx xs.length xs.length hi = xs.length) : (xs.drop (HT.sIx xs.length 0 lo)).take (HT.sIx xs.length xs.length hi - HT.sIx xs.length 0 lo) = xs := by
  rw [h.1, h.2]; simp
theorem do_no : ∀ σ H Q, tG X.K κ (fun _ _ (b d : Option Int) nfp => b = d ∧ nfp = []) W oNo σ H Q → tNoPart σ H Q := fun σ H Q h => by
  obtain ⟨I, F, env, k, p⟩ := h
  exact p I H _ [] (Step.refl F I) k ⟨rfl, rfl⟩
/-- an optional part of a slice -/
structure PO' (X : Cx) (κ : Nat → Addr) (W : WX) (e : Option PySem.Expr) (f : EM (Option Int)) : Prop where
  ex : ∃ t, PO X e t ∧ ∀ σ H Q, tG X.K κ (fun _ _ (b d : Option Int) nfp => b = d ∧ nfp = []) W f σ H Q → t σ H Q
theorem do_none : PO' X κ W none oNo := ⟨_, po_none, do_no⟩
theorem do_some {f : EM D} (h : PE X e (teD X.K κ W f)) : PO' X κ W (some e) (oYes f) := ⟨_, po_some h, fun σ H Q h => by
  obtain ⟨I, F, env, k, p⟩ := h
  refine ⟨I, F, env, k, Post.mono (p.bind (R := RD X.K κ)) ?_⟩
  rintro x H1 ⟨I1, env1, dx, nfp, s1, k1, ⟨rx, rfl⟩, p1⟩
  obtain ⟨d, e, p3⟩ := p1.lift1
  cases rx <;> simp [dI] at e
  subst e
  exact ⟨_, rfl, p3 I1 H1 _ [] (Step.refl F I1) k1 ⟨rfl, rfl⟩⟩⟩
theorem de_sl {f : EM D} {l h : EM (Option Int)} {lo hi : Option PySem.Expr} {p2 : Pos} (he : PE X e (teD X.K κ W f)) (hl : PO' X κ W lo l) (hh : PO' X κ W hi h) : PE X (.Subscript e (.Slice lo hi none p2) pos) (teD X.K κ W (eSl f l h)) := by
  obtain ⟨tl, hl, il⟩ := hl.ex
  obtain ⟨th, hh, ih⟩ := hh.ex
  refine pe_imp (pe_slice (SlR.or sl_list (SlR.or sl_tupA sl_str)) he hl hh) fun σ H Q hw => ?_
  obtain ⟨I, F, env, k, p⟩ := hw
  refine ⟨I, F, env, k, Post.mono (p.bind (R := RD X.K κ)) ?_⟩
  rintro x H1 ⟨I1, env1, dx, nfp, s1, k1, ⟨rx, rfl⟩, p1⟩
  refine il _ _ _ ⟨I1, F, env1, k1, Post.mono (p1.bind (R := fun _ _ (b d : Option Int) nfp => b = d ∧ nfp = [])) ?_⟩
  rintro o1 H2 ⟨I2, env2, o1', nfp, s2, k2, ⟨rfl, rfl⟩, p2⟩
  refine ih _ _ _ ⟨I2, F, env2, k2, Post.mono (p2.bind (R := fun _ _ (b d : Option Int) nfp => b = d ∧ nfp = [])) ?_⟩
  rintro o2 H3 ⟨I3, env3, o2', nfp, s3, k3, ⟨rfl, rfl⟩, p3⟩
  obtain ⟨d, e, p4⟩ := p3.lift1
  have rx3 := (rx.mono s2.ext).mono s3.ext
  have q : ∀ I' H' v, Step F I3 I' → Ok X.K κ I' F H' σ env3 [] → Rp X.K κ I' v d → Q v H' := fun I' H' v s o r => p4 I' H' v [] s o ⟨r, rfl⟩
  cases rx3 <;> simp only [opSl] at e <;> try (cases e)
  · split at e
    · rename_i hz
      cases e
      exact .inr (.inr ⟨_, rfl, hz, q0 k3 q (.str _)⟩)
    · cases e
  · rename_i h1 r1
    refine .inr (.inl ⟨_, _, rfl, SqT.of (k3.ext _ _ h1), fun hw => ?_, fun hw => ?_⟩)
    · refine q0 k3 q ?_
      rw [r1.length] at hw
      have := sIx_whole _ _ _ hw
      unfold cutD
      rw [this]
      exact .tup h1 r1
    · exact q1 k3 q fun p I' s e => .tup e ((r1.cut _ _).mono s)
  · rename_i h1 r1
    exact .inl ⟨_, _, rfl, SqL.of (k3.ext _ _ h1), q1 k3 q fun p I' s e => .lst e ((r1.cut _ _).mono s)⟩
  · rename_i ns hq
    refine .inl ⟨_, _, rfl, same_sq k3.ext hq, ?_⟩
    rw [cutV_ints]
    exact q1 k3 q fun p I' s e => .lst e RpA.ints
end
end DL

/-! DL5: attributes, owned places read, built-in calls, comprehensions -/
namespace DL
open PySem L2
def FV.dat? : FV → Option D
  | .dat d => some d
  | _ => none
/-- self.f, self a slot -/
def eSelf (c i : Nat) (f : Str) : EM D := fun env => match env[i]? with
  | some (some (.dat (.obj c' gs))) => if c' = c then (lift (gs.lookup f)) env else .stuck
  | some (some (.own (.ins c' gs))) => if c' = c then (lift ((gs.lookup f).bind FV.dat?)) env else .stuck
  | _ => .stuck
/-- what is asked of a thing that stays as it is: one number, text, truth, None -/
def qD (g : EM D) (env : Slots) : Option D := match g (viewEnv env) with
  | .ok d _ => if d.scal = true then some d else none
  | _ => none
def Lf.at_ (l : Lf) (d : D) : Option D := match l with
  | .lst ds => match d with
    | .int i => atI ds i
    | _ => none
  | .dct kvs => (keyOf d).bind fun k => getK kvs k
  | .dcT _ => none
/-- x[e], x an own list or dict (or data) -/
def eOwnIx (i : Nat) (g : EM D) : EM D := fun env => match env[i]? with
  | some (some (.own (.lf (.lst ds)))) => (lift ((qD g env).bind fun d => (Lf.lst ds).at_ d)) env
  | some (some (.dat d)) => (lift ((qD g env).bind fun e => opIx d e)) env
  | _ => .stuck
def eOwnGet (i : Nat) (g : EM D) : EM D := fun env => match env[i]? with
  | some (some (.own (.lf (.dct ds)))) => (lift ((qD g env).bind fun d => (Lf.dct ds).at_ d)) env
  | some (some (.dat d)) => (lift ((qD g env).bind fun e => opGet d e)) env
  | _ => .stuck
/-- self.f[e] -/
def eSelfIx (c i : Nat) (f : Str) (g : EM D) : EM D := fun env => match env[i]? with
  | some (some (.own (.ins c' gs))) => if c' = c then (match gs.lookup f with
    | some (.own (.lst ds)) => (lift ((qD g env).bind fun d => (Lf.lst ds).at_ d)) env
    | some (.dat d) => (lift ((qD g env).bind fun e => opIx d e)) env
    | _ => .stuck) else .stuck
  | _ => .stuck
section
variable {K : PySem.W.Frag} {κ : Nat → Addr} {I I' F H H' : Hp} {σ : L2.St} {env : Slots} {W : WX}
theorem RpF.lookup {f : Str} {d : D} : ∀ {vs : List (Str × V)} {gs : List (Str × D)}, RpF K κ I vs gs → gs.lookup f = some d → ∃ v, vs.lookup f = some v ∧ Rp K κ I v d
  | _, _, .nil, h => by simp at h
  | (k', v) :: vs, (_, d') :: ds, .cons h r, e => by
    rw [List.lookup_cons] at e ⊢
    cases z : (f == k') with
    | true => rw [z] at e; simp at e; subst e; exact ⟨v, rfl, h⟩
    | false => rw [z] at e; exact r.lookup (by simpa using e)
theorem OwFs.lookup {f : Str} {x : FV} : ∀ {vs : List (Str × V)} {gs : List (Str × FV)} {fp : List Addr}, OwFs K κ I H vs gs fp → gs.lookup f = some x → ∃ v f1, vs.lookup f = some v ∧ OwF K κ I H v x f1 ∧ ∀ a ∈ f1, a ∈ fp
  | _, _, _, .nil, h => by simp at h
  | (k', v) :: vs, (_, d') :: ds, _, .cons h r, e => by
    rw [List.lookup_cons] at e ⊢
    cases z : (f == k') with
    | true => rw [z] at e; simp at e; subst e; exact ⟨v, _, rfl, h, fun a ha => List.mem_append_left _ ha⟩
    | false =>
      rw [z] at e
      obtain ⟨v', f1, h1, h2, h3⟩ := r.lookup (f := f) (x := x) (by simpa using e)
      exact ⟨v', f1, h1, h2, fun a ha => List.mem_append_right _ (h3 a ha)⟩
theorem OwFs.lookup_none {f : Str} : ∀ {vs : List (Str × V)} {gs : List (Str × FV)} {fp : List Addr}, OwFs K κ I H vs gs fp → gs.lookup f = none → vs.lookup f = none
  | _, _, _, .nil, h => by simp
  | (k', v) :: vs, (_, d') :: ds, _, .cons h r, e => by
    rw [List.lookup_cons] at e ⊢
    cases z : (f == k') with
    | true => rw [z] at e; simp at e
    | false => rw [z] at e; exact r.lookup_none (by simpa using e)
theorem RpF.lookup_none {f : Str} : ∀ {vs : List (Str × V)} {gs : List (Str × D)}, RpF K κ I vs gs → gs.lookup f = none → vs.lookup f = none
  | _, _, .nil, h => by simp
  | (k', v) :: vs, (_, d') :: ds, .cons h r, e => by
    rw [List.lookup_cons] at e ⊢
    cases z : (f == k') with
    | true => rw [z] at e; simp at e
    | false => rw [z] at e; exact r.lookup_none (by simpa using e)
theorem FV.dat?_some {x : FV} {d : D} (h : x.dat? = some d) : x = .dat d := by cases x <;> simp [FV.dat?] at h; rw [h]
/-- a slot seen, without taking it out -/
theorem EnvR.at_ {i : Nat} {x : SV} : ∀ {σ : List (Option V)} {env : Slots} {fp : List Addr}, EnvR K κ I H σ env fp → env[i]? = some (some x) → ∃ v f1, σ[i]? = some (some v) ∧ OwS K κ I H v x f1 ∧ ∀ a ∈ f1, a ∈ fp := fun {σ env fp} r e => by
  obtain ⟨v, f1, f2, h1, h2, _, h4⟩ := r.get e
  exact ⟨v, f1, h1, h2, fun a ha => h4.mem_iff.mp (List.mem_append_left _ ha)⟩
theorem Ok.at_ {i : Nat} {x : SV} {nfp : List Addr} (k : Ok K κ I F H σ env nfp) (e : env[i]? = some (some x)) : ∃ v f1, σ[i]? = some (some v) ∧ OwS K κ I H v x f1 := by
  obtain ⟨fp, r, _⟩ := k.ex
  obtain ⟨v, f1, h1, h2, _⟩ := r.at_ e
  exact ⟨v, f1, h1, h2⟩
/-- an index asked of the state as it stands -/
theorem teQ {te : TE} {g : EM D} {d : D} {Q : VK} (ht : ∀ σ H Q, teD K κ W g σ H Q → te σ H Q) (k : Ok K κ I F H σ env []) (hq : qD g env = some d)
    (q : ∀ fp H' v, EnvR K κ I H σ env fp → EnvR K κ I H' σ env fp → Rel I F H fp → Ok K κ I F H' σ env [] → (∀ a ∈ fp, H' a = H a) → Rp K κ I v d → Q v H') : te σ H Q := by
  obtain ⟨fp, e, r, kv⟩ := k.view
  refine ht _ _ _ ⟨_, _, _, kv, ?_⟩
  unfold qD at hq
  revert hq
  cases z : g (viewEnv env) with
  | ok d' env' =>
    intro hq I' H' v nfp s k' hR
    obtain ⟨hr, rfl⟩ := hR
    by_cases zz : d'.scal = true
    · simp only [zz, if_true, Option.some.injEq] at hq
      subst hq
      obtain ⟨k2, kp⟩ := Ok.unview e r s k'
      exact q fp H' v e (e.mono (Same.refl I) kp) r k2 kp (hr.scal zz)
    · simp only [if_neg zz] at hq
      cases hq
  | exc e env' => exact fun hq => nomatch hq
  | stuck => exact fun hq => nomatch hq
end
section
variable {X : Cx} {κ : Nat → Addr} {W : WX} {e a b : PySem.Expr} {pos : Pos} {es rest : List PySem.Expr}
theorem rix_of {K : PySem.W.Frag} {I H : Hp} {x y : V} {dx dy d : D} {Q : VK} (s : Same I H) (rx : Rp K κ I x dx) (ry : Rp K κ I y dy) (e : opIx dx dy = some d) (q : ∀ v, Rp K κ I v d → Q v H) : rIx K x y H Q := by
  cases rx <;> cases ry <;> simp only [opIx] at e <;> try (cases e)
  · split at e
    · rename_i hz
      rename_i s i
      cases h : atI s.cps.toList i with
      | none => rw [h] at e; cases e
      | some c =>
        rw [h] at e
        simp only [Option.map_some, Option.some.injEq] at e
        subst e
        exact .inr (.inr ⟨_, _, c, rfl, rfl, hz, h, q _ (.str _)⟩)
    · cases e
  · rename_i h1 r1 i
    obtain ⟨v, hv, rv⟩ := atI_RpA r1 e
    exact .inr (.inl ⟨_, _, _, v, rfl, rfl, SqT.of (s _ _ h1), hv, q _ rv⟩)
  · rename_i h1 r1 i
    obtain ⟨v, hv, rv⟩ := atI_RpA r1 e
    exact .inl ⟨_, _, _, v, rfl, rfl, SqL.of (s _ _ h1), hv, q _ rv⟩
  · rename_i ns hq i
    cases h : atI ns i with
    | none => rw [h] at e; cases e
    | some c =>
      rw [h] at e
      simp only [Option.map_some, Option.some.injEq] at e
      subst e
      exact .inl ⟨_, _, _, .int c, rfl, rfl, same_sq s hq, by rw [atI_map, h]; rfl, q _ (.int c)⟩
theorem rget_of {K : PySem.W.Frag} {I H : Hp} {x y : V} {dx dy d : D} {Q : VK} (s : Same I H) (rx : Rp K κ I x dx) (ry : Rp K κ I y dy) (e : opGet dx dy = some d) (q : ∀ v, Rp K κ I v d → Q v H) : ∃ a v, x = .ref a ∧ DGet H a y (some v) ∧ Q v H := by
  cases rx <;> simp only [opGet] at e <;> try (cases e)
  rename_i h1 r1
  cases hk : keyOf dy with
  | none => rw [hk] at e; cases e
  | some ky =>
    rw [hk] at e
    obtain ⟨v, hv, rv⟩ := getK_RpK r1 (by simpa using e)
    have := keyOf_kV ry hk
    subst this
    exact ⟨_, v, rfl, by rw [← hv]; exact DGet.k (s _ _ h1), q _ rv⟩
theorem de_fld {c : Nat} {f : Str} {g : EM D} (he : PE X e (teD X.K κ W g)) (hc : Cls X.K (κ c)) (hn : NoAttr X.K (κ c) f) (hb : attributeBase e f X.env (eval e X.env) = eval e X.env := by rfl) : PE X (.Attribute e f pos) (teD X.K κ W (eUn (opFld c f) g)) := by
  refine pe_imp (pe_fld he hb) fun σ H Q h => ?_
  obtain ⟨I, F, env, k, p⟩ := h
  refine ⟨I, F, env, k, Post.mono (p.bind (R := RD X.K κ)) ?_⟩
  rintro x H1 ⟨I1, env1, dx, nfp, s1, k1, ⟨rx, rfl⟩, p1⟩
  obtain ⟨d, e, p3⟩ := p1.lift1
  cases rx <;> simp only [opFld] at e <;> try (cases e)
  rename_i h1 r1
  split at e
  · rename_i hcc
    subst hcc
    obtain ⟨v, hv, rv⟩ := r1.lookup e
    exact ⟨_, _, _, _, v, rfl, k1.ext _ _ h1, hc, hn, hv, p3 I1 H1 _ [] (Step.refl F I1) k1 ⟨rv, rfl⟩⟩
  · cases e
theorem de_self {c i : Nat} {f x : Str} {p1 : Pos} (hc : Cls X.K (κ c)) (hn : NoAttr X.K (κ c) f) (hN : X.N[i]? = some x := by rfl) (hv : Vis X.env.scope x := by first | exact Or.inl rfl | exact Or.inr (Or.inl rfl) | exact Or.inr (Or.inr rfl)) (hd : (x == ("__debug__" : Str)) = false := by decide)
    (hcd : (x == ("__classdict__" : Str)) = false := by decide) (hb : attributeBase (.Name x p1) f X.env (eval (.Name x p1) X.env) = eval (.Name x p1) X.env := by rfl) : PE X (.Attribute (.Name x p1) f pos) (teD X.K κ W (eSelf c i f)) := by
  refine pe_imp (pe_fld (pe_var hN hv hd hcd) hb) fun σ H Q h => ?_
  obtain ⟨I, F, env, k, p⟩ := h
  unfold eSelf at p
  split at p
  · rename_i c' gs q
    obtain ⟨v, f1, h1, h2⟩ := k.at_ q
    split at p
    · rename_i hcc
      subst hcc
      obtain ⟨d, e, p3⟩ := p.lift1
      cases h2 with
      | dat r =>
        cases r with
        | obj ho r1 =>
          obtain ⟨v, hv, rv⟩ := r1.lookup e
          exact ⟨_, h1, _, _, _, _, v, rfl, k.ext _ _ ho, hc, hn, hv, p3 I H _ [] (Step.refl F I) k ⟨rv, rfl⟩⟩
    · exact p.elim
  · rename_i c' gs q
    obtain ⟨v, f1, h1, h2⟩ := k.at_ q
    split at p
    · rename_i hcc
      subst hcc
      obtain ⟨d, e, p3⟩ := p.lift1
      cases hl : gs.lookup f with
      | none => rw [hl] at e; cases e
      | some fv =>
        rw [hl] at e
        have := FV.dat?_some (show fv.dat? = some d from e)
        subst this
        cases h2 with
        | own r =>
          cases r with
          | ins ho r1 =>
            obtain ⟨v, f2, hv, rv, _⟩ := r1.lookup hl
            cases rv with
            | dat rv => exact ⟨_, h1, _, _, _, _, v, rfl, ho, hc, hn, hv, p3 I H _ [] (Step.refl F I) k ⟨rv, rfl⟩⟩
    · exact p.elim
  · exact p.elim
/-- x[e], x an own list -/
theorem de_ownIx {i : Nat} {x : Str} {g : EM D} {p1 : Pos} (hb : PE X b (teD X.K κ W g)) (hs : PlainIx b := by exact fun _ _ => rfl) (hN : X.N[i]? = some x := by rfl) (hv : Vis X.env.scope x := by first | exact Or.inl rfl | exact Or.inr (Or.inl rfl) | exact Or.inr (Or.inr rfl)) (hd : (x == ("__debug__" : Str)) = false := by decide)
    (hcd : (x == ("__classdict__" : Str)) = false := by decide) : PE X (.Subscript (.Name x p1) b pos) (teD X.K κ W (eOwnIx i g)) := by
  refine pe_imp (pe_ix ix_seq (pe_var hN hv hd hcd) hb hs) fun σ H Q h => ?_
  obtain ⟨I, F, env, k, p⟩ := h
  unfold eOwnIx at p
  split at p
  · rename_i ds q
    obtain ⟨v, f1, h1, h2⟩ := k.at_ q
    obtain ⟨d, e, p3⟩ := p.lift1
    cases hq : qD g env with
    | none => rw [hq] at e; cases e
    | some dy =>
      rw [hq] at e
      simp only [Option.bind_some, Lf.at_] at e
      split at e
      · rename_i ix
        refine ⟨v, h1, teQ (te := teD X.K κ W g) (fun _ _ _ h => h) k hq fun fp H' y e1 e1' r k2 kp ry => ?_⟩
        cases ry
        obtain ⟨v', f1', h1', h2', hm⟩ := e1'.at_ q
        rw [h1] at h1'
        cases h1'
        cases h2' with
        | own m =>
          cases m with
          | lf l =>
            cases l with
            | lst hH ra =>
              obtain ⟨w, hw, rw'⟩ := atI_RpA ra e
              exact .inl ⟨_, _, _, w, rfl, rfl, SqL.of hH, hw, p3 I H' _ [] (Step.refl F I) k2 ⟨rw', rfl⟩⟩
      · cases e
  · rename_i dd q
    obtain ⟨v, f1, h1, h2⟩ := k.at_ q
    obtain ⟨d, e, p3⟩ := p.lift1
    cases h2 with
    | dat rx =>
    cases hq : qD g env with
    | none => rw [hq] at e; cases e
    | some dy =>
      rw [hq] at e
      simp only [Option.bind_some] at e
      refine ⟨v, h1, teQ (te := teD X.K κ W g) (fun _ _ _ h => h) k hq fun fp H' y e1 e1' r k2 kp ry => ?_⟩
      exact rix_of k2.ext rx ry e fun v rv => p3 I H' _ [] (Step.refl F I) k2 ⟨rv, rfl⟩
  · exact p.elim
theorem de_ownGet {i : Nat} {x : Str} {g : EM D} {p1 : Pos} (hu : X.A.units + 1 < cLine) (hb : PE X b (teD X.K κ W g)) (hs : NoSl b := by exact fun _ _ => rfl) (hN : X.N[i]? = some x := by rfl) (hv : Vis X.env.scope x := by first | exact Or.inl rfl | exact Or.inr (Or.inl rfl) | exact Or.inr (Or.inr rfl)) (hd : (x == ("__debug__" : Str)) = false := by decide)
    (hcd : (x == ("__classdict__" : Str)) = false := by decide) : PE X (.Subscript (.Name x p1) b pos) (teD X.K κ W (eOwnGet i g)) := by
  refine pe_imp (pe_dget hu (pe_var hN hv hd hcd) hb hs) fun σ H Q h => ?_
  obtain ⟨I, F, env, k, p⟩ := h
  unfold eOwnGet at p
  split at p
  · rename_i ds q
    obtain ⟨v, f1, h1, h2⟩ := k.at_ q
    obtain ⟨d, e, p3⟩ := p.lift1
    cases hq : qD g env with
    | none => rw [hq] at e; cases e
    | some dy =>
      rw [hq] at e
      simp only [Option.bind_some, Lf.at_] at e
      cases hk : keyOf dy with
      | none => rw [hk] at e; cases e
      | some ky =>
        rw [hk] at e
        simp only [Option.bind_some] at e
        refine ⟨v, h1, teQ (te := teD X.K κ W g) (fun _ _ _ h => h) k hq fun fp H' y e1 e1' r k2 kp ry => ?_⟩
        have := keyOf_kV ry hk
        subst this
        obtain ⟨v', f1', h1', h2', hm⟩ := e1'.at_ q
        rw [h1] at h1'
        cases h1'
        cases h2' with
        | own m =>
          cases m with
          | lf l =>
            cases l with
            | dct hH ra =>
              obtain ⟨w, hw, rw'⟩ := getK_RpK ra e
              exact ⟨_, w, rfl, by rw [← hw]; exact DGet.k hH, p3 I H' _ [] (Step.refl F I) k2 ⟨rw', rfl⟩⟩
  · rename_i dd q
    obtain ⟨v, f1, h1, h2⟩ := k.at_ q
    obtain ⟨d, e, p3⟩ := p.lift1
    cases h2 with
    | dat rx =>
    cases hq : qD g env with
    | none => rw [hq] at e; cases e
    | some dy =>
      rw [hq] at e
      simp only [Option.bind_some] at e
      refine ⟨v, h1, teQ (te := teD X.K κ W g) (fun _ _ _ h => h) k hq fun fp H' y e1 e1' r k2 kp ry => ?_⟩
      exact rget_of k2.ext rx ry e fun v rv => p3 I H' _ [] (Step.refl F I) k2 ⟨rv, rfl⟩
  · exact p.elim
/-- self.f[e], self.f an own list or data -/
theorem de_selfIx {c i : Nat} {f x : Str} {g : EM D} {p1 p2 : Pos} (hc : Cls X.K (κ c)) (hn : NoAttr X.K (κ c) f) (hb : PE X b (teD X.K κ W g)) (hs : PlainIx b := by exact fun _ _ => rfl) (hN : X.N[i]? = some x := by rfl) (hv : Vis X.env.scope x := by first | exact Or.inl rfl | exact Or.inr (Or.inl rfl) | exact Or.inr (Or.inr rfl)) (hd : (x == ("__debug__" : Str)) = false := by decide)
    (hcd : (x == ("__classdict__" : Str)) = false := by decide) (hba : attributeBase (.Name x p1) f X.env (eval (.Name x p1) X.env) = eval (.Name x p1) X.env := by rfl) : PE X (.Subscript (.Attribute (.Name x p1) f p2) b pos) (teD X.K κ W (eSelfIx c i f g)) := by
  refine pe_imp (pe_ix ix_seq (pe_fld (pe_var hN hv hd hcd) hba) hb hs) fun σ H Q h => ?_
  obtain ⟨I, F, env, k, p⟩ := h
  unfold eSelfIx at p
  split at p
  · rename_i c' gs q
    split at p
    · rename_i hcc
      subst hcc
      split at p
      · rename_i ds hl
        obtain ⟨d, e, p3⟩ := p.lift1
        cases hq : qD g env with
        | none => rw [hq] at e; cases e
        | some dy =>
          rw [hq] at e
          simp only [Option.bind_some, Lf.at_] at e
          split at e
          · rename_i ix
            obtain ⟨fp, er, rr⟩ := k.ex
            obtain ⟨v, f1, h1, h2, hm⟩ := er.at_ q
            cases h2 with
            | own m =>
            cases m with
            | ins ho r1 =>
            obtain ⟨w, f2, hw, ow, hm2⟩ := r1.lookup hl
            refine ⟨_, h1, _, _, _, _, w, rfl, ho, hc, hn, hw, teQ (te := teD X.K κ W g) (fun _ _ _ h => h) ⟨fp, er, rr⟩ hq fun fp' H' y e1 e1' r k2 kp ry => ?_⟩
            cases ry
            cases ow with
            | own ow =>
              cases ow with
              | lst hH ra =>
                obtain ⟨u, hu, ru⟩ := atI_RpA ra e
                -- the list's own place stays
                obtain ⟨v', f1', h1', h2', hm'⟩ := e1.at_ q
                rw [h1] at h1'
                cases h1'
                cases h2' with
                | own m' =>
                  cases m' with
                  | ins ho' r1' =>
                    rw [ho] at ho'
                    cases ho'
                    obtain ⟨w', f2', hw', ow', hm2'⟩ := r1'.lookup hl
                    rw [hw] at hw'
                    cases hw'
                    cases ow' with
                    | own ow' =>
                      cases ow' with
                      | lst hH' ra' =>
                        have hk := kp _ (hm' _ (List.mem_cons_of_mem _ (hm2' _ (List.mem_singleton.mpr rfl))))
                        exact .inl ⟨_, _, _, u, rfl, rfl, SqL.of (hk.trans hH), hu, p3 I H' _ [] (Step.refl F I) k2 ⟨ru, rfl⟩⟩
          · cases e
      · rename_i dd hl
        obtain ⟨d, e, p3⟩ := p.lift1
        cases hq : qD g env with
        | none => rw [hq] at e; cases e
        | some dy =>
          rw [hq] at e
          simp only [Option.bind_some] at e
          obtain ⟨v, f1, h1, h2⟩ := k.at_ q
          cases h2 with
          | own m =>
          cases m with
          | ins ho r1 =>
          obtain ⟨w, f2, hw, ow, hm2⟩ := r1.lookup hl
          cases ow with
          | dat rx =>
          refine ⟨_, h1, _, _, _, _, w, rfl, ho, hc, hn, hw, teQ (te := teD X.K κ W g) (fun _ _ _ h => h) k hq fun fp' H' y e1 e1' r k2 kp ry => ?_⟩
          exact rix_of k2.ext rx ry e fun v rv => p3 I H' _ [] (Step.refl F I) k2 ⟨rv, rfl⟩
      · exact p.elim
    · exact p.elim
  · exact p.elim
end
end DL

/-! DL6: built-in calls -/
namespace DL
open PySem L2
def intsOf : List D → Option (List Int)
  | [] => some []
  | .int i :: r => (intsOf r).map (i :: ·)
  | _ => none
def blsOf : List D → Option (List Bool)
  | [] => some []
  | .bl i :: r => (blsOf r).map (i :: ·)
  | _ => none
theorem intsOf_some : ∀ {ds : List D} {ns : List Int}, intsOf ds = some ns → ds = ns.map D.int
  | [], ns, h => by simp [intsOf] at h; subst h; rfl
  | d :: r, ns, h => by
    cases d <;> simp [intsOf] at h
    obtain ⟨a, h1, h2⟩ := h
    subst h2
    rw [intsOf_some h1]; rfl
theorem intsOf_map : ∀ (ns : List Int), intsOf (ns.map D.int) = some ns
  | [] => rfl
  | n :: r => by simp [intsOf, intsOf_map r]
theorem blsOf_some : ∀ {ds : List D} {ns : List Bool}, blsOf ds = some ns → ds = ns.map D.bl
  | [], ns, h => by simp [blsOf] at h; subst h; rfl
  | d :: r, ns, h => by
    cases d <;> simp [blsOf] at h
    obtain ⟨a, h1, h2⟩ := h
    subst h2
    rw [blsOf_some h1]; rfl
theorem blsOf_map : ∀ (ns : List Bool), blsOf (ns.map D.bl) = some ns
  | [] => rfl
  | n :: r => by simp [blsOf, blsOf_map r]
def opLen : List D → Option D
  | [.lst ds] => some (.int ds.length)
  | [.tup ds] => some (.int ds.length)
  | [.scr ds] => some (.int ds.length)
  | [.str s] => if s.length ≤ sizeLine then some (.int s.length) else none
  | [.dct ds] => some (.int ds.length)
  | _ => none
def opMax : List D → Option D
  | [.lst ds] => (intsOf ds).bind fun ns => ns.max?.map D.int
  | [.int i, .int j] => some (.int (max i j))
  | _ => none
def opMin : List D → Option D
  | [.lst ds] => (intsOf ds).bind fun ns => ns.min?.map D.int
  | [.int i, .int j] => some (.int (min i j))
  | _ => none
def opSum : List D → Option D
  | [.lst ds] => (intsOf ds).map fun ns => .int ns.sum
  | _ => none
def sortI (ns : List Int) : List Int := ns.mergeSort fun a b => decide (a ≤ b)
def opSorted : List D → Option D
  | [.lst ds] => (intsOf ds).map fun ns => .lst ((sortI ns).map D.int)
  | _ => none
def opAbs : List D → Option D
  | [.int i] => some (.int (if i < 0 then -i else i))
  | _ => none
def opInt : List D → Option D
  | [.int i] => some (.int i)
  | [.bl b] => some (.int (if b then 1 else 0))
  | [.str s] => if s.length ≤ 640 then (PySem.intText? s).map D.int else none
  | _ => none
def opStr : List D → Option D
  | [.int i] => if i.natAbs.log2 < 1920 then some (.str (toString i)) else none
  | _ => none
def opDivmod : List D → Option D
  | [.int i, .int j] => if 0 < j ∧ j.natAbs.log2 < 9000 then some (.tup [.int (i / j), .int (i % j)]) else none
  | _ => none
def opList : List D → Option D
  | [.lst ds] => some (.lst ds)
  | [.tup ds] => some (.lst ds)
  | [.scr ns] => some (.lst (ns.map D.int))
  | _ => none
def opTuple : List D → Option D
  | [.lst ds] => some (.tup ds)
  | [.tup ds] => some (.tup ds)
  | _ => none
def opAll : List D → Option D
  | [.lst ds] => (blsOf ds).map fun bs => .bl (bs.all id)
  | _ => none
def tyD : D → Option String
  | .non => some "NoneType"
  | .bl _ => some "bool"
  | .int _ => some "int"
  | .str _ => some "str"
  | .lst _ => some "list"
  | .tup _ => some "tuple"
  | .dct _ => some "dict"
  | _ => none
def isB (a b : String) : Bool := a == b || (a == "bool" && b == "int")
def eIsB (T : String) (f : EM D) : EM D := f.bind fun d => lift ((tyD d).map fun t => .bl (isB t T))
section
variable {X : Cx} {κ : Nat → Addr} {W : WX}
def CallD (X : Cx) (κ : Nat → Addr) (f : Value) (op : List D → Option D) : Prop :=
  ∃ r, CallR X f r ∧ ∀ (σ : L2.St) (I F H : Hp) (env : Slots) (vs : List V) (ds : List D) (d : D) (Q : VK), Ok X.K κ I F H σ env [] → RpA X.K κ I vs ds → op ds = some d →
    (∀ I' H' v, Step F I I' → Ok X.K κ I' F H' σ env [] → Rp X.K κ I' v d → Q v H') → r vs H Q
theorem de_callB {id : String} {x : Str} {e : PySem.Expr} {es : List PySem.Expr} {p pos : Pos} {g : EM (List D)} {op : List D → Option D} (hc : CallD X κ (.builtin id) op) (hm : X.mg x = none) (hv : bootBuiltins x = some (.builtin id)) (ha : PA X (e :: es) (taD X.K κ W g)) (hg : Gl X x := by rfl) (hn : x ≠ "__name__" := by decide) (hdb : (x == ("__debug__" : Str)) = false := by decide)
    (he : starEach (e :: es) X.env = (false, eval e X.env) :: starEach es X.env := by rfl) (hpl : (backTo pos (starEach es X.env)).any (·.1) = false := by rfl) : PE X (.Call (.Name x p) (e :: es) [] pos) (teD X.K κ W (eCallB op g)) := by
  obtain ⟨r, h1, h2⟩ := hc
  refine pe_imp (pe_callB h1 hg hm hv ha hn hdb he hpl) fun σ H Q h => ?_
  obtain ⟨I, F, env, k, p⟩ := h
  refine ⟨I, F, env, k, Post.mono (p.bind (R := RA X.K κ)) ?_⟩
  rintro xs H1 ⟨I1, env1, ds, nfp, s1, k1, ⟨rx, rfl⟩, p1⟩
  obtain ⟨d, e, p3⟩ := p1.lift1
  exact h2 σ I1 F H1 env1 xs ds d Q k1 rx e fun I' H' v s o r => p3 I' H' v [] s o ⟨r, rfl⟩
theorem de_callTy {T : String} {x : Str} {e : PySem.Expr} {es : List PySem.Expr} {p pos : Pos} {g : EM (List D)} {op : List D → Option D} (hc : CallD X κ (.type T) op) (hm : X.mg x = none) (hv : bootBuiltins x = some (.type T)) (ha : PA X (e :: es) (taD X.K κ W g)) (hg : Gl X x := by rfl) (hn : x ≠ "__name__" := by decide) (hdb : (x == ("__debug__" : Str)) = false := by decide)
    (he : starEach (e :: es) X.env = (false, eval e X.env) :: starEach es X.env := by rfl) (hpl : (backTo pos (starEach es X.env)).any (·.1) = false := by rfl) : PE X (.Call (.Name x p) (e :: es) [] pos) (teD X.K κ W (eCallB op g)) := by
  obtain ⟨r, h1, h2⟩ := hc
  refine pe_imp (pe_callTy h1 hg hm hv ha hn hdb he hpl) fun σ H Q h => ?_
  obtain ⟨I, F, env, k, p⟩ := h
  refine ⟨I, F, env, k, Post.mono (p.bind (R := RA X.K κ)) ?_⟩
  rintro xs H1 ⟨I1, env1, ds, nfp, s1, k1, ⟨rx, rfl⟩, p1⟩
  obtain ⟨d, e, p3⟩ := p1.lift1
  exact h2 σ I1 F H1 env1 xs ds d Q k1 rx e fun I' H' v s o r => p3 I' H' v [] s o ⟨r, rfl⟩
theorem RpA.one {K : PySem.W.Frag} {I : Hp} {vs : List V} {d : D} (r : RpA K κ I vs [d]) : ∃ v, vs = [v] ∧ Rp K κ I v d := by
  cases r with
  | cons h t => cases t; exact ⟨_, rfl, h⟩
theorem RpA.two {K : PySem.W.Frag} {I : Hp} {vs : List V} {d d' : D} (r : RpA K κ I vs [d, d']) : ∃ v v', vs = [v, v'] ∧ Rp K κ I v d ∧ Rp K κ I v' d' := by
  cases r with
  | cons h t =>
    obtain ⟨v, rfl, h2⟩ := t.one
    exact ⟨_, _, rfl, h, h2⟩
theorem call_lenD' : CallR X (.builtin "len") (fun xs H Q => ∃ a kvs, xs = [V.ref a] ∧ H a = some (.dK kvs) ∧ Q (.int kvs.length) H) := call_lenD
theorem RpK.length {K : PySem.W.Frag} {I : Hp} : ∀ {vs : List (Key × V)} {ds : List (Key × D)}, RpK K κ I vs ds → vs.length = ds.length
  | _, _, .nil => rfl
  | _, _, .cons _ r => by simp [r.length]
theorem cd_len : CallD X κ (.builtin "len") opLen := by
  refine ⟨_, CallR.or call_len call_lenD', fun σ I F H env vs ds d Q k rs e q => ?_⟩
  unfold opLen at e
  split at e
  · cases e
    obtain ⟨v, rfl, r⟩ := rs.one
    cases r with
    | lst h r => exact .inl ⟨_, _, rfl, .inl ⟨_, SqL.of (k.ext _ _ h), r.length.symm⟩, q0 k q (.int _)⟩
  · cases e
    obtain ⟨v, rfl, r⟩ := rs.one
    cases r with
    | tup h r => exact .inl ⟨_, _, rfl, .inr ⟨_, SqT.of (k.ext _ _ h), r.length.symm⟩, q0 k q (.int _)⟩
  · cases e
    obtain ⟨v, rfl, r⟩ := rs.one
    cases r with
    | scr h => exact .inl ⟨_, _, rfl, .inl ⟨_, same_sq k.ext h, (List.length_map _).symm⟩, q0 k q (.int _)⟩
  · split at e
    · rename_i hz
      cases e
      obtain ⟨v, rfl, r⟩ := rs.one
      cases r
      exact .inl ⟨_, _, rfl, ⟨hz, rfl⟩, q0 k q (.int _)⟩
    · cases e
  · cases e
    obtain ⟨v, rfl, r⟩ := rs.one
    cases r with
    | dct h r => exact .inr ⟨_, _, rfl, k.ext _ _ h, by rw [r.length]; exact q0 k q (.int _)⟩
  · cases e
theorem max?_of {ns : List Int} {m : Int} (h : ns.max? = some m) : m ∈ ns ∧ ∀ y ∈ ns, y ≤ m := by
  have := List.max?_eq_some_iff.mp h
  exact this
theorem min?_of {ns : List Int} {m : Int} (h : ns.min? = some m) : m ∈ ns ∧ ∀ y ∈ ns, m ≤ y := by
  have := List.min?_eq_some_iff.mp h
  exact this
theorem cd_max (hc : X.calm = true) : CallD X κ (.builtin "max") opMax := by
  refine ⟨_, CallR.or (cr_max hc) (call_max2 hc), fun σ I F H env vs ds d Q k rs e q => ?_⟩
  unfold opMax at e
  split at e
  · obtain ⟨v, rfl, r⟩ := rs.one
    rename_i ds
    cases h : intsOf ds with
    | none => rw [h] at e; cases e
    | some ns =>
      rw [h] at e
      simp only [Option.bind_some] at e
      cases hm : ns.max? with
      | none => rw [hm] at e; cases e
      | some m =>
        rw [hm] at e
        cases e
        have := intsOf_some h
        subst this
        cases r with
        | lst hI r =>
          have := r.ofInts
          subst this
          obtain ⟨m1, m2⟩ := max?_of hm
          refine .inl ⟨_, ns, rfl, SqL.of (k.ext _ _ hI), List.length_pos_of_mem m1, fun m' h1 h2 => ?_⟩
          have : m' = m := Int.le_antisymm (m2 _ h1) (h2 _ m1)
          subst this
          exact q0 k q (.int _)
  · cases e
    obtain ⟨v, v', rfl, r, r'⟩ := rs.two
    cases r; cases r'
    refine .inr ⟨_, _, rfl, ?_⟩
    rename_i i j
    have : (if j > i then j else i) = max i j := by
      rw [Int.max_def]; split <;> split <;> omega
    rw [this]
    exact q0 k q (.int _)
  · cases e
theorem cd_min (hc : X.calm = true) : CallD X κ (.builtin "min") opMin := by
  refine ⟨_, CallR.or (cr_min hc) (call_min2 hc), fun σ I F H env vs ds d Q k rs e q => ?_⟩
  unfold opMin at e
  split at e
  · obtain ⟨v, rfl, r⟩ := rs.one
    rename_i ds
    cases h : intsOf ds with
    | none => rw [h] at e; cases e
    | some ns =>
      rw [h] at e
      simp only [Option.bind_some] at e
      cases hm : ns.min? with
      | none => rw [hm] at e; cases e
      | some m =>
        rw [hm] at e
        cases e
        have := intsOf_some h
        subst this
        cases r with
        | lst hI r =>
          have := r.ofInts
          subst this
          obtain ⟨m1, m2⟩ := min?_of hm
          refine .inl ⟨_, ns, rfl, SqL.of (k.ext _ _ hI), List.length_pos_of_mem m1, fun m' h1 h2 => ?_⟩
          have : m' = m := Int.le_antisymm (h2 _ m1) (m2 _ h1)
          subst this
          exact q0 k q (.int _)
  · cases e
    obtain ⟨v, v', rfl, r, r'⟩ := rs.two
    cases r; cases r'
    refine .inr ⟨_, _, rfl, ?_⟩
    rename_i i j
    have : (if j < i then j else i) = min i j := by
      rw [Int.min_def]; split <;> split <;> omega
    rw [this]
    exact q0 k q (.int _)
  · cases e
theorem cd_sum (hc : X.calm = true) : CallD X κ (.builtin "sum") opSum := by
  refine ⟨_, cr_sum hc, fun σ I F H env vs ds d Q k rs e q => ?_⟩
  unfold opSum at e
  split at e
  · obtain ⟨v, rfl, r⟩ := rs.one
    rename_i ds
    cases h : intsOf ds with
    | none => rw [h] at e; cases e
    | some ns =>
      rw [h] at e
      cases e
      have := intsOf_some h
      subst this
      cases r with
      | lst hI r =>
        have := r.ofInts
        subst this
        exact ⟨_, ns, rfl, SqL.of (k.ext _ _ hI), q0 k q (.int _)⟩
  · cases e
theorem sortI_perm (ns : List Int) : (sortI ns).Perm ns := List.mergeSort_perm _ _
theorem sortI_pw (ns : List Int) : (sortI ns).Pairwise (· ≤ ·) := by
  have := List.pairwise_mergeSort (le := fun a b : Int => decide (a ≤ b)) (fun a b c h1 h2 => by
    have h1 := of_decide_eq_true h1
    have h2 := of_decide_eq_true h2
    exact decide_eq_true (Int.le_trans h1 h2)) (fun a b => by
    rcases Int.le_total a b with h | h
    · simp [h]
    · simp [h]) ns
  exact this.imp fun h => of_decide_eq_true h
theorem sortI_unique {ns ms : List Int} (p : ms.Perm ns) (h : ms.Pairwise (· ≤ ·)) : ms = sortI ns := PySem.W.ksm_same (p.trans (sortI_perm ns).symm) h (sortI_pw ns)
theorem cd_sorted : CallD X κ (.builtin "sorted") opSorted := by
  refine ⟨_, cr_sortedI, fun σ I F H env vs ds d Q k rs e q => ?_⟩
  unfold opSorted at e
  split at e
  · obtain ⟨v, rfl, r⟩ := rs.one
    rename_i ds
    cases h : intsOf ds with
    | none => rw [h] at e; cases e
    | some ns =>
      rw [h] at e
      cases e
      have := intsOf_some h
      subst this
      cases r with
      | lst hI r =>
        have := r.ofInts
        subst this
        refine ⟨_, ns, rfl, SqL.of (k.ext _ _ hI), fun ms p pm pw hp => ?_⟩
        have := sortI_unique pm pw
        subst this
        exact q1 k q (fun p I' s e => .lst e RpA.ints) p hp
  · cases e
theorem cd_abs : CallD X κ (.builtin "abs") opAbs := by
  refine ⟨_, call_abs, fun σ I F H env vs ds d Q k rs e q => ?_⟩
  unfold opAbs at e
  split at e
  · cases e
    obtain ⟨v, rfl, r⟩ := rs.one
    cases r
    exact ⟨_, rfl, q0 k q (.int _)⟩
  · cases e
theorem cd_int : CallD X κ (.type "int") opInt := by
  refine ⟨_, CallR.or call_int1 call_int_str, fun σ I F H env vs ds d Q k rs e q => ?_⟩
  unfold opInt at e
  split at e
  · cases e
    obtain ⟨v, rfl, r⟩ := rs.one
    cases r
    exact .inl (.inl ⟨_, rfl, q0 k q (.int _)⟩)
  · cases e
    obtain ⟨v, rfl, r⟩ := rs.one
    cases r
    exact .inl (.inr ⟨_, rfl, q0 k q (.int _)⟩)
  · rename_i s
    split at e
    · rename_i hz
      obtain ⟨v, rfl, r⟩ := rs.one
      cases r
      cases h : PySem.intText? s with
      | none => rw [h] at e; cases e
      | some n =>
        rw [h] at e
        cases e
        exact .inr ⟨_, n, rfl, h, hz, q0 k q (.int _)⟩
    · cases e
  · cases e
theorem cd_str : CallD X κ (.type "str") opStr := by
  refine ⟨_, call_str_int, fun σ I F H env vs ds d Q k rs e q => ?_⟩
  unfold opStr at e
  split at e
  · split at e
    · rename_i hz
      cases e
      obtain ⟨v, rfl, r⟩ := rs.one
      cases r
      exact ⟨_, rfl, hz, q0 k q (.str _)⟩
    · cases e
  · cases e
theorem cd_divmod : CallD X κ (.builtin "divmod") opDivmod := by
  refine ⟨_, call_divmodW, fun σ I F H env vs ds d Q k rs e q => ?_⟩
  unfold opDivmod at e
  split at e
  · split at e
    · rename_i hz
      cases e
      obtain ⟨v, v', rfl, r, r'⟩ := rs.two
      cases r; cases r'
      exact ⟨_, _, rfl, ⟨hz.1, PyProof.noPylong_of_log2 hz.2⟩, q1 k q fun p I' s e => .tup e (.cons (.int _) (.cons (.int _) .nil))⟩
    · cases e
  · cases e
theorem cd_list : CallD X κ (.type "list") opList := by
  refine ⟨_, call_list_of, fun σ I F H env vs ds d Q k rs e q => ?_⟩
  unfold opList at e
  split at e
  · cases e
    obtain ⟨v, rfl, r⟩ := rs.one
    cases r with
    | lst h r => exact ⟨_, _, rfl, .inl (SqL.of (k.ext _ _ h)), q1 k q fun p I' s e => .lst e (r.mono s)⟩
  · cases e
    obtain ⟨v, rfl, r⟩ := rs.one
    cases r with
    | tup h r => exact ⟨_, _, rfl, .inr (SqT.of (k.ext _ _ h)), q1 k q fun p I' s e => .lst e (r.mono s)⟩
  · cases e
    obtain ⟨v, rfl, r⟩ := rs.one
    cases r with
    | scr h => exact ⟨_, _, rfl, .inl (same_sq k.ext h), q1 k q fun p I' s e => .lst e RpA.ints⟩
  · cases e
theorem cd_tuple : CallD X κ (.type "tuple") opTuple := by
  refine ⟨_, call_tuple_of, fun σ I F H env vs ds d Q k rs e q => ?_⟩
  unfold opTuple at e
  split at e
  · cases e
    obtain ⟨v, rfl, r⟩ := rs.one
    cases r with
    | lst h r => exact ⟨_, _, rfl, .inl ⟨SqL.of (k.ext _ _ h), q1 k q fun p I' s e => .tup e (r.mono s)⟩⟩
  · cases e
    obtain ⟨v, rfl, r⟩ := rs.one
    cases r with
    | tup h r => exact ⟨_, _, rfl, .inr ⟨SqT.of (k.ext _ _ h), q0 k q (.tup h r)⟩⟩
  · cases e
theorem cd_all (hc : X.calm = true) : CallD X κ (.builtin "all") opAll := by
  refine ⟨_, cr_all hc, fun σ I F H env vs ds d Q k rs e q => ?_⟩
  unfold opAll at e
  split at e
  · obtain ⟨v, rfl, r⟩ := rs.one
    rename_i ds
    cases h : blsOf ds with
    | none => rw [h] at e; cases e
    | some ns =>
      rw [h] at e
      cases e
      have := blsOf_some h
      subst this
      cases r with
      | lst hI r =>
        have := r.ofBls
        subst this
        exact ⟨_, ns, rfl, SqL.of (k.ext _ _ hI), q0 k q (.bl _)⟩
  · cases e
theorem kit_table : ∀ a ∈ ["NoneType", "bool", "int", "str", "list", "tuple", "dict"], ∀ b ∈ ["bool", "int", "str", "list", "tuple"], kitB a b = some (isB a b) := by decide +kernel
theorem ty_of {K : PySem.W.Frag} {I H : Hp} {v : V} {d : D} {t : String} (s : Same I H) (r : Rp K κ I v d) (h : tyD d = some t) : TyX K H v (.type t) := by
  cases r <;> simp only [tyD] at h <;> cases h
  · exact .base .non
  · exact .base (.bl _)
  · exact .base (.int _)
  · exact .base (.str _)
  · rename_i h1 _; exact .base (.tup (s _ _ h1))
  · rename_i h1 _; exact .base (.lst (s _ _ h1))
  · rename_i h1 _; exact .base (.dK (s _ _ h1))
theorem tyD_mem {d : D} {t : String} (h : tyD d = some t) : t ∈ ["NoneType", "bool", "int", "str", "list", "tuple", "dict"] := by
  cases d <;> simp only [tyD] at h <;> cases h <;> decide
/-- isinstance(e, T), T a built-in type -/
theorem de_isB {T : String} {x : Str} {e : PySem.Expr} {f : EM D} {p p2 pos : Pos} (hm : X.mg "isinstance" = none) (hmT : X.mg x = none) (hvT : bootBuiltins x = some (.type T)) (hT : T ∈ ["bool", "int", "str", "list", "tuple"]) (he : PE X e (teD X.K κ W f)) (hg : Gl X "isinstance" := by rfl) (hgT : Gl X x := by rfl) (hn : x ≠ "__name__" := by decide) (hdb : (x == ("__debug__" : Str)) = false := by decide)
    (hs : starEach [e, .Name x p2] X.env = (false, eval e X.env) :: starEach [.Name x p2] X.env := by rfl) (hs2 : starEach [.Name x p2] X.env = (false, eval (.Name x p2) X.env) :: starEach [] X.env := by rfl) (hpl : (backTo pos (starEach [.Name x p2] X.env)).any (·.1) = false := by rfl) :
    PE X (.Call (.Name "isinstance" p) [e, .Name x p2] [] pos) (teD X.K κ W (eIsB T f)) := by
  refine pe_imp (pe_callB call_isi hg hm (by decide +kernel) (pa_cons he (pa_cons (pe_bltn (v := .ty T) hgT hmT hvT rfl hn hdb) pa_nil hs2) hs) (by decide) (by decide) hs hpl) fun σ H Q h => ?_
  obtain ⟨I, F, env, k, p⟩ := h
  refine ⟨I, F, env, k, Post.mono (p.bind (R := RD X.K κ)) ?_⟩
  rintro v H1 ⟨I1, env1, d, nfp, s1, k1, ⟨rx, rfl⟩, p1⟩
  obtain ⟨d', e', p3⟩ := p1.lift1
  cases ht : tyD d with
  | none => rw [ht] at e'; cases e'
  | some t =>
    rw [ht] at e'
    cases e'
    exact ⟨v, .ty T, .type t, .type T, isB t T, rfl, .ty T, ty_of k1.ext rx ht, kit_ty (kit_table t (tyD_mem ht) T hT), p3 I1 H1 _ [] (Step.refl F I1) k1 ⟨.bl _, rfl⟩⟩
end
end DL

/-! DL7: statements -/
namespace DL
open PySem L2
inductive Fl where
  | nx | bk | ct | rt (v : SV)
abbrev SM := EM Fl
structure Pin (P : List Nat) (σ σ' : L2.St) : Prop where
  len : σ'.length = σ.length
  at_ : ∀ i ∈ P, σ'[i]? = σ[i]?
theorem Pin.refl (P : List Nat) (σ : L2.St) : Pin P σ σ := ⟨rfl, fun _ _ => rfl⟩
theorem Pin.trans {P : List Nat} {a b c : L2.St} (h : Pin P a b) (h' : Pin P b c) : Pin P a c := ⟨h'.len.trans h.len, fun i m => (h'.at_ i m).trans (h.at_ i m)⟩
theorem Pin.set {P : List Nat} {σ : L2.St} {i : Nat} {x : Option V} (h : i ∉ P) : Pin P σ (σ.set i x) := ⟨by simp, fun j m => by
  have : i ≠ j := fun z => h (z ▸ m)
  rw [List.getElem?_set_ne this]⟩
section
variable (K : PySem.W.Frag) (κ : Nat → Addr)
def PostS (W : WX) (P : List Nat) (I F : Hp) (σ : L2.St) (Dn : Ends) : RE Fl → Prop
  | .ok fl env' => ∀ I' H' σ', Step F I I' → Pin P σ σ' → match fl with
    | .nx => Ok K κ I' F H' σ' env' [] → Dn.nx σ' H'
    | .bk => Ok K κ I' F H' σ' env' [] → Dn.bk σ' H'
    | .ct => Ok K κ I' F H' σ' env' [] → Dn.ct σ' H'
    | .rt sv => ∀ v nfp, Ok K κ I' F H' σ' env' nfp → OwS K κ I' H' v sv nfp → Dn.rt v H'
  | .exc e env' => ∀ I' H' σ' cls dd, Step F I I' → Pin P σ σ' → Ok K κ I' F H' σ' env' [] → ExR K κ I' e cls dd → W cls dd σ' H'
  | .stuck => False
def tsD (W : WX) (P : List Nat) (f : SM) : TS := fun Dn σ H => ∃ I F env, Ok K κ I F H σ env [] ∧ PostS K κ W P I F σ Dn (f env)
end
section
variable {K : PySem.W.Frag} {κ : Nat → Addr} {I I' F H H' : Hp} {σ σ' : L2.St} {env : Slots} {W : WX} {P : List Nat} {Dn Dn' : Ends}
theorem PostS.step {r : RE Fl} (p : PostS K κ W P I F σ Dn r) (s : Step F I I') (pn : Pin P σ σ') : PostS K κ W P I' F σ' Dn r := by
  cases r with
  | ok fl env' =>
    intro I2 H2 σ2 s2 p2
    exact p I2 H2 σ2 (s.trans s2) (pn.trans p2)
  | exc e env' => exact fun I2 H2 σ2 c d s2 p2 o h => p I2 H2 σ2 c d (s.trans s2) (pn.trans p2) o h
  | stuck => exact p
/-- a statement's expression: what is left -/
theorem PostS.ex {α β : Type} {R : Hp → Hp → β → α → List Addr → Prop} {f : EM α} {g : α → SM} (p : PostS K κ W P I F σ Dn ((f.bind g) env)) :
    Post K κ R W I F σ (fun b H1 => ∃ I1 env1 a nfp, Step F I I1 ∧ Ok K κ I1 F H1 σ env1 nfp ∧ R I1 H1 b a nfp ∧ PostS K κ W P I1 F σ Dn (g a env1)) (f env) := by
  unfold EM.bind at p
  revert p
  cases f env with
  | ok a env' => exact fun p I2 H2 b nfp s o h => ⟨I2, env', a, nfp, s, o, h, p.step s (Pin.refl P σ)⟩
  | exc e env' => exact fun p I2 H2 c d s o h => p I2 H2 σ c d s (Pin.refl P σ) o h
  | stuck => exact fun p => p
theorem PostS.lift {α : Type} {o : Option α} {g : α → SM} (p : PostS K κ W P I F σ Dn (((DL.lift o).bind g) env)) : ∃ a, o = some a ∧ PostS K κ W P I F σ Dn (g a env) := by
  cases o with
  | none => exact False.elim p
  | some a => exact ⟨a, rfl, p⟩
theorem PostS.nx (p : PostS K κ W P I F σ Dn (.ok .nx env)) (k : Ok K κ I' F H' σ' env []) (s : Step F I I') (pn : Pin P σ σ') : Dn.nx σ' H' := p I' H' σ' s pn k
end
/-! ### the mirrors of statements -/
def sNx : SM := EM.pure .nx
def sSeq (f g : SM) : SM := fun env => match f env with
  | .ok .nx env' => g env'
  | r => r
def sIf (c : EM Bool) (f g : SM) : SM := c.bind fun b => if b = true then f else g
def setSlot (i : Nat) (x : SV) : SM := fun env => if i < env.length then .ok .nx (env.set i (some x)) else .stuck
def sAsg (i : Nat) (f : EM SV) : SM := f.bind fun x => setSlot i x
def sRet (f : EM SV) : SM := f.bind fun x => EM.pure (.rt x)
def sRetN : SM := EM.pure (.rt (.dat .non))
def sDrop (f : EM D) : SM := f.bind fun _ => sNx
def sBrk : SM := EM.pure .bk
def sCnt : SM := EM.pure .ct
def sNever : SM := fun _ => .stuck
/-- targets -/
abbrev TM := D → Slots → Option Slots
def gN (i : Nat) : TM := fun d env => if i < env.length then some (env.set i (some (.dat d))) else none
def gTs : List TM → List D → Slots → Option Slots
  | [], [], env => some env
  | g :: gs, d :: ds, env => (g d env).bind (gTs gs ds)
  | _, _, _ => none
def gT (gs : List TM) : TM := fun d env => match d with
  | .tup ds => gTs gs ds env
  | _ => none
def sAsgT (g : TM) (f : EM D) : SM := f.bind fun d => fun env => match g d env with
  | some env' => .ok .nx env'
  | none => .stuck
def sAug (i : Nat) (op : D → D → Option D) (f : EM D) : SM := fun env => match env[i]? with
  | some (some (.dat d)) => (f.bind fun e => (lift (op d e)).bind fun z => setSlot i (.dat z)) env
  | _ => .stuck
section
variable {X : Cx} {κ : Nat → Addr} {W : WX} {P : List Nat} {e a b : PySem.Expr} {pos : Pos} {st : PySem.Stmt} {rest : List PySem.Stmt}
theorem dss_nil : PSs X [] (tsD X.K κ W P sNx) := pss_imp pss_nil fun Dn σ H h => by
  obtain ⟨I, F, env, k, p⟩ := h
  exact p.nx k (Step.refl F I) (Pin.refl P σ)
theorem dss_cons {f g : SM} (h1 : PS X st (tsD X.K κ W P f)) (h2 : PSs X rest (tsD X.K κ W P g)) : PSs X (st :: rest) (tsD X.K κ W P (sSeq f g)) := pss_imp (pss_cons h1 h2) fun Dn σ H h => by
  obtain ⟨I, F, env, k, p⟩ := h
  refine ⟨I, F, env, k, ?_⟩
  unfold sSeq at p
  revert p
  cases f env with
  | ok fl env' =>
    cases fl with
    | nx => exact fun p I2 H2 σ2 s p2 k2 => ⟨I2, F, env', k2, p.step s p2⟩
    | bk => exact fun p => p
    | ct => exact fun p => p
    | rt v => exact fun p => p
  | exc e env' => exact fun p => p
  | stuck => exact fun p => p
theorem dss_one {f : SM} (h1 : PS X st (tsD X.K κ W P f)) : PSs X [st] (tsD X.K κ W P f) := pss_imp (pss_one h1) fun _ _ _ h => h
theorem d_pass : PS X (.Pass pos) (tsD X.K κ W P sNx) := ps_imp ps_pass fun Dn σ H h => by
  obtain ⟨I, F, env, k, p⟩ := h
  exact p.nx k (Step.refl F I) (Pin.refl P σ)
theorem d_brk : PS X (.Break pos) (tsD X.K κ W P sBrk) := ps_imp ps_break fun Dn σ H h => by
  obtain ⟨I, F, env, k, p⟩ := h
  exact p I H σ (Step.refl F I) (Pin.refl P σ) k
theorem d_never : PS X st (tsD X.K κ W P sNever) := ps_imp ps_never fun Dn σ H h => by
  obtain ⟨I, F, env, k, p⟩ := h
  exact p
theorem dss_never {sts : List PySem.Stmt} : PSs X sts (tsD X.K κ W P sNever) := pss_imp pss_never fun Dn σ H h => by
  obtain ⟨I, F, env, k, p⟩ := h
  exact p
theorem d_if {c : PySem.Expr} {x y : List PySem.Stmt} {t : EM Bool} {f g : SM} (hc : PT X c (ttD X.K κ W t)) (ha : PSs X x (tsD X.K κ W P f)) (hb : PSs X y (tsD X.K κ W P g)) : PS X (.If c x y pos) (tsD X.K κ W P (sIf t f g)) :=
  ps_imp (ps_if hc ha hb) fun Dn σ H h => by
    obtain ⟨I, F, env, k, p⟩ := h
    refine ⟨I, F, env, k, Post.mono (p.ex (R := RB)) ?_⟩
    rintro c H1 ⟨I1, env1, c', nfp, s1, k1, ⟨rfl, rfl⟩, p1⟩
    cases c with
    | true => exact ⟨I1, F, env1, k1, p1⟩
    | false => exact ⟨I1, F, env1, k1, p1⟩
theorem d_ret {f : EM SV} (he : PE X e (teS X.K κ W f)) : PS X (.Return (some e) pos) (tsD X.K κ W P (sRet f)) := ps_imp (ps_ret he) fun Dn σ H h => by
  obtain ⟨I, F, env, k, p⟩ := h
  refine ⟨I, F, env, k, Post.mono (p.ex (R := RS X.K κ)) ?_⟩
  rintro v H1 ⟨I1, env1, sv, nfp, s1, k1, r1, p1⟩
  exact p1 I1 H1 σ (Step.refl F I1) (Pin.refl P σ) v nfp k1 r1
theorem d_retN : PS X (.Return none pos) (tsD X.K κ W P sRetN) := ps_imp ps_retN fun Dn σ H h => by
  obtain ⟨I, F, env, k, p⟩ := h
  exact p I H σ (Step.refl F I) (Pin.refl P σ) .non [] k (.dat .non)
theorem d_drop {f : EM D} (he : PE X e (teD X.K κ W f)) (hs : swapsWith e none pos.line X.env = pure false := by rfl) : PS X (.Expr e pos) (tsD X.K κ W P (sDrop f)) := ps_imp (ps_expr he hs) fun Dn σ H h => by
  obtain ⟨I, F, env, k, p⟩ := h
  refine ⟨I, F, env, k, Post.mono (p.ex (R := RD X.K κ)) ?_⟩
  rintro v H1 ⟨I1, env1, sv, nfp, s1, k1, ⟨r1, rfl⟩, p1⟩
  exact p1.nx k1 (Step.refl F I1) (Pin.refl P σ)
/-- x = e -/
theorem d_asg {i : Nat} {x : Str} {f : EM SV} {pos' : Pos} (hN : X.N.Nodup) (he : PE X e (teS X.K κ W f)) (hP : i ∉ P := by decide) (hi : X.N[i]? = some x := by rfl) (hx : Loc X.env.scope x := by first | exact Or.inl rfl | exact Or.inr rfl) (hs : swapsWith e (some (.Name x pos')) pos.line X.env = pure false := by rfl) (hf : X.fn x = true ∨ X.env.scope.names.lookup x = some .local := by first | exact .inl rfl | exact .inr rfl | assumption) :
    PS X (.Assign [.Name x pos'] e pos) (tsD X.K κ W P (sAsg i f)) := ps_imp (ps_set hN hi hx he hs hf) fun Dn σ H h => by
  obtain ⟨I, F, env, k, p⟩ := h
  refine ⟨I, F, env, k, Post.mono (p.ex (R := RS X.K κ)) ?_⟩
  rintro v H1 ⟨I1, env1, sv, nfp, s1, k1, r1, p1⟩
  unfold setSlot at p1
  split at p1
  · rename_i hl
    have k2 := Ok.store (i := i) (nfp := []) (by rw [List.append_nil]; exact k1) hl r1
    exact p1.nx k2 (Step.refl F I1) (Pin.set hP)
  · exact p1.elim
/-! ### targets -/
def TGok (K : PySem.W.Frag) (κ : Nat → Addr) (P : List Nat) (t : TG) (g : TM) : Prop := ∀ (I F H : Hp) (σ : L2.St) (env env' : Slots) (v : V) (d : D) (Q : L2.St → Hp → Prop) (nfp : List Addr), Ok K κ I F H σ env nfp → Rp K κ I v d → g d env = some env' →
    (∀ σ', Pin P σ σ' → Ok K κ I F H σ' env' nfp → Q σ' H) → t v σ H Q
structure PGd (X : Cx) (κ : Nat → Addr) (P : List Nat) (tg : PySem.Expr) (t : TG) (g : TM) : Prop where
  pg : PG X tg t
  ok : TGok X.K κ P t g
structure PGds (X : Cx) (κ : Nat → Addr) (P : List Nat) (tg : List PySem.Expr) (t : TGs) (g : List TM) : Prop where
  pg : PGs X tg t
  ok : ∀ (I F H : Hp) (σ : L2.St) (env env' : Slots) (v : List V) (d : List D) (Q : L2.St → Hp → Prop) (nfp : List Addr), Ok X.K κ I F H σ env nfp → RpA X.K κ I v d → gTs g d env = some env' →
    (∀ σ', Pin P σ σ' → Ok X.K κ I F H σ' env' nfp → Q σ' H) → t v σ H Q
theorem dg_name {i : Nat} {x : Str} (hN : X.N.Nodup) (hP : i ∉ P := by decide) (hi : X.N[i]? = some x := by rfl) (hx : Loc X.env.scope x := by first | exact Or.inl rfl | exact Or.inr rfl) (hf : X.fn x = true ∨ X.env.scope.names.lookup x = some .local := by first | exact .inl rfl | exact .inr rfl | assumption) : PGd X κ P (.Name x pos) (gName i) (gN i) :=
  ⟨pg_name hN hi hx hf, fun I F H σ env env' v d Q nfp k r e q => by
    unfold gN at e
    split at e
    · rename_i hl
      cases e
      exact q _ (Pin.set hP) (Ok.store (f1 := []) k hl (.dat r))
    · cases e⟩
theorem dgs_nil : PGds X κ P [] gNil [] := ⟨pgs_nil, fun I F H σ env env' v d Q nfp k r e q => by
  cases r with
  | nil => simp only [gTs] at e; cases e; exact ⟨rfl, q σ (Pin.refl P σ) k⟩
  | cons _ _ => simp only [gTs] at e; cases e⟩
theorem dgs_cons {es : List PySem.Expr} {t : TG} {ts : TGs} {g : TM} {gs : List TM} (h1 : PGd X κ P e t g) (h2 : PGds X κ P es ts gs) (hs : (assignEach (e :: es) X.env).map (·.2) = assign e X.env :: (assignEach es X.env).map (·.2) := by rfl) : PGds X κ P (e :: es) (gCons t ts) (g :: gs) := by
  refine ⟨pgs_cons h1.pg h2.pg hs, fun I F H σ env env' v d Q nfp k r e q => ?_⟩
  cases r with
  | nil => simp only [gTs] at e; cases e
  | cons r rs =>
    simp only [gTs] at e
    rename_i d0 ds
    cases hg : g d0 env with
    | none => rw [hg] at e; cases e
    | some env1 =>
      rw [hg] at e
      refine ⟨_, _, rfl, h1.ok I F H σ env env1 _ _ _ nfp k r hg fun σ1 p1 k1 => ?_⟩
      exact h2.ok I F H σ1 env1 env' _ _ Q nfp k1 rs e fun σ2 p2 k2 => q σ2 (p1.trans p2) k2
theorem gTs_len {env' : Slots} : ∀ (gs : List TM) (ds : List D) (env : Slots), gTs gs ds env = some env' → ds.length = gs.length := by
  intro gs
  induction gs with
  | nil => intro ds env e; cases ds with
    | nil => rfl
    | cons _ _ => simp only [gTs] at e; cases e
  | cons g gs ih => intro ds env e; cases ds with
    | nil => simp only [gTs] at e; cases e
    | cons d ds =>
      simp only [gTs] at e
      cases hg : g d env with
      | none => rw [hg] at e; cases e
      | some env1 => rw [hg] at e; simp [ih ds env1 e]
theorem dg_tup {es : List PySem.Expr} {k : Nat} {n : Nat} {ts : TGs} {gs : List TM} (hc : X.calm = true) (h : PGds X κ P es ts gs) (hn2 : gs.length = n := by rfl) (hn : (assignEach es X.env).length = n := by rfl) (hst : (assignEach es X.env).findIdx? (·.1) = none := by rfl) : PGd X κ P (.Tuple es k pos) (gTup X.K n ts) (gT gs) := by
  refine ⟨pg_tup hc h.pg hn hst, fun I F H σ env env' v d Q nfp k r e q => ?_⟩
  cases r <;> simp only [gT] at e <;> try (cases e)
  rename_i a vs ds h1 r1
  exact ⟨_, _, rfl, SqT.of (k.ext _ _ h1), by rw [r1.length, gTs_len gs ds env e]; exact hn2, h.ok I F H σ env env' _ _ Q nfp k r1 e q⟩
/-- a, b = e -/
theorem d_asgT {tg : PySem.Expr} {f : EM D} {t : TG} {g : TM} (he : PE X e (teD X.K κ W f)) (hg : PGd X κ P tg t g) (hs : swapsWithSole [tg] e pos.line X.env = pure false := by rfl) (hw : swappedStores [tg] e X.env = pure none := by rfl)
    (h1 : (assignEach [tg] X.env).map (·.2) = [assign tg X.env] := by rfl) : PS X (.Assign [tg] e pos) (tsD X.K κ W P (sAsgT g f)) := by
  refine ps_imp (ps_asg he hg.pg hs hw h1) fun Dn σ H h => ?_
  obtain ⟨I, F, env, k, p⟩ := h
  refine ⟨I, F, env, k, Post.mono (p.ex (R := RD X.K κ)) ?_⟩
  rintro v H1 ⟨I1, env1, d, nfp, s1, k1, ⟨r1, rfl⟩, p1⟩
  cases hgd : g d env1 with
  | none => simp only [hgd] at p1; exact p1.elim
  | some env' =>
    simp only [hgd] at p1
    exact hg.ok I1 F H1 σ env1 env' v d _ [] k1 r1 hgd fun σ' pn k' => p1.nx k' (Step.refl F I1) pn
/-- a, b = x, y written -/
def sPar (i j : Nat) (g : EM (List D)) : SM := g.bind fun ds => fun env => match ds with
  | [x, y] => if i < env.length ∧ j < env.length then .ok .nx ((env.set i (some (.dat x))).set j (some (.dat y))) else .stuck
  | _ => .stuck
theorem d_par {i j : Nat} {x y : Str} {g : EM (List D)} {px py pt : Pos} {kt k2 pt2} (hc : X.calm = true) (hN : X.N.Nodup) (ha : PA X [a, b] (taD X.K κ W g)) (hP : i ∉ P := by decide) (hP2 : j ∉ P := by decide) (hi : X.N[i]? = some x := by rfl) (hj : X.N[j]? = some y := by rfl) (hij : i ≠ j := by decide)
    (hx : X.env.scope.names.lookup x = some .local := by rfl) (hy : X.env.scope.names.lookup y = some .local := by rfl)
    (hw : swappedStores [.Tuple [.Name x px, .Name y py] kt pt] (.Tuple [a, b] k2 pt2) X.env = pure (some [x, y]) := by rfl)
    (hs : swapsWithSole [.Tuple [.Name x px, .Name y py] kt pt] (.Tuple [a, b] k2 pt2) pos.line X.env = pure false := by rfl) :
    PS X (.Assign [.Tuple [.Name x px, .Name y py] kt pt] (.Tuple [a, b] k2 pt2) pos) (tsD X.K κ W P (sPar i j g)) := by
  refine ps_imp (ps_par hc hN hi hj hij hx hy ha hw hs) fun Dn σ H h => ?_
  obtain ⟨I, F, env, k, p⟩ := h
  refine ⟨I, F, env, k, Post.mono (p.ex (R := RA X.K κ)) ?_⟩
  rintro vs H1 ⟨I1, env1, ds, nfp, s1, k1, ⟨r1, rfl⟩, p1⟩
  split at p1
  · split at p1
    · rename_i hl
      obtain ⟨v, w, rfl, rv, rw'⟩ := r1.two
      have k2 := Ok.store (i := i) (f1 := []) k1 hl.1 (.dat rv)
      have k3 := Ok.store (i := j) (f1 := []) k2 (by rw [List.length_set]; exact hl.2) (.dat rw')
      exact ⟨v, w, rfl, p1.nx k3 (Step.refl F I1) ((Pin.set hP).trans (Pin.set hP2))⟩
    · exact p1.elim
  · exact p1.elim
/-- x op= e, x data -/
theorem d_aug {i : Nat} {x : Str} {op : PySem.Operator} {o : D → D → Option D} {f : EM D} {pos' : Pos} (hN : X.N.Nodup) (ho : OpD X κ (inplaceOp op) o) (he : PE X e (teD X.K κ W f)) (hP : i ∉ P := by decide) (hi : X.N[i]? = some x := by rfl) (hx : Loc X.env.scope x := by first | exact Or.inl rfl | exact Or.inr rfl) (hf : X.fn x = true ∨ X.env.scope.names.lookup x = some .local := by first | exact .inl rfl | exact .inr rfl | assumption) :
    PS X (.AugAssign (.Name x pos') op e pos) (tsD X.K κ W P (sAug i o f)) := by
  obtain ⟨r, h1, h2⟩ := ho
  have ho' : PIp X op r := fun pins s σ H x y v u Q I rx ry h => h1 pins s σ H x y v u Q I rx ry h
  refine ps_imp (ps_aug hN hi hx he ho' hf) fun Dn σ H h => ?_
  obtain ⟨I, F, env, k, p⟩ := h
  unfold sAug at p
  split at p
  · rename_i d q
    obtain ⟨v, f1, hv, h2'⟩ := k.at_ q
    cases h2' with
    | dat rv =>
    refine ⟨v, hv, I, F, env, k, Post.mono (p.ex (R := RD X.K κ)) ?_⟩
    rintro y H1 ⟨I1, env1, dy, nfp, s1, k1, ⟨ry, rfl⟩, p1⟩
    obtain ⟨z, ez, p2⟩ := p1.lift
    refine h2 σ I1 F H1 env1 v y d dy z _ k1 (rv.mono s1.ext) ry ez fun I' H' w s o rw' => ?_
    unfold setSlot at p2
    split at p2
    · rename_i hl
      have k2 := Ok.store (i := i) (f1 := []) o hl (.dat rw')
      exact p2.nx k2 s (Pin.set hP)
    · exact p2.elim
  · exact p.elim
end
end DL

/-! DL8: loops, comprehensions -/
namespace DL
open PySem L2
/-- an iterator goes through ds -/
structure WalkD (K : PySem.W.Frag) (κ : Nat → Addr) (I : Hp) (J : It) (ds : List D) : Prop where
  go : ∀ i H, i < ds.length → Same I H → J.go i H
  stop : ∀ H, Same I H → J.stop ds.length H
  yld : ∀ i H x H', i < ds.length → Same I H → J.yld i H x H' → ∃ d, ds[i]? = some d ∧ ∀ I1, Same I I1 → Same I1 H →
    (H' = H ∧ Rp K κ I1 x d) ∨ ∃ p o, H p = none ∧ H' = upd H p o ∧ ∀ I2, Same I1 I2 → I2 p = some o → Rp K κ I2 x d
theorem WalkD.mono {K : PySem.W.Frag} {κ : Nat → Addr} {I I' : Hp} {J : It} {ds : List D} (s : Same I I') (w : WalkD K κ I J ds) : WalkD K κ I' J ds :=
  ⟨fun i H h e => w.go i H h (s.trans e), fun H e => w.stop H (s.trans e), fun i H x H' h e y => by
    obtain ⟨d, h1, h2⟩ := w.yld i H x H' h (s.trans e) y
    exact ⟨d, h1, fun I1 s1 s2 => h2 I1 (s.trans s1) s2⟩⟩
def RI (K : PySem.W.Frag) (κ : Nat → Addr) : Hp → Hp → It → List D → List Addr → Prop := fun I _ J ds nfp => WalkD K κ I J ds ∧ nfp = []
abbrev tiD (K : PySem.W.Frag) (κ : Nat → Addr) (W : WX) (f : EM (List D)) : TI := tG K κ (RI K κ) W f
theorem pi_imp {X : Cx} {tg e : PySem.Expr} {t t' : TI} (h : PI X tg e t) (i : ∀ σ H Q, t' σ H Q → t σ H Q) : PI X tg e t' := ⟨fun pins s σ H Q I hw => h.run pins s σ H Q I (i σ H Q hw)⟩
theorem pi_or {X : Cx} {tg e : PySem.Expr} {t t' : TI} (h : PI X tg e t) (h' : PI X tg e t') : PI X tg e (fun σ H Q => t σ H Q ∨ t' σ H Q) := ⟨fun pins s σ H Q I hw => hw.elim (h.run pins s σ H Q I) (h'.run pins s σ H Q I)⟩
def itemsOf : D → Option (List D)
  | .lst ds => some ds
  | .tup ds => some ds
  | .scr ns => some (ns.map D.int)
  | _ => none
def iSeq (f : EM D) : EM (List D) := f.bind fun d => lift (itemsOf d)
def rangeD (a b : Int) : List D := (List.range (b - a).toNat).map fun i => .int (a + (i : Nat))
def smallI (i : Int) : Prop := -(2 ^ 62) ≤ i ∧ i < 2 ^ 62
noncomputable instance (i : Int) : Decidable (smallI i) := Classical.propDecidable _
noncomputable def iRange (g : EM (List D)) : EM (List D) := g.bind fun ds => match ds with
  | [.int j] => lift (if smallI j then some (rangeD 0 j) else none)
  | _ => fun _ => .stuck
noncomputable def iRange2 (g : EM (List D)) : EM (List D) := g.bind fun ds => match ds with
  | [.int i, .int j] => lift (if smallI i ∧ smallI j then some (rangeD i j) else none)
  | _ => fun _ => .stuck
def enumD (ds : List D) : List D := (List.range ds.length).map fun i => .tup [.int (i : Nat), ds.getD i .non]
def iEnumD (g : EM (List D)) : EM (List D) := g.bind fun ds => match ds with
  | [.lst xs] => EM.pure (enumD xs)
  | _ => fun _ => .stuck
def zipD (xs ys : List D) : List D := (xs.zip ys).map fun p => .tup [p.1, p.2]
def iZipD (g : EM (List D)) : EM (List D) := g.bind fun ds => match ds with
  | [.lst xs, .lst ys] => EM.pure (zipD xs ys)
  | [.tup xs, .tup ys] => EM.pure (zipD xs ys)
  | _ => fun _ => .stuck
def iRevD (g : EM (List D)) : EM (List D) := g.bind fun ds => match ds with
  | [.lst xs] => EM.pure xs.reverse
  | _ => fun _ => .stuck
section
variable {K : PySem.W.Frag} {κ : Nat → Addr} {I : Hp}
theorem walkD_list {a : Addr} {vs : List V} {ds : List D} (h : SqL K I a vs) (r : RpA K κ I vs ds) : WalkD K κ I (Itl K a) ds where
  go := fun i H hi s => by
    obtain ⟨v, hv, _⟩ := r.get (List.getElem?_eq_getElem hi)
    exact ⟨vs, v, same_sq s h, hv⟩
  stop := fun H s => ⟨vs, same_sq s h, by rw [r.length]; exact Nat.le_refl _⟩
  yld := fun i H x H' hi s y => by
    obtain ⟨d, h1, h2⟩ := r.getV (y.2 vs (same_sq s h))
    exact ⟨d, h1, fun I1 s1 s2 => .inl ⟨y.1, h2.mono s1⟩⟩
theorem same_sqT {I I' : Hp} {a : Addr} {xs : List V} (e : Same I I') (h : SqT K I a xs) : SqT K I' a xs := by
  rcases h with (h | ⟨o, h⟩) | h
  · exact .inl (.inl (e _ _ h))
  · exact .inl (.inr ⟨o, e _ _ h⟩)
  · exact .inr h
theorem walkD_tup {a : Addr} {vs : List V} {ds : List D} (h : SqT K I a vs) (r : RpA K κ I vs ds) : WalkD K κ I (Itt K a) ds where
  go := fun i H hi s => by
    obtain ⟨v, hv, _⟩ := r.get (List.getElem?_eq_getElem hi)
    exact ⟨vs, v, same_sqT s h, hv⟩
  stop := fun H s => ⟨vs, same_sqT s h, by rw [r.length]; exact Nat.le_refl _⟩
  yld := fun i H x H' hi s y => by
    obtain ⟨d, h1, h2⟩ := r.getV (y.2 vs (same_sqT s h))
    exact ⟨d, h1, fun I1 s1 s2 => .inl ⟨y.1, h2.mono s1⟩⟩
theorem rangeD_get {a b : Int} {i : Nat} (h : i < (b - a).toNat) : (rangeD a b)[i]? = some (.int (a + (i : Nat))) := by
  unfold rangeD
  rw [List.getElem?_map, List.getElem?_range h]; rfl
theorem walkD_range {a b : Int} : WalkD K κ I (Itr a (b - a).toNat) (rangeD a b) where
  go := fun i H hi s => by
    show i < (b - a).toNat
    simpa [rangeD] using hi
  stop := fun H s => by
    show (b - a).toNat ≤ (rangeD a b).length
    simp [rangeD]
  yld := fun i H x H' hi s y => by
    obtain ⟨rfl, rfl⟩ := y
    exact ⟨_, rangeD_get (by simpa [rangeD] using hi), fun I1 s1 s2 => .inl ⟨rfl, .int _⟩⟩
theorem enumD_get {ds : List D} {i : Nat} {d : D} (h : ds[i]? = some d) : (enumD ds)[i]? = some (.tup [.int (i : Nat), d]) := by
  have hi := (List.getElem?_eq_some_iff.mp h).1
  unfold enumD
  rw [List.getElem?_map, List.getElem?_range hi]
  simp [h]
theorem walkD_enum {a : Addr} {vs : List V} {ds : List D} (h : SqL K I a vs) (r : RpA K κ I vs ds) : WalkD K κ I (Ite K a) (enumD ds) where
  go := fun i H hi s => by
    have hi : i < ds.length := by simpa [enumD] using hi
    obtain ⟨v, hv, _⟩ := r.get (List.getElem?_eq_getElem hi)
    exact ⟨vs, v, same_sq s h, hv⟩
  stop := fun H s => ⟨vs, same_sq s h, by rw [r.length]; simp [enumD]⟩
  yld := fun i H x H' hi s y => by
    obtain ⟨T, x', rfl, hT, rfl, f⟩ := y
    obtain ⟨d, h1, h2⟩ := r.getV (f vs (same_sq s h))
    exact ⟨_, enumD_get h1, fun I1 s1 s2 => .inr ⟨T, _, hT, rfl, fun I2 s3 e => .tup e (.cons (.int _) (.cons ((h2.mono s1).mono s3) .nil))⟩⟩
theorem zipD_get {xs ys : List D} {i : Nat} {x y : D} (h : xs[i]? = some x) (h' : ys[i]? = some y) : (zipD xs ys)[i]? = some (.tup [x, y]) := by
  unfold zipD
  rw [List.getElem?_map, show (xs.zip ys)[i]? = some (x, y) from List.getElem?_zip_eq_some.mpr ⟨h, h'⟩]; rfl
theorem walkD_zip {a b : Addr} {vs us : List V} {ds es : List D} (h : SqL K I a vs) (h' : SqL K I b us) (r : RpA K κ I vs ds) (r' : RpA K κ I us es) : WalkD K κ I (Itz K a b) (zipD ds es) where
  go := fun i H hi s => by
    have hi : i < min ds.length es.length := by simpa [zipD] using hi
    obtain ⟨v, hv, _⟩ := r.get (List.getElem?_eq_getElem (by omega : i < ds.length))
    obtain ⟨u, hu, _⟩ := r'.get (List.getElem?_eq_getElem (by omega : i < es.length))
    exact ⟨vs, us, v, u, same_sq s h, same_sq s h', hv, hu⟩
  stop := fun H s => ⟨vs, us, same_sq s h, same_sq s h', by rw [r.length, r'.length]; simp [zipD]; omega⟩
  yld := fun i H x H' hi s y => by
    obtain ⟨T, x', y', rfl, hT, rfl, f, f'⟩ := y
    obtain ⟨d, h1, h2⟩ := r.getV (f vs (same_sq s h))
    obtain ⟨d', h1', h2'⟩ := r'.getV (f' us (same_sq s h'))
    exact ⟨_, zipD_get h1 h1', fun I1 s1 s2 => .inr ⟨T, _, hT, rfl, fun I2 s3 e => .tup e (.cons ((h2.mono s1).mono s3) (.cons ((h2'.mono s1).mono s3) .nil))⟩⟩
theorem walkD_zipT {a b : Addr} {vs us : List V} {ds es : List D} (h : SqT K I a vs) (h' : SqT K I b us) (r : RpA K κ I vs ds) (r' : RpA K κ I us es) : WalkD K κ I (RZ.ItzT K a b) (zipD ds es) where
  go := fun i H hi s => by
    have hi : i < min ds.length es.length := by simpa [zipD] using hi
    obtain ⟨v, hv, _⟩ := r.get (List.getElem?_eq_getElem (by omega : i < ds.length))
    obtain ⟨u, hu, _⟩ := r'.get (List.getElem?_eq_getElem (by omega : i < es.length))
    exact ⟨vs, us, v, u, same_sqT s h, same_sqT s h', hv, hu⟩
  stop := fun H s => ⟨vs, us, same_sqT s h, same_sqT s h', by rw [r.length, r'.length]; simp [zipD]; omega⟩
  yld := fun i H x H' hi s y => by
    obtain ⟨T, x', y', rfl, hT, rfl, f, f'⟩ := y
    obtain ⟨d, h1, h2⟩ := r.getV (f vs (same_sqT s h))
    obtain ⟨d', h1', h2'⟩ := r'.getV (f' us (same_sqT s h'))
    exact ⟨_, zipD_get h1 h1', fun I1 s1 s2 => .inr ⟨T, _, hT, rfl, fun I2 s3 e => .tup e (.cons ((h2.mono s1).mono s3) (.cons ((h2'.mono s1).mono s3) .nil))⟩⟩
theorem walkD_rev {a : Addr} {vs : List V} {ds : List D} (h : SqL K I a vs) (r : RpA K κ I vs ds) : WalkD K κ I (Itv K a vs.length) ds.reverse where
  go := fun i H hi s => by
    have hi : i < ds.length := by simpa using hi
    have hl := r.length
    obtain ⟨v, hv, _⟩ := r.get (List.getElem?_eq_getElem (show ds.length - 1 - i < ds.length by omega))
    exact ⟨by omega, vs, v, same_sq s h, by rw [hl]; exact hv⟩
  stop := fun H s => by
    show vs.length ≤ _
    rw [r.length]; simp
  yld := fun i H x H' hi s y => by
    have hi : i < ds.length := by simpa using hi
    obtain ⟨d, h1, h2⟩ := r.getV (y.2 vs (same_sq s h))
    rw [r.length] at h1
    exact ⟨d, by rw [List.getElem?_reverse hi]; exact h1, fun I1 s1 s2 => .inl ⟨y.1, h2.mono s1⟩⟩
end
section
variable {X : Cx} {κ : Nat → Addr} {W : WX} {P : List Nat} {tg e a b : PySem.Expr} {pos : Pos}
theorem di_seq {f : EM D} (he : PE X e (teD X.K κ W f)) : PI X tg e (tiD X.K κ W (iSeq f)) := by
  refine pi_imp (pi_or (pi_list he) (pi_tup he)) fun σ H R h => ?_
  obtain ⟨I, F, env, k, p⟩ := h
  cases hf : f env with
  | ok d0 env0 =>
    cases d0 with
    | tup ds =>
      refine .inr ⟨I, F, env, k, Post.mono (p.bindE (R := RD X.K κ)) ?_⟩
      rintro x H1 ⟨I1, env1, d, nfp, s1, k1, ⟨rx, rfl⟩, e1, p1⟩
      rw [hf] at e1
      cases e1
      obtain ⟨d', e', p2⟩ := p1.lift1
      cases rx with
      | tup h r =>
        cases e'
        exact ⟨_, rfl, ⟨_, SqT.of (k1.ext _ _ h)⟩, p2 I1 H1 _ [] (Step.refl F I1) k1 ⟨walkD_tup (SqT.of h) r, rfl⟩⟩
    | lst ds =>
      refine .inl ⟨I, F, env, k, Post.mono (p.bindE (R := RD X.K κ)) ?_⟩
      rintro x H1 ⟨I1, env1, d, nfp, s1, k1, ⟨rx, rfl⟩, e1, p1⟩
      rw [hf] at e1
      cases e1
      obtain ⟨d', e', p2⟩ := p1.lift1
      cases rx with
      | lst h r =>
        cases e'
        exact ⟨_, rfl, ⟨_, SqL.of (k1.ext _ _ h)⟩, p2 I1 H1 _ [] (Step.refl F I1) k1 ⟨walkD_list (SqL.of h) r, rfl⟩⟩
    | scr ds =>
      refine .inl ⟨I, F, env, k, Post.mono (p.bindE (R := RD X.K κ)) ?_⟩
      rintro x H1 ⟨I1, env1, d, nfp, s1, k1, ⟨rx, rfl⟩, e1, p1⟩
      rw [hf] at e1
      cases e1
      obtain ⟨d', e', p2⟩ := p1.lift1
      cases rx with
      | scr h =>
        cases e'
        exact ⟨_, rfl, ⟨_, same_sq k1.ext h⟩, p2 I1 H1 _ [] (Step.refl F I1) k1 ⟨walkD_list h RpA.ints, rfl⟩⟩
    | non => unfold iSeq EM.bind at p; rw [hf] at p; exact p.elim
    | bl _ => unfold iSeq EM.bind at p; rw [hf] at p; exact p.elim
    | int _ => unfold iSeq EM.bind at p; rw [hf] at p; exact p.elim
    | str _ => unfold iSeq EM.bind at p; rw [hf] at p; exact p.elim
    | any => unfold iSeq EM.bind at p; rw [hf] at p; exact p.elim
    | dct _ => unfold iSeq EM.bind at p; rw [hf] at p; exact p.elim
    | obj _ _ => unfold iSeq EM.bind at p; rw [hf] at p; exact p.elim
  | exc ex env0 =>
    refine .inl ⟨I, F, env, k, ?_⟩
    unfold iSeq EM.bind at p
    rw [hf] at p ⊢
    exact p
  | stuck => unfold iSeq EM.bind at p; rw [hf] at p; exact p.elim
theorem di_range1 {g : EM (List D)} {p : Pos} (hm : X.mg "range" = none) (ha : PA X [a] (taD X.K κ W g)) (hg : Gl X "range" := by rfl) (hs : starEach [a] X.env = [(false, eval a X.env)] := by rfl) : PI X tg (.Call (.Name "range" p) [a] [] pos) (tiD X.K κ W (iRange g)) := by
  refine pi_imp (pi_range1 hg hm ha hs) fun σ H R h => ?_
  obtain ⟨I, F, env, k, p⟩ := h
  refine ⟨I, F, env, k, Post.mono (p.bind (R := RA X.K κ)) ?_⟩
  rintro xs H1 ⟨I1, env1, ds, nfp, s1, k1, ⟨rx, rfl⟩, p1⟩
  split at p1
  · obtain ⟨d', e', p2⟩ := p1.lift1
    split at e'
    · rename_i hz
      cases e'
      obtain ⟨v, rfl, r⟩ := rx.one
      cases r
      refine ⟨_, rfl, hz.1, hz.2, p2 I1 H1 _ [] (Step.refl F I1) k1 ⟨?_, rfl⟩⟩
      rename_i j
      have := walkD_range (K := X.K) (κ := κ) (I := I1) (a := 0) (b := j)
      simpa using this
    · cases e'
  · exact p1.elim
theorem di_range2 {g : EM (List D)} {p : Pos} (hm : X.mg "range" = none) (ha : PA X [a, b] (taD X.K κ W g)) (hg : Gl X "range" := by rfl) (hs : starEach [a, b] X.env = [(false, eval a X.env), (false, eval b X.env)] := by rfl) (hs2 : starEach [b] X.env = [(false, eval b X.env)] := by rfl) : PI X tg (.Call (.Name "range" p) [a, b] [] pos) (tiD X.K κ W (iRange2 g)) := by
  refine pi_imp (pi_range2 hg hm ha hs hs2) fun σ H R h => ?_
  obtain ⟨I, F, env, k, p⟩ := h
  refine ⟨I, F, env, k, Post.mono (p.bind (R := RA X.K κ)) ?_⟩
  rintro xs H1 ⟨I1, env1, ds, nfp, s1, k1, ⟨rx, rfl⟩, p1⟩
  split at p1
  · obtain ⟨d', e', p2⟩ := p1.lift1
    split at e'
    · rename_i hz
      cases e'
      obtain ⟨v, v', rfl, r, r'⟩ := rx.two
      cases r; cases r'
      exact ⟨_, _, rfl, ⟨hz.1.1, hz.1.2, hz.2.1, hz.2.2⟩, p2 I1 H1 _ [] (Step.refl F I1) k1 ⟨walkD_range, rfl⟩⟩
    · cases e'
  · exact p1.elim
theorem di_enum {g : EM (List D)} {p tpos : Pos} {elts : List PySem.Expr} {kk : Nat} (hm : X.mg "enumerate" = none) (ha : PA X [e] (taD X.K κ W g)) (hg : Gl X "enumerate" := by rfl) (hs : starEach [e] X.env = [(false, eval e X.env)] := by rfl) : PI X (.Tuple elts kk tpos) (.Call (.Name "enumerate" p) [e] [] pos) (tiD X.K κ W (iEnumD g)) := by
  refine pi_imp (pi_enum hg hm ha hs) fun σ H R h => ?_
  obtain ⟨I, F, env, k, p⟩ := h
  refine ⟨I, F, env, k, Post.mono (p.bind (R := RA X.K κ)) ?_⟩
  rintro xs H1 ⟨I1, env1, ds, nfp, s1, k1, ⟨rx, rfl⟩, p1⟩
  split at p1
  · obtain ⟨v, rfl, r⟩ := rx.one
    cases r with
    | lst h r => exact ⟨_, _, rfl, SqL.of (k1.ext _ _ h), p1 I1 H1 _ [] (Step.refl F I1) k1 ⟨walkD_enum (SqL.of h) r, rfl⟩⟩
  · exact p1.elim
theorem di_rev {g : EM (List D)} {p : Pos} (hm : X.mg "reversed" = none) (ha : PA X [e] (taD X.K κ W g)) (hg : Gl X "reversed" := by rfl) (hs : starEach [e] X.env = [(false, eval e X.env)] := by rfl) : PI X tg (.Call (.Name "reversed" p) [e] [] pos) (tiD X.K κ W (iRevD g)) := by
  refine pi_imp (pi_reversed hg hm ha hs) fun σ H R h => ?_
  obtain ⟨I, F, env, k, p⟩ := h
  refine ⟨I, F, env, k, Post.mono (p.bind (R := RA X.K κ)) ?_⟩
  rintro xs H1 ⟨I1, env1, ds, nfp, s1, k1, ⟨rx, rfl⟩, p1⟩
  split at p1
  · obtain ⟨v, rfl, r⟩ := rx.one
    cases r with
    | lst h r => exact ⟨_, _, rfl, SqL.of (k1.ext _ _ h), p1 I1 H1 _ [] (Step.refl F I1) k1 ⟨walkD_rev (SqL.of h) r, rfl⟩⟩
  · exact p1.elim
theorem di_zip {g : EM (List D)} {p tpos : Pos} {elts : List PySem.Expr} {kk : Nat} (hm : X.mg "zip" = none) (ha : PA X [a, b] (taD X.K κ W g)) (hg : Gl X "zip" := by rfl) (hs : starEach [a, b] X.env = (false, eval a X.env) :: starEach [b] X.env := by rfl) (hpl : (backTo pos (starEach [b] X.env)).any (·.1) = false := by rfl) : PI X (.Tuple elts kk tpos) (.Call (.Name "zip" p) [a, b] [] pos) (tiD X.K κ W (iZipD g)) := by
  refine pi_imp (RZ.pi_zipA hg hm ha hs hpl) fun σ H R h => ?_
  obtain ⟨I, F, env, k, p⟩ := h
  refine ⟨I, F, env, k, Post.mono (p.bind (R := RA X.K κ)) ?_⟩
  rintro xs H1 ⟨I1, env1, ds, nfp, s1, k1, ⟨rx, rfl⟩, p1⟩
  split at p1
  · obtain ⟨v, v', rfl, r, r'⟩ := rx.two
    cases r with
    | lst h r => cases r' with
      | lst h' r' => exact ⟨_, _, _, _, rfl, .inl ⟨SqL.of (k1.ext _ _ h), SqL.of (k1.ext _ _ h'), p1 I1 H1 _ [] (Step.refl F I1) k1 ⟨walkD_zip (SqL.of h) (SqL.of h') r r', rfl⟩⟩⟩
  · obtain ⟨v, v', rfl, r, r'⟩ := rx.two
    cases r with
    | tup h r => cases r' with
      | tup h' r' => exact ⟨_, _, _, _, rfl, .inr ⟨SqT.of (k1.ext _ _ h), SqT.of (k1.ext _ _ h'), p1 I1 H1 _ [] (Step.refl F I1) k1 ⟨walkD_zipT (SqT.of h) (SqT.of h') r r', rfl⟩⟩⟩
  · exact p1.elim
end
/-! ### for, while -/
def loopD (g : TM) (body : SM) : List D → SM
  | [], env => .ok .nx env
  | d :: ds, env => match g d env with
    | none => .stuck
    | some env1 => match body env1 with
      | .ok .nx e => loopD g body ds e
      | .ok .ct e => loopD g body ds e
      | .ok .bk e => .ok .nx e
      | r => r
def sFor (it : EM (List D)) (g : TM) (body : SM) : SM := it.bind fun ds => loopD g body ds
def whileD (c : EM Bool) (body : SM) : Nat → SM
  | 0 => fun _ => .stuck
  | n + 1 => c.bind fun b => if b = true then (fun env => match body env with
      | .ok .nx e => whileD c body n e
      | .ok .ct e => whileD c body n e
      | .ok .bk e => .ok .nx e
      | r => r) else sNx
section
variable {X : Cx} {κ : Nat → Addr} {W : WX} {P : List Nat} {tg e a b : PySem.Expr} {pos : Pos} {body : List PySem.Stmt}
/-- one item comes -/
theorem WalkD.item {K : PySem.W.Frag} {I F H H' : Hp} {σ : L2.St} {env : Slots} {nfp : List Addr} {J : It} {ds : List D} {i : Nat} {x : V} (w : WalkD K κ I J ds) (k : Ok K κ I F H σ env nfp) (hi : i < ds.length) (y : J.yld i H x H') :
    ∃ I2 d, ds[i]? = some d ∧ Step F I I2 ∧ Ok K κ I2 F H' σ env nfp ∧ Rp K κ I2 x d := by
  obtain ⟨d, h1, h2⟩ := w.yld i H x H' hi k.ext y
  rcases h2 I (Same.refl I) k.ext with ⟨rfl, r⟩ | ⟨p, o, hp, rfl, r⟩
  · exact ⟨I, d, h1, Step.refl F I, k, r⟩
  · obtain ⟨k1, s1, e1⟩ := k.newI (o := o) hp
    exact ⟨_, d, h1, s1, k1, r _ s1.ext e1⟩
theorem d_for {it : EM (List D)} {t : TG} {g : TM} {f : SM} {iter : PySem.Expr} (hp : PassesOwn (model X.prog X.w) X.A X.env X.xe) (hc : X.calm = true) (hi : PI X tg iter (tiD X.K κ W it)) (hg : PGd X κ P tg t g) (hb : PSs X body (tsD X.K κ W P f))
    (hs : ∀ x, foldedSetIterable iter X.env x = pure x := by intro _; rfl) : PS X (.For tg iter body [] pos) (tsD X.K κ W P (sFor it g f)) := by
  refine ps_imp (ps_for hp hc hi hg.pg hb hs) fun Dn σ H h => ?_
  obtain ⟨I, F, env, k, p⟩ := h
  refine ⟨I, F, env, k, Post.mono (p.ex (R := RI X.K κ)) ?_⟩
  rintro J H1 ⟨I1, env1, ds, nfp, s1, k1, ⟨w, rfl⟩, p1⟩
  refine ⟨fun i m σ' H' => m = ds.length - i ∧ i ≤ ds.length ∧ ∃ I2 env2, Step F I1 I2 ∧ Pin P σ σ' ∧ Ok X.K κ I2 F H' σ' env2 [] ∧ PostS X.K κ W P I2 F σ' Dn (loopD g f (ds.drop i) env2),
    ⟨_, rfl, Nat.zero_le _, I1, env1, Step.refl F I1, Pin.refl P σ, k1, by rw [List.drop_zero]; exact p1⟩, ?_⟩
  rintro i m σ2 H2 ⟨rfl, hi2, I2, env2, s2, pn2, k2, p2⟩
  by_cases hlt : i < ds.length
  · refine .inr ⟨w.go i H2 hlt (s2.ext.trans k2.ext), fun σ' H' => ∃ I3 env3, Step F I1 I3 ∧ Pin P σ σ' ∧ Ok X.K κ I3 F H' σ' env3 [] ∧ PostS X.K κ W P I3 F σ' Dn (loopD g f (ds.drop (i + 1)) env3),
      fun σ' H' h => ⟨_, by omega, rfl, hlt, h⟩, fun x H3 y => ?_⟩
    obtain ⟨I3, d, hd, s3, k3, r3⟩ := WalkD.item (WalkD.mono s2.ext w) k2 hlt y
    have hdrop : ds.drop i = d :: ds.drop (i + 1) := by
      rw [List.drop_eq_getElem_cons hlt]
      rw [List.getElem?_eq_getElem hlt] at hd
      cases hd; rfl
    rw [hdrop] at p2
    unfold loopD at p2
    cases hgd : g d env2 with
    | none => rw [hgd] at p2; exact p2.elim
    | some env3 =>
      rw [hgd] at p2
      refine hg.ok I3 F H3 σ2 env2 env3 x d _ [] k3 r3 hgd fun σ3 pn3 k4 => ?_
      refine ⟨I3, F, env3, k4, ?_⟩
      simp only at p2
      revert p2
      cases f env3 with
      | ok fl env4 =>
        cases fl with
        | nx => exact fun p2 I5 H5 σ5 s5 pn5 k5 => ⟨I5, env4, (s2.trans s3).trans s5, (pn2.trans pn3).trans pn5, k5, p2.step (s3.trans s5) (pn3.trans pn5)⟩
        | ct => exact fun p2 I5 H5 σ5 s5 pn5 k5 => ⟨I5, env4, (s2.trans s3).trans s5, (pn2.trans pn3).trans pn5, k5, p2.step (s3.trans s5) (pn3.trans pn5)⟩
        | bk => exact fun p2 I5 H5 σ5 s5 pn5 k5 => p2 I5 H5 σ5 (s3.trans s5) (pn3.trans pn5) k5
        | rt v => exact fun p2 I5 H5 σ5 s5 pn5 => p2 I5 H5 σ5 (s3.trans s5) (pn3.trans pn5)
      | exc e env4 => exact fun p2 I5 H5 σ5 c d s5 pn5 => p2 I5 H5 σ5 c d (s3.trans s5) (pn3.trans pn5)
      | stuck => exact fun p2 => p2
  · have e : i = ds.length := by omega
    subst e
    rw [List.drop_length] at p2
    exact .inl ⟨w.stop H2 (s2.ext.trans k2.ext), p2.nx k2 (Step.refl F I2) (Pin.refl P σ2)⟩
theorem d_while {c : PySem.Expr} {t : EM Bool} {f : SM} (n : Nat) (hp : PassesOwn (model X.prog X.w) X.A X.env X.xe) (hc : PT X c (ttD X.K κ W t)) (hb : PSs X body (tsD X.K κ W P f)) : PS X (.While c body [] pos) (tsD X.K κ W P (whileD t f n)) := by
  refine ps_imp (ps_while hp hc hb) fun Dn σ H h => ?_
  obtain ⟨I, F, env, k, p⟩ := h
  refine ⟨fun m σ' H' => ∃ I2 env2, Step F I I2 ∧ Pin P σ σ' ∧ Ok X.K κ I2 F H' σ' env2 [] ∧ PostS X.K κ W P I2 F σ' Dn (whileD t f m env2), ⟨n, I, env, Step.refl F I, Pin.refl P σ, k, p⟩, ?_⟩
  rintro m σ2 H2 ⟨I2, env2, s2, pn2, k2, p2⟩
  cases m with
  | zero => exact p2.elim
  | succ m =>
    refine ⟨I2, F, env2, k2, Post.mono (PostS.ex (R := RB) p2) ?_⟩
    rintro b H3 ⟨I3, env3, b', nfp, s3, k3, ⟨rfl, rfl⟩, p3⟩
    cases b with
    | true =>
      refine ⟨fun σ' H' => ∃ I4 env4, Step F I I4 ∧ Pin P σ σ' ∧ Ok X.K κ I4 F H' σ' env4 [] ∧ PostS X.K κ W P I4 F σ' Dn (whileD t f m env4), fun σ' H' h => ⟨m, Nat.lt_succ_self m, h⟩, I3, F, env3, k3, ?_⟩
      simp only [if_true] at p3
      revert p3
      cases f env3 with
      | ok fl env4 =>
        cases fl with
        | nx => exact fun p2 I5 H5 σ5 s5 pn5 k5 => ⟨I5, env4, (s2.trans s3).trans s5, pn2.trans pn5, k5, p2.step s5 pn5⟩
        | ct => exact fun p2 I5 H5 σ5 s5 pn5 k5 => ⟨I5, env4, (s2.trans s3).trans s5, pn2.trans pn5, k5, p2.step s5 pn5⟩
        | bk => exact fun p2 I5 H5 σ5 s5 pn5 k5 => p2 I5 H5 σ5 s5 pn5 k5
        | rt v => exact fun p2 I5 H5 σ5 s5 pn5 => p2 I5 H5 σ5 s5 pn5
      | exc e env4 => exact fun p2 I5 H5 σ5 c d s5 pn5 => p2 I5 H5 σ5 c d s5 pn5
      | stuck => exact fun p2 => p2
    | false => exact PostS.nx p3 k3 (Step.refl F I3) (Pin.refl P σ2)
end
/-! ### comprehensions -/
def wipeE (env : Slots) : List Nat → Slots
  | [] => env
  | v :: vs => (wipeE env vs).set v none
/-- a name's own slot as it was, where it was data -/
def backE (old env : Slots) : List Nat → Slots
  | [] => env
  | v :: vs => match old[v]? with
    | some (some (.dat d)) => (backE old env vs).set v (some (.dat d))
    | _ => backE old env vs
/-- no slot of these is owned -/
def noOwn (env : Slots) (vs : List Nat) : Bool := vs.all fun v => match env[v]? with
  | some (some (.own _)) => false
  | _ => true
def lcLoop (vs : List Nat) (g : TM) (t : EM Bool) (f : EM D) : List D → List D → EM (List D)
  | [], acc, env => .ok acc env
  | d :: ds, acc, env => match g d (wipeE env vs) with
    | none => .stuck
    | some env1 => match t env1 with
      | .ok true env2 => match f env2 with
        | .ok y env3 => if acc.length < sizeLine then lcLoop vs g t f ds (acc ++ [y]) env3 else .stuck
        | _ => .stuck
      | .ok false env2 => lcLoop vs g t f ds acc env2
      | _ => .stuck
def eLc (vs : List Nat) (it : EM (List D)) (g : TM) (t : EM Bool) (f : EM D) : EM (List D) := it.bind fun ds => fun env => match lcLoop vs g t f ds [] env with
  | .ok acc env' => if noOwn env vs then .ok acc (backE env (wipeE env' vs) vs) else .stuck
  | _ => .stuck
def bYes : EM Bool := EM.pure true
def lcF (f : EM (List D)) : EM D := f.bind fun ds => EM.pure (.lst ds)
def lcO (f : EM (List D)) : EM SV := f.bind fun ds => EM.pure (.own (.lf (.lst ds)))
end DL

/-! DL9: comprehensions, kept sound -/
namespace DL
open PySem L2
theorem EM.assoc {α β γ : Type} (f : EM α) (g : α → EM β) (h : β → EM γ) : (f.bind g).bind h = f.bind fun a => (g a).bind h := by
  funext env
  unfold EM.bind
  cases f env <;> rfl
section
variable {K : PySem.W.Frag} {κ : Nat → Addr} {I I' F H H' : Hp} {σ σ' : L2.St} {env : Slots} {nfp : List Addr}
theorem EnvR.swap : ∀ {σ : List (Option V)} {env : Slots} {fp : List Addr} {σ' : List (Option V)}, EnvR K κ I H σ env fp → σ'.length = σ.length → (∀ (i : Nat) (y : SV), env[i]? = some (some y) → σ'[i]? = σ[i]?) → EnvR K κ I H σ' env fp
  | _, _, _, [], .nil, _, _ => .nil
  | _, _, _, x :: σ', .nil, h, _ => by simp at h
  | _, _, _, [], .no r, h, _ => by simp at h
  | _, _, _, [], .so _ r, h, _ => by simp at h
  | _, _, _, x :: σ', .no r, h, e => .no (r.swap (by simpa using h) fun i y q => by simpa using e (i + 1) y (by simpa using q))
  | _, _, _, x :: σ', .so g r, h, e => by
    have := e 0 _ rfl
    simp at this
    subst this
    exact .so g (r.swap (by simpa using h) fun i y q => by simpa using e (i + 1) y (by simpa using q))
theorem Ok.swap (k : Ok K κ I F H σ env nfp) (h : σ'.length = σ.length) (e : ∀ (i : Nat) (y : SV), env[i]? = some (some y) → σ'[i]? = σ[i]?) : Ok K κ I F H σ' env nfp := by
  obtain ⟨fp, r, rr⟩ := k.ex
  exact ⟨fp, r.swap h e, rr⟩
theorem set_none_get {α : Type} (l : List (Option α)) (i j : Nat) (y : α) (h : (l.set i none)[j]? = some (some y)) : i ≠ j ∧ l[j]? = some (some y) := by
  by_cases e : i = j
  · subst e
    by_cases hi : i < l.length
    · rw [List.getElem?_set_self hi] at h; cases h
    · rw [List.getElem?_eq_none (by simpa using hi)] at h; cases h
  · rw [List.getElem?_set_ne e] at h; exact ⟨e, h⟩
theorem wipeE_length (env : Slots) : ∀ vs, (wipeE env vs).length = env.length
  | [] => rfl
  | v :: vs => by simp [wipeE, wipeE_length env vs]
theorem wipeE_get {env : Slots} {j : Nat} {y : SV} : ∀ {vs : List Nat}, (wipeE env vs)[j]? = some (some y) → j ∉ vs ∧ env[j]? = some (some y)
  | [], h => ⟨by simp, h⟩
  | v :: vs, h => by
    obtain ⟨h1, h2⟩ := set_none_get _ _ _ _ h
    obtain ⟨h3, h4⟩ := wipeE_get h2
    exact ⟨by simp [h3, Ne.symm h1], h4⟩
theorem Ok.forgetL : ∀ vs, Ok K κ I F H σ env nfp → Ok K κ I F H σ (wipeE env vs) nfp
  | [], k => k
  | v :: vs, k => (Ok.forgetL vs k).forget v
theorem Ok.wipe (vs : List Nat) (k : Ok K κ I F H σ env nfp) : Ok K κ I F H (wipe σ vs) (wipeE env vs) nfp :=
  (k.forgetL vs).swap (wipe_length σ vs) fun i y e => wipe_out (wipeE_get e).1
theorem Ok.unwipe {vs : List Nat} (k : Ok K κ I F H (L2.wipe σ vs) (wipeE env vs) nfp) : Ok K κ I F H σ (wipeE env vs) nfp :=
  k.swap (wipe_length σ vs).symm fun i y e => (wipe_out (wipeE_get e).1).symm
theorem wipe_set : ∀ {vs : List Nat} {σ : L2.St} {i : Nat} {x : Option V}, i ∈ vs → L2.wipe (σ.set i x) vs = L2.wipe σ vs
  | [], _, _, _, h => by simp at h
  | v :: vs, σ, i, x, h => by
    show (L2.wipe (σ.set i x) vs).set v none = (L2.wipe σ vs).set v none
    by_cases e : i = v
    · subst e
      by_cases m : i ∈ vs
      · rw [wipe_set m]
      · have : ∀ (vs : List Nat), i ∉ vs → L2.wipe (σ.set i x) vs = (L2.wipe σ vs).set i x := by
          intro vs
          induction vs with
          | nil => intro _; rfl
          | cons w ws ih =>
            intro hm
            simp only [List.mem_cons, not_or] at hm
            show (L2.wipe (σ.set i x) ws).set w none = ((L2.wipe σ ws).set w none).set i x
            rw [ih hm.2, List.set_comm _ _ hm.1]
        rw [this vs m, List.set_set]
    · have m : i ∈ vs := by simpa [e] using h
      rw [wipe_set m]
theorem wipe_wipe : ∀ (vs ws : List Nat) (σ : L2.St), (∀ v ∈ vs, v ∈ ws) → L2.wipe (L2.wipe σ vs) ws = L2.wipe σ ws
  | [], _, _, _ => rfl
  | v :: vs, ws, σ, h => by
    show L2.wipe ((L2.wipe σ vs).set v none) ws = _
    rw [wipe_set (h v (by simp)), wipe_wipe vs ws σ fun u m => h u (List.mem_cons_of_mem _ m)]
/-- what was data comes back -/
theorem Ok.back {old : Slots} (hl : old.length = env.length) : ∀ {vs : List Nat}, (∀ (i : Nat) (d : D), old[i]? = some (some (.dat d)) → ∃ v, σ[i]? = some (some v) ∧ Rp K κ I v d) → Ok K κ I F H σ env nfp → Ok K κ I F H σ (backE old env vs) nfp
  | [], _, k => k
  | v :: vs, h, k => by
    have k2 := Ok.back hl (vs := vs) h k
    unfold backE
    split
    · rename_i d q
      obtain ⟨w, h1, h2⟩ := h v d q
      have k3 := k2.forget v
      have hv : v < (backE old env vs).length := by
        have := k2.len
        rw [← this, k.len, ← hl]
        exact (List.getElem?_eq_some_iff.mp q).1
      have k4 := Ok.put (f1 := []) (i := v) k3 (by rw [List.getElem?_set_self hv]) h1 (.dat h2)
      rwa [List.set_set] at k4
    · exact k2
end
section
variable {X : Cx} {κ : Nat → Addr} {W : WX} {P : List Nat} {tg e a b elt iter : PySem.Expr} {pos : Pos}
abbrev W0 : WX := fun _ _ _ _ => False
/-- a target keeps to its own names -/
def Own (t : TG) (vs : List Nat) : Prop := ∀ (x : V) (σ : L2.St) (H : Hp) (Q : L2.St → Hp → Prop), t x (wipe σ vs) H (fun σ2 H2 => wipe σ2 vs = wipe σ vs → Q σ2 H2) → t x (wipe σ vs) H (fun σ2 H2 => wipe σ2 vs = wipe σ vs ∧ Q σ2 H2)
theorem wipe_2 (vs : List Nat) (σ : L2.St) : wipe (wipe σ vs) vs = wipe σ vs := wipe_wipe vs vs σ fun _ h => h
theorem own_name {i : Nat} {vs : List Nat} (h : i ∈ vs := by decide) : Own (gName i) vs := fun x σ H Q q => by
  have e : wipe ((wipe σ vs).set i (some x)) vs = wipe σ vs := by rw [wipe_set h, wipe_2]
  exact ⟨e, q e⟩
theorem own_tup {K : PySem.W.Frag} {i j : Nat} {vs : List Nat} (h : i ∈ vs := by decide) (h' : j ∈ vs := by decide) : Own (gTup K 2 (gCons (gName i) (gCons (gName j) gNil))) vs := fun x σ H Q q => by
  obtain ⟨a, xs, e1, e2, e3, v, r, e4, w, r', e5, e6, q⟩ := q
  have e : wipe (((wipe σ vs).set i (some v)).set j (some w)) vs = wipe σ vs := by rw [wipe_set h', wipe_set h, wipe_2]
  exact ⟨a, xs, e1, e2, e3, v, r, e4, w, r', e5, e6, e, q e⟩
theorem own_tup3 {K : PySem.W.Frag} {i j k : Nat} {vs : List Nat} (h : i ∈ vs := by decide) (h' : j ∈ vs := by decide) (h'' : k ∈ vs := by decide) : Own (gTup K 3 (gCons (gName i) (gCons (gName j) (gCons (gName k) gNil)))) vs := fun x σ H Q q => by
  obtain ⟨a, xs, e1, e2, e3, v, r, e4, w, r', e5, u, r'', e6, e7, q⟩ := q
  have e : wipe ((((wipe σ vs).set i (some v)).set j (some w)).set k (some u)) vs = wipe σ vs := by rw [wipe_set h'', wipe_set h', wipe_set h, wipe_2]
  exact ⟨a, xs, e1, e2, e3, v, r, e4, w, r', e5, u, r'', e6, e7, e, q e⟩
def RL (K : PySem.W.Frag) (κ : Nat → Addr) : Hp → Hp → V → List D → List Addr → Prop := fun I H v ds nfp => OwL K κ I H v (.lst ds) nfp
theorem lcLoop_nil {vs : List Nat} {g : TM} {t : EM Bool} {f : EM D} {acc : List D} {env : Slots} : lcLoop vs g t f [] acc env = .ok acc env := rfl
theorem lcLoop_cons {vs : List Nat} {g : TM} {t : EM Bool} {f : EM D} {d : D} {ds acc : List D} {env : Slots} : lcLoop vs g t f (d :: ds) acc env = (match g d (wipeE env vs) with
    | none => .stuck
    | some env1 => match t env1 with
      | .ok true env2 => match f env2 with
        | .ok y env3 => if acc.length < sizeLine then lcLoop vs g t f ds (acc ++ [y]) env3 else .stuck
        | _ => .stuck
      | .ok false env2 => lcLoop vs g t f ds acc env2
      | _ => .stuck) := rfl
/-- the state ahead of a turn -/
def LcI (K : PySem.W.Frag) (κ : Nat → Addr) (I1 F : Hp) (σ : L2.St) (vs : List Nat) (Da : Addr) (g : TM) (c : EM Bool) (f : EM D) (ds : List D) (L : RE (List D)) (H' : Hp) : Prop :=
  ∃ I2 σ2 env2 accV acc, Step F I1 I2 ∧ wipe σ2 vs = wipe σ vs ∧ H' Da = some (.lst accV) ∧ RpA K κ I2 accV acc ∧ Ok K κ I2 F H' σ2 env2 [Da] ∧ lcLoop vs g c f ds acc env2 = L
theorem lc_turn {K : PySem.W.Frag} {I1 F H2 H3 : Hp} {σ : L2.St} {vs : List Nat} {Da : Addr} {g : TM} {t : TG} {c : EM Bool} {f : EM D} {ds : List D} {J : It} {i : Nat} {x : V} {tt : TT} {te : TE} {L : RE (List D)} (w : WalkD K κ I1 J ds) (hi : i < ds.length)
    (ho : Own t vs) (ig : TGok K κ [] t g) (it' : ∀ σ H Q, ttD K κ W0 c σ H Q → tt σ H Q) (ie : ∀ σ H Q, teD K κ W0 f σ H Q → te σ H Q) (noS : L ≠ .stuck) (h : LcI K κ I1 F σ vs Da g c f (ds.drop i) L H2) (y : J.yld i H2 x H3) :
    t x (wipe σ vs) H3 fun σ2 H2 => wipe σ2 vs = wipe σ vs ∧ tt σ2 H2 fun b H3 => if b = true then te σ2 H3 fun y H4 => ∃ acc, H4 Da = some (.lst acc) ∧ acc.length < sizeLine ∧ LcI K κ I1 F σ vs Da g c f (ds.drop (i + 1)) L (upd H4 Da (.lst (acc ++ [y]))) else LcI K κ I1 F σ vs Da g c f (ds.drop (i + 1)) L H3 := by
  obtain ⟨I2, σ2, env2, accV, acc, s2, hw, hDv, ra, k2, heq⟩ := h
  have k2' : Ok K κ I2 F H2 σ2 env2 ([Da] ++ []) := k2
  have kf := k2'.frame
  obtain ⟨I3, d, hd, s3, k3, r3⟩ := WalkD.item (WalkD.mono s2.ext w) kf hi y
  have hdrop : ds.drop i = d :: ds.drop (i + 1) := by
    rw [List.drop_eq_getElem_cons hi]
    rw [List.getElem?_eq_getElem hi] at hd
    cases hd; rfl
  rw [hdrop, lcLoop_cons] at heq
  have k3w := k3.wipe vs
  rw [hw] at k3w
  have atD : ∀ {I' : Hp} {H' : Hp} {σ' : L2.St} {env' : Slots}, Ok K κ I' (addF F H2 [Da]) H' σ' env' [] → H' Da = some (.lst accV) := fun k => k.frm Da _ (by unfold addF; rw [if_pos (List.mem_singleton.mpr rfl)]; exact hDv)
  cases hgd : g d (wipeE env2 vs) with
  | none => rw [hgd] at heq; exact absurd heq.symm noS
  | some env3 =>
    rw [hgd] at heq
    simp only at heq
    exact ho x σ H3 (fun σ2 H2' => tt σ2 H2' fun b H3 => if b = true then te σ2 H3 fun y H4 => ∃ acc, H4 Da = some (.lst acc) ∧ acc.length < sizeLine ∧ LcI K κ I1 F σ vs Da g c f (ds.drop (i + 1)) L (upd H4 Da (.lst (acc ++ [y]))) else LcI K κ I1 F σ vs Da g c f (ds.drop (i + 1)) L H3)
      (ig I3 (addF F H2 [Da]) H3 (wipe σ vs) (wipeE env2 vs) env3 x d _ [] k3w r3 hgd fun σ3 _ k4 hw3 => by
        refine it' _ _ _ ⟨I3, addF F H2 [Da], env3, k4, ?_⟩
        revert heq
        cases hc : c env3 with
        | exc e ev => exact fun heq => absurd heq.symm noS
        | stuck => exact fun heq => absurd heq.symm noS
        | ok b env4 =>
          intro heq I4 H4 b' nfp s4 k5 hR
          obtain ⟨rfl, rfl⟩ := hR
          cases b' with
          | false =>
            simp only at heq
            obtain ⟨k6, kp, s6⟩ := k2'.unframe k5 (s3.trans s4)
            rw [if_neg Bool.false_ne_true]
            exact ⟨I4, σ3, env4, accV, acc, s2.trans s6, hw3, atD k5, ra.mono s6.ext, k6, heq⟩
          | true =>
            simp only at heq
            rw [if_pos rfl]
            refine ie _ _ _ ⟨I4, addF F H2 [Da], env4, k5, ?_⟩
            revert heq
            cases hf : f env4 with
            | exc e ev => exact fun heq => absurd heq.symm noS
            | stuck => exact fun heq => absurd heq.symm noS
            | ok yd env5 =>
              intro heq I5 H5 yv nfp s5 k6 hR
              obtain ⟨ry, rfl⟩ := hR
              simp only at heq
              split at heq
              · rename_i hz
                obtain ⟨k7, kp, s7⟩ := k2'.unframe k6 ((s3.trans s4).trans s5)
                have ra' := ra.mono s7.ext
                refine ⟨accV, atD k6, by rw [ra.length]; exact hz, I5, σ3, env5, accV ++ [yv], acc ++ [yd], s2.trans s7, hw3, upd_same, ra'.append (.cons ry .nil), ?_, heq⟩
                have k7' : Ok K κ I5 F H5 σ3 env5 [Da] := k7
                exact k7'.write
              · exact absurd heq.symm noS)
theorem lc_imp {X : Cx} {κ : Nat → Addr} {W : WX} {t : TG} {g : TM} {c : EM Bool} {f : EM D} {it : EM (List D)} {vs : List Nat} (ho : Own t vs) (ig : TGok X.K κ [] t g) : ∀ σ H Q, tG X.K κ (RL X.K κ) W (eLc vs it g c f) σ H Q → tLc (tiD X.K κ W it) t (ttD X.K κ W0 c) (teD X.K κ W0 f) vs σ H Q := by
  intro σ H Q h
  obtain ⟨I, F, env, k, p⟩ := h
  refine ⟨I, F, env, k, Post.mono (p.bind (R := RI X.K κ)) ?_⟩
  rintro J H1 ⟨I1, env1, ds, nfp, s1, k1, ⟨w, rfl⟩, p1⟩
  intro Da hD
  generalize hL : lcLoop vs g c f ds [] env1 = L at p1
  have noS : L ≠ .stuck := fun z => by subst z; exact p1
  refine ⟨fun i m H' => m = ds.length - i ∧ i ≤ ds.length ∧ LcI X.K κ I1 F σ vs Da g c f (ds.drop i) L H',
    ⟨_, rfl, Nat.zero_le _, I1, σ, env1, [], [], Step.refl F I1, rfl, upd_same, .nil, k1.newO hD, by rw [List.drop_zero]; exact hL⟩, ?_⟩
  rintro i m H2 ⟨rfl, hi2, h⟩
  by_cases hlt : i < ds.length
  · have hSame : Same I1 H2 := by
      obtain ⟨I2, σ2, env2, accV, acc, s2, hw, hDv, ra, k2, heq⟩ := h
      exact s2.ext.trans k2.ext
    exact .inr ⟨w.go i H2 hlt hSame, fun H' => LcI X.K κ I1 F σ vs Da g c f (ds.drop (i + 1)) L H', fun H' h => ⟨_, by omega, rfl, hlt, h⟩, fun x H3 y => lc_turn w hlt ho ig (fun _ _ _ h => h) (fun _ _ _ h => h) noS h y⟩
  · have e : i = ds.length := by omega
    subst e
    obtain ⟨I2, σ2, env2, accV, acc, s2, hw, hDv, ra, k2, heq⟩ := h
    rw [List.drop_length, lcLoop_nil] at heq
    subst heq
    refine .inl ⟨w.stop H2 (s2.ext.trans k2.ext), ?_⟩
    simp only at p1
    split at p1
    · have k3 := k2.wipe vs
      rw [hw] at k3
      have k4 := k3.unwipe
      have hl : env1.length = (wipeE env2 vs).length := by rw [← k4.len, k1.len]
      have k5 := k4.back (old := env1) (vs := vs) hl fun j d q => by
        obtain ⟨v, f1, h1, h2⟩ := k1.at_ q
        cases h2 with
        | dat r => exact ⟨v, h1, r.mono s2.ext⟩
      exact p1 I2 H2 (.ref Da) [Da] s2 k5 (.lst hDv ra)
    · exact p1.elim
theorem de_lcL {t : TG} {g : TM} {c : EM Bool} {f : EM D} {it : EM (List D)} {scope : Scope} {own : List (Str × Nat)} {ifs : List PySem.Expr} (hc : X.calm = true) (hN : X.N.Nodup) (hi : PI X tg iter (tiD X.K κ W it)) (ok : BlkOk X.N X.env.scope scope own)
    (ho : Own t (own.map (·.2))) (ig : TGok X.K κ [] t g)
    (hg : ∀ (s : Shared) (H : Hp) (C : Addr) (cl : List (Str × Addr)) (fp : List Addr), PG (X.blk s H scope (compEnvC scope cl C X.env) fp) tg t)
    (ht : ∀ (s : Shared) (H : Hp) (C : Addr) (cl : List (Str × Addr)) (fp : List Addr), PTs (X.blk s H scope (compEnvC scope cl C X.env) fp) ifs (ttD X.K κ W0 c))
    (he : ∀ (s : Shared) (H : Hp) (C : Addr) (cl : List (Str × Addr)) (fp : List Addr), PE (X.blk s H scope (compEnvC scope cl C X.env) fp) elt (teD X.K κ W0 f)) (hs : ∀ x, foldedSetIterable iter X.env x = pure x := by intro _; rfl) :
    PE X (.ListComp elt [⟨tg, iter, ifs, 0⟩] scope pos) (tG X.K κ (RL X.K κ) W (eLc (own.map (·.2)) it g c f)) := by
  exact pe_imp (pe_lc hc hN hi ok hg ht he hs) (lc_imp ho ig)
/-- x = [..], x a plain local -/
theorem d_setLc {P : List Nat} {i : Nat} {y : Str} {py spos : Pos} {t : TG} {g : TM} {c : EM Bool} {f : EM D} {it : EM (List D)} {scope : Scope} {own : List (Str × Nat)} {ifs : List PySem.Expr} (hc : X.calm = true) (hN : X.N.Nodup) (hi : PI X tg iter (tiD X.K κ W it)) (ok : BlkOk X.N X.env.scope scope own)
    (ho : Own t (own.map (·.2))) (ig : TGok X.K κ [] t g)
    (hg : ∀ (s : Shared) (H : Hp) (C : Addr) (cl : List (Str × Addr)) (fp : List Addr), PG (X.blk s H scope (compEnvC scope cl C X.env) fp) tg t)
    (ht : ∀ (s : Shared) (H : Hp) (C : Addr) (cl : List (Str × Addr)) (fp : List Addr), PTs (X.blk s H scope (compEnvC scope cl C X.env) fp) ifs (ttD X.K κ W0 c))
    (he : ∀ (s : Shared) (H : Hp) (C : Addr) (cl : List (Str × Addr)) (fp : List Addr), PE (X.blk s H scope (compEnvC scope cl C X.env) fp) elt (teD X.K κ W0 f)) (hP : i ∉ P := by decide) (hy : X.N[i]? = some y := by rfl) (hyl : X.env.scope.names.lookup y = some .local := by rfl)
    (hsw : swapsWith (.ListComp elt [⟨tg, iter, ifs, 0⟩] scope pos) (some (.Name y py)) spos.line X.env = pure true := by exact sw_true rfl rfl rfl rfl) (hs : ∀ x, foldedSetIterable iter X.env x = pure x := by intro _; rfl) :
    PS X (.Assign [.Name y py] (.ListComp elt [⟨tg, iter, ifs, 0⟩] scope pos) spos) (tsD X.K κ W P (sAsg i (lcO (eLc (own.map (·.2)) it g c f)))) := by
  refine ps_imp (ps_setLc hc hN hy hyl hsw hi ok hg ht he hs) fun Dn σ H h => ?_
  obtain ⟨I, F, env, k, p⟩ := h
  unfold sAsg lcO at p
  rw [EM.assoc] at p
  refine lc_imp ho ig σ H _ ⟨I, F, env, k, Post.mono (p.ex (R := RL X.K κ)) ?_⟩
  rintro v H1 ⟨I1, env1, ds, nfp, s1, k1, r1, p1⟩
  have p1 : PostS X.K κ W P I1 F σ Dn (setSlot i (.own (.lf (.lst ds))) env1) := p1
  unfold setSlot at p1
  split at p1
  · rename_i hl
    have k2 := Ok.store (i := i) (nfp := []) (by rw [List.append_nil]; exact k1) hl (.own (.lf r1))
    exact p1.nx k2 (Step.refl F I1) (Pin.set hP)
  · exact p1.elim
theorem takes0 {X : Cx} : Takes X W0 := fun _ _ h => by
  obtain ⟨_, _, _, _, _, _, _, _, _, _, _, _, _, _, _, _, h⟩ := h
  exact h.elim
/-- [..], that stands still from now on -/
theorem de_lcF {e : PySem.Expr} {f : EM (List D)} (h : PE X e (tG X.K κ (RL X.K κ) W f)) : PE X e (teD X.K κ W (lcF f)) := pe_imp h fun σ H Q h => by
  obtain ⟨I, F, env, k, p⟩ := h
  refine ⟨I, F, env, k, Post.mono (p.bind (R := RL X.K κ)) ?_⟩
  rintro v H1 ⟨I1, env1, ds, nfp, s1, k1, r, p1⟩
  have k1' : Ok X.K κ I1 F H1 σ env1 (nfp ++ []) := by rw [List.append_nil]; exact k1
  obtain ⟨k2, s2⟩ := k1'.freeze
  exact p1 _ H1 v [] s2 k2 ⟨r.viewed s2.ext fun a h => frz_at h, rfl⟩
/-- [..], owned -/
theorem ds_lcO {e : PySem.Expr} {f : EM (List D)} (h : PE X e (tG X.K κ (RL X.K κ) W f)) : PE X e (teS X.K κ W (lcO f)) := pe_imp h fun σ H Q h => by
  obtain ⟨I, F, env, k, p⟩ := h
  refine ⟨I, F, env, k, Post.mono (p.bind (R := RL X.K κ)) ?_⟩
  rintro v H1 ⟨I1, env1, ds, nfp, s1, k1, r, p1⟩
  exact p1 I1 H1 v nfp (Step.refl F I1) k1 (.own (.lf r))
/-- a clause's tests -/
theorem dts_nil {X : Cx} : PTs X [] (ttD X.K κ W bYes) := ⟨fun pins s σ H Q I h => pts_nil.run pins s σ H Q I (by
  obtain ⟨I, F, env, k, p⟩ := h
  exact p I H true [] (Step.refl F I) k ⟨rfl, rfl⟩)⟩
theorem dts_one {X : Cx} {c : PySem.Expr} {f : EM Bool} (h : PT X c (ttD X.K κ W f)) : PTs X [c] (ttD X.K κ W f) := pts_one h
theorem tgk_name {K : PySem.W.Frag} {i : Nat} {P : List Nat} (hP : i ∉ P := by decide) : TGok K κ P (gName i) (gN i) := fun I F H σ env env' v d Q nfp k r e q => by
  unfold gN at e
  split at e
  · rename_i hl
    cases e
    exact q _ (Pin.set hP) (Ok.store (f1 := []) k hl (.dat r))
  · cases e
theorem tgk_tup {K : PySem.W.Frag} {i j : Nat} {P : List Nat} (hP : i ∉ P := by decide) (hP2 : j ∉ P := by decide) : TGok K κ P (gTup K 2 (gCons (gName i) (gCons (gName j) gNil))) (gT [gN i, gN j]) := fun I F H σ env env' v d Q nfp k r e q => by
  cases r <;> simp only [gT] at e <;> try (cases e)
  rename_i a vs ds h1 r1
  have hl := gTs_len _ _ _ e
  match ds, hl, r1, e with
  | [d1, d2], _, r1, e =>
    obtain ⟨v1, v2, rfl, ra, rb⟩ := r1.two
    simp only [gTs, gN] at e
    split at e
    · simp only [Option.bind_some] at e
      split at e
      · rename_i hl1 hl2
        simp only [Option.bind_some] at e
        cases e
        exact ⟨_, _, rfl, SqT.of (k.ext _ _ h1), rfl, v1, [v2], rfl, v2, [], rfl, rfl, q _ ((Pin.set hP).trans (Pin.set hP2)) (Ok.store (f1 := []) (Ok.store (f1 := []) k hl1 (.dat ra)) hl2 (.dat rb))⟩
      · cases e
    · cases e
end
end DL

/-! DL10: defs and their calls -/
namespace DL
open PySem L2
/-- what an argument is: data, or an owned thing of a slot (lent for the call), or of a field of a slot's instance -/
inductive AR where
  | dat (f : EM D) | var (i : Nat) | fld (c i : Nat) (f : Str)
inductive AV where
  | dat (d : D) | var (i : Nat) | fld (i : Nat) (f : Str)
def evA : List AR → EM (List AV)
  | [] => EM.pure []
  | .dat f :: r => f.bind fun d => (evA r).bind fun as => EM.pure (.dat d :: as)
  | .var i :: r => fun env => match env[i]? with
    | some (some _) => ((evA r).bind fun as => EM.pure (.var i :: as)) env
    | _ => .stuck
  | .fld c i f :: _ => fun env => match env[i]? with
    | some (some (.own (.ins c' gs))) => if c' = c then (match gs.lookup f with
      | some (.own _) => .ok [.fld i f] env
      | _ => .stuck) else .stuck
    | _ => .stuck
def setF {α : Type} [DecidableEq α] (f : α) (x : FV) : List (α × FV) → List (α × FV)
  | [] => []
  | (g, y) :: r => if f = g then (g, x) :: r else (g, y) :: setF f x r
def takeA : List AV → Slots → Option (List SV × Slots)
  | [], env => some ([], env)
  | .dat d :: r, env => (takeA r env).map fun p => (.dat d :: p.1, p.2)
  | .var i :: r, env => match env[i]? with
    | some (some x) => (takeA r (env.set i none)).map fun p => (x :: p.1, p.2)
    | _ => none
  | .fld i f :: r, env => match env[i]? with
    | some (some (.own (.ins c gs))) => match gs.lookup f with
      | some (.own l) => (takeA r (env.set i (some (.own (.ins c (setF f .hole gs)))))).map fun p => (.own (.lf l) :: p.1, p.2)
      | _ => none
    | _ => none
def putA : List AV → Slots → Slots → Option Slots
  | [], _, env => some env
  | .dat _ :: r, _ :: outs, env => putA r outs env
  | .var i :: r, some x :: outs, env => match env[i]? with
    | some none => putA r outs (env.set i (some x))
    | _ => none
  | .var _ :: r, none :: outs, env => putA r outs env
  | .fld i f :: r, some (.own (.lf l)) :: outs, env => match env[i]? with
    | some (some (.own (.ins c gs))) => match gs.lookup f with
      | some .hole => putA r outs (env.set i (some (.own (.ins c (setF f (.own l) gs)))))
      | _ => none
    | _ => none
  | _, _, _ => none
/-- a call of a def with such a mirror -/
def callD (Φ : List SV → RE SV) (ars : List AR) : EM SV := (evA ars).bind fun avs env => match takeA avs env with
  | none => .stuck
  | some (args, env1) => match Φ args with
    | .ok sv outs => match putA avs outs env1 with
      | some env2 => .ok sv env2
      | none => .stuck
    | .exc e outs => match putA avs outs env1 with
      | some env2 => .exc e env2
      | none => .stuck
    | .stuck => .stuck
def outs (modes : List Bool) (env : Slots) : Slots := List.zipWith (fun m s => if m = true then s else none) modes env
def fnD (modes : List Bool) (n : Nat) (body : SM) : List SV → RE SV := fun args =>
  if args.length = modes.length then match body (args.map some ++ List.replicate (n - args.length) none) with
    | .ok (.rt sv) env' => .ok sv (outs modes env')
    | .ok .nx env' => .ok (.dat .non) (outs modes env')
    | .exc e env' => .exc e (outs modes env')
    | _ => .stuck
  else .stuck
section
variable (K : PySem.W.Frag) (κ : Nat → Addr)
def PostF (I F : Hp) (vs : List V) (Q : VK) (E : XK) : RE SV → Prop
  | .ok sv outs => ∀ I' H' v nfp, Step F I I' → Ok K κ I' F H' (vs.map some) outs nfp → OwS K κ I' H' v sv nfp → Q v H'
  | .exc e outs => ∀ I' H' cls dd, Step F I I' → Ok K κ I' F H' (vs.map some) outs [] → ExR K κ I' e cls dd → E cls dd H'
  | .stuck => False
def spD (Φ : List SV → RE SV) : Sp := fun vs H Q E => ∃ I F args, Ok K κ I F H (vs.map some) (args.map some) [] ∧ PostF K κ I F vs Q E (Φ args)
/-- arguments as values -/
inductive AvR (I H : Hp) (σ : L2.St) : List V → List AV → Prop
  | nil : AvR I H σ [] []
  | dat {v : V} {d : D} {vs : List V} {as : List AV} : Rp K κ I v d → AvR I H σ vs as → AvR I H σ (v :: vs) (.dat d :: as)
  | var {v : V} {i : Nat} {vs : List V} {as : List AV} : σ[i]? = some (some v) → AvR I H σ vs as → AvR I H σ (v :: vs) (.var i :: as)
  | fld {v : V} {i : Nat} {f : Str} {a C dx : Addr} {fs : List (Str × V)} : σ[i]? = some (some (.ref a)) → H a = some (.ins C dx fs) → fs.lookup f = some v → AvR I H σ [v] [.fld i f]
end
section
variable {K : PySem.W.Frag} {κ : Nat → Addr} {I I' F H H' : Hp} {σ : L2.St} {env : Slots} {nfp : List Addr}
theorem Rel.frame {l fp : List Addr} (r : Rel I F H (l ++ fp)) : Rel I (addF F H l) H fp := by
  refine ⟨r.ext, fun a o q => ?_, r.sub.nd, r.sub.nI, fun a h => ?_, r.sub.tr⟩
  · unfold addF at q; split at q
    · exact q
    · exact r.frm a o q
  · have : a ∉ l := fun z => (List.nodup_append.mp r.nd).2.2 a z a h rfl
    unfold addF; rw [if_neg this]; exact r.nF a (List.mem_append_right _ h)
theorem Rel.unframe {l fp fp' : List Addr} (r : Rel I F H (l ++ fp)) (r' : Rel I' (addF F H l) H' fp') (st : Step (addF F H l) I I') : Rel I' F H' (l ++ fp') ∧ (∀ a ∈ l, H' a = H a) ∧ Step F I I' := by
  have at_ : ∀ a ∈ l, ∃ o, H a = some o ∧ addF F H l a = some o := fun a h => by
    cases q : H a with
    | none => exact absurd q (r.tr a (List.mem_append_left _ h))
    | some o => exact ⟨o, rfl, by unfold addF; rw [if_pos h]; exact q⟩
  have keep : ∀ a ∈ l, H' a = H a := fun a h => by
    obtain ⟨o, h1, h2⟩ := at_ a h
    rw [h1]; exact r'.frm a o h2
  have FF : ∀ a o, F a = some o → addF F H l a = some o := fun a o q => by
    unfold addF; split
    · exact r.frm a o q
    · exact q
  refine ⟨⟨r'.ext, fun a o q => r'.frm a o (FF a o q), ?_, ?_, ?_, ?_⟩, keep, ⟨st.ext, fun a o q1 q2 => st.ap a o (FF a o q1) q2⟩⟩
  · refine List.nodup_append.mpr ⟨(List.nodup_append.mp r.nd).1, r'.nd, fun a h b h2 z => ?_⟩
    subst z
    obtain ⟨o, _, h3⟩ := at_ a h
    rw [r'.nF a h2] at h3; cases h3
  · intro a h; rcases List.mem_append.mp h with h | h
    · obtain ⟨o, _, h3⟩ := at_ a h
      exact st.ap a o h3 (r.nI a (List.mem_append_left _ h))
    · exact r'.nI a h
  · intro a h; rcases List.mem_append.mp h with h | h
    · exact r.nF a (List.mem_append_left _ h)
    · have := r'.nF a h
      cases q : F a with
      | none => rfl
      | some o => rw [FF a o q] at this; cases this
  · intro a h; rcases List.mem_append.mp h with h | h
    · rw [keep a h]; exact r.tr a (List.mem_append_left _ h)
    · exact r'.tr a h
/-- a field is exchanged: what it owned comes out, what is put in goes in -/
theorem OwFs.setF {α : Type} [DecidableEq α] [LawfulBEq α] {f : α} {x : FV} {v : V} {f1 : List Addr} : ∀ {vs : List (α × V)} {gs : List (α × FV)} {fp : List Addr}, OwFs K κ I H vs gs fp → vs.lookup f = some v → OwF K κ I H v x f1 →
    ∃ f0 fp', OwFs K κ I H vs (DL.setF f x gs) fp' ∧ (f1 ++ fp).Perm (f0 ++ fp') ∧ (∀ y, gs.lookup f = some y → OwF K κ I H v y f0)
  | _, _, _, .nil, h, _ => by simp at h
  | (k', w) :: vs, (_, y) :: gs, _, .cons (fp := g1) (fq := g2) h r, e, ho => by
    rw [List.lookup_cons] at e
    by_cases z : f = k'
    · subst z
      simp at e; subst e
      refine ⟨g1, f1 ++ g2, ?_, List.perm_append_comm_assoc f1 g1 g2, fun y' hy => ?_⟩
      · unfold DL.setF; rw [if_pos rfl]; exact .cons ho r
      · rw [List.lookup_cons] at hy; simp at hy; subst hy; exact h
    · have zb : (f == k') = false := by simpa using z
      rw [zb] at e
      obtain ⟨f0, fp', h1, h2, h3⟩ := OwFs.setF (f := f) (x := x) r (by simpa using e) ho
      refine ⟨f0, g1 ++ fp', ?_, ?_, fun y' hy => ?_⟩
      · unfold DL.setF; rw [if_neg z]; exact .cons h h1
      · exact (List.perm_append_comm_assoc f1 g1 g2).trans ((h2.append_left g1).trans (List.perm_append_comm_assoc g1 f0 fp'))
      · rw [List.lookup_cons, zb] at hy; exact h3 y' (by simpa using hy)
theorem lookup_of {f : Str} {x : FV} {vs : List (Str × V)} {gs : List (Str × FV)} {fp : List Addr} (r : OwFs K κ I H vs gs fp) (h : gs.lookup f = some x) : ∃ v, vs.lookup f = some v := by
  obtain ⟨v, _, h, _⟩ := r.lookup h
  exact ⟨v, h⟩
theorem takeA_ok : ∀ {avs : List AV} {vs : List V} {env env' : Slots} {args : List SV} {nfp : List Addr}, AvR K κ I H σ vs avs → Ok K κ I F H σ env nfp → takeA avs env = some (args, env') →
    ∃ fa, EnvR K κ I H (vs.map some) (args.map some) fa ∧ Ok K κ I F H σ env' (fa ++ nfp)
  | [], _, env, env', args, nfp, .nil, k, h => by
    simp only [takeA, Option.some.injEq, Prod.mk.injEq] at h
    obtain ⟨rfl, rfl⟩ := h
    exact ⟨[], .nil, k⟩
  | .dat d :: r, _, env, env', args, nfp, .dat hd hr, k, h => by
    simp only [takeA] at h
    cases q : takeA r env with
    | none => rw [q] at h; cases h
    | some p =>
      rw [q] at h
      simp only [Option.map_some, Option.some.injEq, Prod.mk.injEq] at h
      obtain ⟨rfl, rfl⟩ := h
      obtain ⟨fa, h1, h2⟩ := takeA_ok hr k q
      exact ⟨[] ++ fa, .so (.dat hd) h1, h2⟩
  | .var i :: r, _, env, env', args, nfp, .var hv hr, k, h => by
    simp only [takeA] at h
    split at h
    · rename_i x hx
      cases q : takeA r (env.set i none) with
      | none => rw [q] at h; cases h
      | some p =>
        rw [q] at h
        simp only [Option.map_some, Option.some.injEq, Prod.mk.injEq] at h
        obtain ⟨rfl, rfl⟩ := h
        obtain ⟨v', f1, e1, o1, k1⟩ := k.get hx
        rw [hv] at e1
        cases e1
        obtain ⟨fa, h1, h2⟩ := takeA_ok hr k1 q
        refine ⟨f1 ++ fa, .so o1 h1, h2.perm ?_⟩
        rw [List.append_assoc]
        exact List.perm_append_comm_assoc fa f1 nfp
    · cases h
  | [.fld i f], _, env, env', args, nfp, .fld (a := aa) hv ha hl, k, h => by
    simp only [takeA] at h
    split at h
    · rename_i c gs hx
      split at h
      · rename_i l hlk
        simp only [takeA, Option.map_some, Option.some.injEq, Prod.mk.injEq] at h
        obtain ⟨rfl, rfl⟩ := h
        obtain ⟨v', f1, e1, o1, k1⟩ := k.get hx
        rw [hv] at e1
        cases e1
        cases o1 with
        | own o1 =>
          cases o1 with
          | ins ho ofs =>
            rw [ha] at ho
            cases ho
            rename_i fpo
            obtain ⟨f0, fp', h1, h2, h3⟩ := OwFs.setF (f := f) (x := .hole) ofs hl .hole
            have h4 := h3 _ hlk
            cases h4 with
            | own h4 =>
              refine ⟨f0 ++ [], .so (.own (.lf h4)) .nil, ?_⟩
              have hil : i < env.length := (List.getElem?_eq_some_iff.mp hx).1
              have pm : (aa :: fpo ++ nfp).Perm ((aa :: fp') ++ (f0 ++ [] ++ nfp)) := by
                rw [List.append_nil]
                rw [List.nil_append] at h2
                refine ((h2.cons _).append_right nfp).trans ?_
                rw [List.cons_append, List.cons_append]
                refine List.Perm.cons _ ?_
                rw [List.append_assoc]
                exact List.perm_append_comm_assoc f0 fp' nfp
              have k2 := Ok.put (f1 := aa :: fp') (i := i) (k1.perm pm) (by rw [List.getElem?_set_self hil]) hv (.own (.ins ha h1))
              rwa [List.set_set] at k2
      · cases h
    · cases h
theorem setF_len {α : Type} [DecidableEq α] (f : α) (x : FV) (gs : List (α × FV)) : (setF f x gs).length = gs.length := by
  induction gs with
  | nil => rfl
  | cons p r ih =>
    obtain ⟨g, y⟩ := p
    unfold setF
    split
    · rfl
    · simp [ih]
theorem putA_ok : ∀ {avs : List AV} {vs : List V} {os env env' : Slots} {nfp fo : List Addr}, AvR K κ I' H σ vs avs → (∀ (i : Nat) (f : Str), AV.fld i f ∈ avs → ∀ (a C dx : Addr) (fs : List (Str × V)), σ[i]? = some (some (.ref a)) → H a = some (.ins C dx fs) → H' a = H a) → EnvR K κ I H' (vs.map some) os fo → Ok K κ I F H' σ env (fo ++ nfp) → putA avs os env = some env' →
    Ok K κ I F H' σ env' nfp
  | [], _, os, env, env', nfp, fo, .nil, _, e, k, h => by
    simp only [putA, Option.some.injEq] at h
    subst h
    cases e
    exact k
  | .dat d :: r, _, [], env, env', nfp, fo, .dat hd hr, _, e, k, h => by simp [putA] at h
  | .dat d :: r, _, o :: os, env, env', nfp, fo, .dat hd hr, st, e, k, h => by
    simp only [putA] at h
    cases e with
    | no e => exact putA_ok hr (fun i f m => st i f (List.mem_cons_of_mem _ m)) e k h
    | so _ e =>
      rw [List.append_assoc] at k
      exact putA_ok hr (fun i f m => st i f (List.mem_cons_of_mem _ m)) e k.drop h
  | .var i :: r, _, [], env, env', nfp, fo, .var hv hr, _, e, k, h => by simp [putA] at h
  | .var i :: r, _, none :: os, env, env', nfp, fo, .var hv hr, st, e, k, h => by
    simp only [putA] at h
    cases e with
    | no e => exact putA_ok hr (fun i f m => st i f (List.mem_cons_of_mem _ m)) e k h
  | .var i :: r, _, some x :: os, env, env', nfp, fo, .var hv hr, st, e, k, h => by
    simp only [putA] at h
    split at h
    · rename_i hn
      cases e with
      | so g e =>
        rw [List.append_assoc] at k
        have k2 := Ok.put (i := i) k hn hv g
        exact putA_ok hr (fun i f m => st i f (List.mem_cons_of_mem _ m)) e k2 h
    · cases h
  | [.fld i f], _, [], env, env', nfp, fo, .fld hv ha hl, _, e, k, h => by simp [putA] at h
  | [.fld i f], _, none :: os, env, env', nfp, fo, .fld hv ha hl, _, e, k, h => by simp [putA] at h
  | [.fld i f], _, some (.dat d) :: os, env, env', nfp, fo, .fld hv ha hl, _, e, k, h => by simp [putA] at h
  | [.fld i f], _, some (.own (.ins c gs)) :: os, env, env', nfp, fo, .fld hv ha hl, _, e, k, h => by simp [putA] at h
  | [.fld i f], _, some (.own (.rcd gs)) :: os, env, env', nfp, fo, .fld hv ha hl, _, e, k, h => by simp [putA] at h
  | [.fld i f], _, some (.own (.lf l)) :: os, env, env', nfp, fo, .fld (a := aa) hv ha hl, st, e, k, h => by
    simp only [putA] at h
    split at h
    · rename_i c gs hx
      split at h
      · rename_i hlk
        cases e with
        | so g e =>
          cases e
          simp only [putA, Option.some.injEq] at h
          subst h
          rename_i fg
          obtain ⟨v', f1, e1, o1, k1⟩ := k.get hx
          rw [hv] at e1
          cases e1
          cases o1 with
          | own o1 =>
            cases o1 with
            | ins ho ofs =>
              have hk := st i f (by simp) _ _ _ _ hv ha
              rw [hk, ha] at ho
              cases ho
              rename_i fpo
              cases g with
              | own g =>
                cases g with
                | lf g =>
                  obtain ⟨f0, fp', h1, h2, h3⟩ := OwFs.setF (f := f) (x := .own l) ofs hl (.own g)
                  have h4 := h3 _ hlk
                  cases h4
                  have hil : i < env.length := (List.getElem?_eq_some_iff.mp hx).1
                  rw [List.nil_append] at h2
                  rw [List.append_nil] at k1
                  have pm : (aa :: fpo ++ (fg ++ nfp)).Perm ((aa :: fp') ++ nfp) := by
                    rw [List.cons_append, List.cons_append]
                    refine List.Perm.cons _ ?_
                    refine (List.perm_append_comm_assoc fpo fg nfp).trans ?_
                    rw [← List.append_assoc]
                    exact h2.append_right nfp
                  have k2 := Ok.put (f1 := aa :: fp') (i := i) (k1.perm pm) (by rw [List.getElem?_set_self hil]) hv (.own (.ins (hk.trans ha) h1))
                  rwa [List.set_set] at k2
      · cases h
    · cases h
end
end DL

/-! DL11: calls, kept sound -/
namespace DL
open PySem L2
def RAV (K : PySem.W.Frag) (κ : Nat → Addr) (σ : L2.St) : Hp → Hp → List V → List AV → List Addr → Prop := fun I H vs as nfp => AvR K κ I H σ vs as ∧ nfp = []
abbrev taV (K : PySem.W.Frag) (κ : Nat → Addr) (W : WX) (ars : List AR) : TA := fun σ H Q => tG K κ (RAV K κ σ) W (evA ars) σ H Q
section
variable {K : PySem.W.Frag} {κ : Nat → Addr} {I I' F H H' : Hp} {σ : L2.St}
theorem AvR.len : ∀ {vs : List V} {as : List AV}, AvR K κ I H σ vs as → vs.length = as.length
  | _, _, .nil => rfl
  | _, _, .dat _ r => by simp [r.len]
  | _, _, .var _ r => by simp [r.len]
  | _, _, .fld _ _ _ => rfl
theorem AvR.mono (s : Same I I') : ∀ {vs : List V} {as : List AV}, AvR K κ I H σ vs as → AvR K κ I' H σ vs as
  | _, _, .nil => .nil
  | _, _, .dat h r => .dat (Rp.mono s h) (r.mono s)
  | _, _, .var h r => .var h (r.mono s)
  | _, _, .fld h1 h2 h3 => .fld h1 h2 h3
theorem takeA_fld {i : Nat} {f : Str} : ∀ {vs : List V} {as : List AV} {env env1 : Slots} {args : List SV}, AvR K κ I H σ vs as → takeA as env = some (args, env1) → AV.fld i f ∈ as → ∃ c gs, env1[i]? = some (some (.own (.ins c gs)))
  | _, _, _, _, _, .nil, _, m => by simp at m
  | _, .dat d :: as, env, env1, args, .dat _ r, h, m => by
    simp only [takeA] at h
    cases q : takeA as env with
    | none => rw [q] at h; cases h
    | some p =>
      rw [q] at h
      simp only [Option.map_some, Option.some.injEq, Prod.mk.injEq] at h
      obtain ⟨rfl, rfl⟩ := h
      exact takeA_fld r q (by simpa using m)
  | _, .var j :: as, env, env1, args, .var _ r, h, m => by
    simp only [takeA] at h
    split at h
    · cases q : takeA as (env.set j none) with
      | none => rw [q] at h; cases h
      | some p =>
        rw [q] at h
        simp only [Option.map_some, Option.some.injEq, Prod.mk.injEq] at h
        obtain ⟨rfl, rfl⟩ := h
        exact takeA_fld r q (by simpa using m)
    · cases h
  | _, [.fld j g], env, env1, args, .fld _ _ _, h, m => by
    simp only [List.mem_cons, List.not_mem_nil, or_false, AV.fld.injEq] at m
    obtain ⟨rfl, rfl⟩ := m
    simp only [takeA] at h
    split at h
    · rename_i hx
      split at h
      · simp only [takeA, Option.map_some, Option.some.injEq, Prod.mk.injEq] at h
        obtain ⟨rfl, rfl⟩ := h
        exact ⟨_, _, by rw [List.getElem?_set_self (List.getElem?_eq_some_iff.mp hx).1]⟩
      · cases h
    · cases h
end
section
variable {X : Cx} {κ : Nat → Addr} {W : WX} {P : List Nat} {e a b : PySem.Expr} {pos : Pos} {es : List PySem.Expr}
theorem dv_nil : PA X [] (taV X.K κ W []) := pa_imp pa_nil fun σ H Q h => by
  obtain ⟨I, F, env, k, p⟩ := h
  exact p I H _ [] (Step.refl F I) k ⟨.nil, rfl⟩
theorem dv_dat {f : EM D} {ars : List AR} (ha : PE X e (teD X.K κ W f)) (hr : PA X es (taV X.K κ W ars)) (hs : starEach (e :: es) X.env = (false, eval e X.env) :: starEach es X.env := by rfl) : PA X (e :: es) (taV X.K κ W (.dat f :: ars)) :=
  pa_imp (pa_cons ha hr hs) fun σ H Q h => by
    obtain ⟨I, F, env, k, p⟩ := h
    refine ⟨I, F, env, k, Post.mono (Post.bind (R := RD X.K κ) p) ?_⟩
    rintro x H1 ⟨I1, env1, dx, nfp, s1, k1, ⟨rx, rfl⟩, p1⟩
    refine ⟨I1, F, env1, k1, Post.mono (p1.bind (R := RAV X.K κ σ)) ?_⟩
    rintro xs H2 ⟨I2, env2, ds, nfp, s2, k2, ⟨rs, rfl⟩, p2⟩
    exact p2 I2 H2 _ [] (Step.refl F I2) k2 ⟨.dat (rx.mono s2.ext) rs, rfl⟩
theorem dv_var {i : Nat} {x : Str} {ars : List AR} {p1 : Pos} (hr : PA X es (taV X.K κ W ars)) (hs : starEach (.Name x p1 :: es) X.env = (false, eval (.Name x p1) X.env) :: starEach es X.env := by rfl) (hN : X.N[i]? = some x := by rfl) (hv : Vis X.env.scope x := by first | exact Or.inl rfl | exact Or.inr (Or.inl rfl) | exact Or.inr (Or.inr rfl)) (hd : (x == ("__debug__" : Str)) = false := by decide)
    (hcd : (x == ("__classdict__" : Str)) = false := by decide) : PA X (.Name x p1 :: es) (taV X.K κ W (.var i :: ars)) :=
  pa_imp (pa_cons (pe_var hN hv hd hcd) hr hs) fun σ H Q h => by
    obtain ⟨I, F, env, k, p⟩ := h
    simp only [evA] at p
    split at p
    · rename_i y hy
      obtain ⟨v, f1, h1, h2⟩ := k.at_ hy
      refine ⟨v, h1, I, F, env, k, Post.mono (p.bind (R := RAV X.K κ σ)) ?_⟩
      rintro xs H2 ⟨I2, env2, ds, nfp, s2, k2, ⟨rs, rfl⟩, p2⟩
      exact p2 I2 H2 _ [] (Step.refl F I2) k2 ⟨.var h1 rs, rfl⟩
    · exact p.elim
theorem dv_fld {c i : Nat} {f x : Str} {p1 : Pos} (hc : Cls X.K (κ c)) (hn : NoAttr X.K (κ c) f) (hN : X.N[i]? = some x := by rfl) (hv : Vis X.env.scope x := by first | exact Or.inl rfl | exact Or.inr (Or.inl rfl) | exact Or.inr (Or.inr rfl)) (hd : (x == ("__debug__" : Str)) = false := by decide)
    (hcd : (x == ("__classdict__" : Str)) = false := by decide) (hb : attributeBase (.Name x p1) f X.env (eval (.Name x p1) X.env) = eval (.Name x p1) X.env := by rfl) (hs : starEach [.Attribute (.Name x p1) f pos] X.env = (false, eval (.Attribute (.Name x p1) f pos) X.env) :: starEach [] X.env := by rfl) : PA X [.Attribute (.Name x p1) f pos] (taV X.K κ W [.fld c i f]) :=
  pa_imp (pa_cons (pe_fld (pe_var hN hv hd hcd) hb) pa_nil hs) fun σ H Q h => by
    obtain ⟨I, F, env, k, p⟩ := h
    simp only [evA] at p
    split at p
    · rename_i c' gs hy
      split at p
      · rename_i hcc
        subst hcc
        split at p
        · rename_i l hl
          obtain ⟨v, f1, h1, h2⟩ := k.at_ hy
          cases h2 with
          | own m =>
            cases m with
            | ins ho r1 =>
              obtain ⟨w, f2, hw, ow, hm2⟩ := r1.lookup hl
              exact ⟨_, h1, _, _, _, _, w, rfl, ho, hc, hn, hw, p I H _ [] (Step.refl F I) k ⟨.fld h1 ho hw, rfl⟩⟩
        · exact p.elim
      · exact p.elim
    · exact p.elim
/-- the callee's end and the caller's going on -/
theorem call_end {K : PySem.W.Frag} {I F H : Hp} {σ : L2.St} {env : Slots} {vs : List V} {avs : List AV} {Φ : List SV → RE SV} {Q : VK} {E : XK} (k : Ok K κ I F H σ env []) (ra : AvR K κ I H σ vs avs)
    (p : Post K κ (RS K κ) W I F σ Q (match takeA avs env with
      | none => .stuck
      | some (args, env1) => match Φ args with
        | .ok sv outs => match putA avs outs env1 with
          | some env2 => .ok sv env2
          | none => .stuck
        | .exc e outs => match putA avs outs env1 with
          | some env2 => .exc e env2
          | none => .stuck
        | .stuck => .stuck)) (hE : ∀ cls dd H', W cls dd σ H' → E cls dd H') : spD K κ Φ vs H Q E := by
  cases ht : takeA avs env with
  | none => rw [ht] at p; exact p.elim
  | some q =>
    obtain ⟨args, env1⟩ := q
    rw [ht] at p
    simp only at p
    obtain ⟨fa, e1, k1⟩ := takeA_ok ra k ht
    obtain ⟨fr, er, rr⟩ := k1.ex
    rw [List.append_nil] at rr
    have rr2 : Rel I F H (fr ++ fa) := rr.perm List.perm_append_comm
    refine ⟨I, addF F H fr, args, ⟨fa, e1, rr2.frame⟩, ?_⟩
    have stay : ∀ {H' : Hp}, (∀ a ∈ fr, H' a = H a) → ∀ (i : Nat) (f : Str), AV.fld i f ∈ avs → ∀ (a C dx : Addr) (fs : List (Str × V)), σ[i]? = some (some (.ref a)) → H a = some (.ins C dx fs) → H' a = H a := by
      intro H' kp i f m a C dx fs h1 _
      obtain ⟨c, gs, hg⟩ := takeA_fld ra ht m
      obtain ⟨v, f1, h3, h4, h5⟩ := er.at_ hg
      rw [h1] at h3
      cases h3
      cases h4 with
      | own h4 =>
        cases h4 with
        | ins _ _ => exact kp a (h5 a (by simp))
    revert p
    cases Φ args with
    | ok sv os =>
      intro p I' H' v nfp s' k' ow
      simp only at p
      cases hp : putA avs os env1 with
      | none => rw [hp] at p; exact p.elim
      | some env2 =>
        rw [hp] at p
        obtain ⟨fo, eo, ro⟩ := k'.ex
        obtain ⟨r3, kp, s3⟩ := rr2.unframe ro s'
        have er' := er.mono (K := K) (κ := κ) (H' := H') s3.ext kp
        have k4 : Ok K κ I' F H' σ env1 (fo ++ nfp) := ⟨fr, er', r3.perm (by
          refine List.perm_append_comm.trans ?_
          exact (List.perm_append_comm (l₁ := nfp) (l₂ := fo)).append_right fr)⟩
        exact p I' H' v nfp s3 (putA_ok (ra.mono s3.ext) (stay kp) eo k4 hp) ow
    | exc e os =>
      intro p I' H' cls dd s' k' ex
      simp only at p
      cases hp : putA avs os env1 with
      | none => rw [hp] at p; exact p.elim
      | some env2 =>
        rw [hp] at p
        obtain ⟨fo, eo, ro⟩ := k'.ex
        obtain ⟨r3, kp, s3⟩ := rr2.unframe ro s'
        have er' := er.mono (K := K) (κ := κ) (H' := H') s3.ext kp
        have k4 : Ok K κ I' F H' σ env1 (fo ++ []) := ⟨fr, er', r3.perm (by
          refine List.perm_append_comm.trans ?_
          rw [List.nil_append, List.append_nil])⟩
        exact hE _ _ _ (p I' H' cls dd s3 (putA_ok (ra.mono s3.ext) (stay kp) eo k4 hp) ex)
    | stuck => exact fun p => p
/-- a def's mirror at some level -/
abbrev FnD (X : Cx) (κ : Nat → Addr) (k : Nat) (f : Addr) (fd : FuncData) (ps : List Str) (Φ : List SV → RE SV) : Prop := FnOk X.prog X.w X.K X.mg X.base (L2.CX X.prog X.w) k f fd ps (spD X.K κ Φ)
theorem de_call {Φ : List SV → RE SV} {ars : List AR} {k : Nat} {f : Addr} {fd : FuncData} {ps : List Str} {x : Str} {p : Pos} (G : FnD X κ k f fd ps Φ) (hr : Room k X.A) (hm : X.mg x = some (.ref f)) (hk : PySem.W.keepIn X.K (.ref f) = true) (hb : Binds X.K fd ps []) (tk : Takes X W)
    (ha : PA X (e :: es) (taV X.K κ W ars)) (hg : Gl X x := by rfl) (hdb : (x == ("__debug__" : Str)) = false := by decide) (he : starEach (e :: es) X.env = (false, eval e X.env) :: starEach es X.env := by rfl) (hpl : (backTo pos (starEach es X.env)).any (·.1) = false := by rfl) : PE X (.Call (.Name x p) (e :: es) [] pos) (teS X.K κ W (callD Φ ars)) := by
  refine pe_imp (pe_callSD (dvs := []) G hr hg hm hk hb .nil (fun σ => passAt tk σ) ha hdb he hpl) fun σ H Q h => ?_
  obtain ⟨I, F, env, k, p⟩ := h
  refine ⟨I, F, env, k, Post.mono (Post.bind (R := RAV X.K κ σ) p) ?_⟩
  rintro vs H1 ⟨I1, env1, avs, nfp, s1, k1, ⟨ra, rfl⟩, p1⟩
  rw [List.append_nil]
  exact call_end k1 ra p1 fun _ _ _ h => h
/-- o.m(..), o a slot: its own instance, or data -/
theorem pe_methS {E : L2.St → XK} {pl : Sem Bool} {o : PySem.Expr} {m : Str} {apos : Pos} {C f : Addr} {k : Nat} {fd : FuncData} {ps : List Str} {sp : Sp} {ta : TE} {t : TA} (he : PE X o ta) (c : Cls X.K C) (hm : Meth X.K C m f) (G : FnOk X.prog X.w X.K X.mg X.base (L2.CX X.prog X.w) k f fd ps sp) (hr : Room k X.A) (hb : Binds X.K fd ps []) (hx : ∀ σ, PassesAt (L2.CX X.prog X.w) X σ (E σ)) (ha : PA X (e :: es) t)
    (hst : starEach (e :: es) X.env = (false, eval e X.env) :: starEach es X.env := by rfl) (hpl : (backTo pos (starEach es X.env)).any (·.1) = false := by rfl)
    (ht : eval (.Call (.Attribute o m apos) (e :: es) [] pos) X.env = (do
      let r ← eval o X.env
      standAt apos.atName
      let (g, first) ← holding [r] (getMethod r m pl)
      callWith pos g first (backTo pos (starEach (e :: es) X.env)) (backToKw pos (keywordEach [] X.env))) := by rfl) :
    PE X (.Call (.Attribute o m apos) (e :: es) [] pos) (fun σ H Q => ta σ H fun x H1 => ∃ a dx fs, x = .ref a ∧ H1 a = some (.ins C dx fs) ∧ fs.lookup m = none ∧ t σ H1 fun vs H2 => sp (x :: vs) H2 Q (E σ)) := by
  constructor
  intro pins s σ H Q I h
  refine PySem.W.methodCall_KW (pl := pl) (thn (he.run pins s σ H _ I h) ?_) ht
  rintro u s1 ⟨x, H1, I1, rx, a, dx, fs, rfl, ea, l, q⟩
  have eu : u = Value.ref a := rx
  subst eu
  refine getmeth_ok I1 ea c hm l (PySem.W.callWith_K (first := [.ref a]) (h₀ := X.base) I.ok.mod.kin hm.kp (thn (ha.run pos pins s1 σ H1 _ I1 q) ?_) hst hpl)
  rintro us s2 ⟨vs, H2, I2, r, q2⟩
  refine ⟨I2.kIn, run_fnSD (us := .ref a :: us) (vs := .ref a :: vs) (dvs := []) (ds := []) G hr hb .nil (hx σ) I2 (.cons rfl r) ?_⟩
  rw [List.append_nil]
  exact q2
theorem pe_methS0 {E : L2.St → XK} {pl : Sem Bool} {o : PySem.Expr} {m : Str} {apos : Pos} {C f : Addr} {k : Nat} {fd : FuncData} {ps : List Str} {sp : Sp} {ta : TE} (he : PE X o ta) (c : Cls X.K C) (hm : Meth X.K C m f) (G : FnOk X.prog X.w X.K X.mg X.base (L2.CX X.prog X.w) k f fd ps sp) (hr : Room k X.A) (hb : Binds X.K fd ps []) (hx : ∀ σ, PassesAt (L2.CX X.prog X.w) X σ (E σ))
    (ht : eval (.Call (.Attribute o m apos) [] [] pos) X.env = (do
      let r ← eval o X.env
      standAt apos.atName
      let (g, first) ← holding [r] (getMethod r m pl)
      callWith pos g first (backTo pos (starEach [] X.env)) (backToKw pos (keywordEach [] X.env))) := by rfl) :
    PE X (.Call (.Attribute o m apos) [] [] pos) (fun σ H Q => ta σ H fun x H1 => ∃ a dx fs, x = .ref a ∧ H1 a = some (.ins C dx fs) ∧ fs.lookup m = none ∧ sp [x] H1 Q (E σ)) := by
  constructor
  intro pins s σ H Q I h
  refine PySem.W.methodCall_KW (pl := pl) (thn (he.run pins s σ H _ I h) ?_) ht
  rintro u s1 ⟨x, H1, I1, rx, a, dx, fs, rfl, ea, l, q⟩
  have eu : u = Value.ref a := rx
  subst eu
  refine getmeth_ok I1 ea c hm l (PySem.W.callWith_K0 (first := [.ref a]) I1.kIn hm.kp ?_)
  exact run_fnSD (us := [.ref a]) (vs := [.ref a]) (dvs := []) (ds := []) G hr hb .nil (hx σ) I1 (.cons rfl .nil) q
end
end DL

/-! DL12: methods, instances made, the rule of a def -/
namespace DL
open PySem L2
/-- o.m(..), o a slot -/
def methV (c : Nat) (m : Str) (i : Nat) (Φ : List SV → RE SV) (ars : List AR) : EM SV := fun env => match env[i]? with
  | some (some (.own (.ins c' gs))) => if c' = c ∧ gs.lookup m = none then callD Φ (.var i :: ars) env else .stuck
  | some (some (.dat (.obj c' gs))) => if c' = c ∧ gs.lookup m = none then callD Φ (.dat (eC (.obj c' gs)) :: ars) env else .stuck
  | _ => .stuck
/-- e.m(..), e data -/
def methE (c : Nat) (m : Str) (f : EM D) (Φ : List SV → RE SV) (ars : List AR) : EM SV := f.bind fun d => match d with
  | .obj c' gs => if c' = c ∧ gs.lookup m = none then callD Φ (.dat (eC d) :: ars) else fun _ => .stuck
  | _ => fun _ => .stuck
/-- .. of one of two classes -/
def methE2 (c c2 : Nat) (m : Str) (f : EM D) (Φ Φ2 : List SV → RE SV) (ars : List AR) : EM SV := f.bind fun d => match d with
  | .obj c' gs => if c' = c ∧ gs.lookup m = none then callD Φ (.dat (eC d) :: ars) else if c' = c2 ∧ gs.lookup m = none then callD Φ2 (.dat (eC d) :: ars) else fun _ => .stuck
  | _ => fun _ => .stuck
def newEnd (Φ : List SV → RE SV) (avs : List AV) (c : Nat) : EM SV := fun env => match takeA avs env with
  | none => .stuck
  | some (args, env1) => match Φ (.own (.ins c []) :: args) with
    | .ok (.dat .non) (some m :: outs) => match putA avs outs env1 with
      | some env2 => .ok m env2
      | none => .stuck
    | .exc e (_ :: outs) => match putA avs outs env1 with
      | some env2 => .exc e env2
      | none => .stuck
    | _ => .stuck
/-- C(..) -/
def newD (c : Nat) (Φ : List SV → RE SV) (ars : List AR) : EM SV := (evA ars).bind fun avs => newEnd Φ avs c
theorem EM.pure_bind {α β : Type} (a : α) (g : α → EM β) : (EM.pure a).bind g = g a := rfl
section
variable {K : PySem.W.Frag} {κ : Nat → Addr} {I I' F H H' : Hp} {σ : L2.St} {env : Slots} {W : WX}
theorem Ok.ghost {nfp : List Addr} {p : Addr} {o : HO} (k : Ok K κ I F H σ env nfp) (hp : H p = none) : Ok K κ I F (upd H p o) σ env nfp := by
  have k1 : Ok K κ I F (upd H p o) σ env ([p] ++ nfp) := k.newO hp
  exact k1.drop
theorem make_end {vs : List V} {avs : List AV} {Φ : List SV → RE SV} {Q : VK} {E : XK} {c : Nat} (k : Ok K κ I F H σ env []) (ra : AvR K κ I H σ vs avs)
    (p : Post K κ (RS K κ) W I F σ Q (newEnd Φ avs c env)) (hE : ∀ cls dd H', W cls dd σ H' → E cls dd H') (x dx : Addr) (hx : H x = none) (hd : H dx = none) (ne : dx ≠ x) :
    spD K κ Φ (.ref x :: vs) (upd (upd H dx (.own x)) x (.ins (κ c) dx [])) (fun v H2 => v = .non ∧ Q (.ref x) H2) E := by
  unfold newEnd at p
  have k0 : Ok K κ I F (upd H dx (.own x)) σ env [] := k.ghost hd
  have hx2 : (upd H dx (.own x)) x = none := by rw [upd_ne (Ne.symm ne)]; exact hx
  have k2 : Ok K κ I F (upd (upd H dx (.own x)) x (.ins (κ c) dx [])) σ env [x] := k0.newO hx2
  have ra2 : AvR K κ I (upd (upd H dx (.own x)) x (.ins (κ c) dx [])) σ vs avs := by
    have keep : ∀ a o, H a = some o → (upd (upd H dx (.own x)) x (.ins (κ c) dx [])) a = some o := fun a o h => by
      rw [upd_ne (ne_of_none h hx), upd_ne (ne_of_none h hd)]; exact h
    clear p k k0 k2 hE
    induction ra with
    | nil => exact .nil
    | dat h _ ih => exact .dat h ih
    | var h _ ih => exact .var h ih
    | fld h1 h2 h3 => exact .fld h1 (keep _ _ h2) h3
  generalize hH2 : upd (upd H dx (.own x)) x (.ins (κ c) dx []) = H2 at *
  have atx : H2 x = some (.ins (κ c) dx []) := by rw [← hH2]; exact upd_same
  cases ht : takeA avs env with
  | none => rw [ht] at p; exact p.elim
  | some q =>
    obtain ⟨args, env1⟩ := q
    rw [ht] at p
    simp only at p
    obtain ⟨fa, e1, k1⟩ := takeA_ok ra2 k2 ht
    obtain ⟨fr, er, rr⟩ := k1.ex
    have rr2 : Rel I F H2 (fr ++ ([x] ++ fa)) := rr.perm (by
      refine List.perm_append_comm.trans ?_
      exact (List.perm_append_comm (l₁ := fa) (l₂ := [x])).append_left fr)
    refine ⟨I, addF F H2 fr, .own (.ins c []) :: args, ⟨[x] ++ fa, .so (.own (.ins atx .nil)) e1, rr2.frame⟩, ?_⟩
    have stay : ∀ {H' : Hp}, (∀ a ∈ fr, H' a = H2 a) → ∀ (i : Nat) (f : Str), AV.fld i f ∈ avs → ∀ (a C dx : Addr) (fs : List (Str × V)), σ[i]? = some (some (.ref a)) → H2 a = some (.ins C dx fs) → H' a = H2 a := by
      intro H' kp i f m a C dx fs h1 _
      obtain ⟨c, gs, hg⟩ := takeA_fld ra2 ht m
      obtain ⟨v, f1, h3, h4, h5⟩ := er.at_ hg
      rw [h1] at h3
      cases h3
      cases h4 with
      | own h4 =>
        cases h4 with
        | ins _ _ => exact kp a (h5 a (by simp))
    revert p
    cases Φ (.own (.ins c []) :: args) with
    | ok sv os =>
      intro p I' H' v nfp s' k' ow
      cases sv with
      | own m => exact p.elim
      | dat d =>
        cases d with
        | non =>
          cases os with
          | nil => exact p.elim
          | cons o os =>
            cases o with
            | none => exact p.elim
            | some m =>
              simp only at p
              cases hp : putA avs os env1 with
              | none => rw [hp] at p; exact p.elim
              | some env2 =>
                rw [hp] at p
                cases ow with
                | dat rv =>
                  cases rv
                  refine ⟨rfl, ?_⟩
                  obtain ⟨fo, eo, ro⟩ := k'.ex
                  cases eo with
                  | so om eo =>
                    rename_i fm fo
                    rw [List.nil_append] at ro
                    obtain ⟨r3, kp, s3⟩ := rr2.unframe ro s'
                    have er' := er.mono (K := K) (κ := κ) (H' := H') s3.ext kp
                    have k4 : Ok K κ I' F H' σ env1 (fo ++ fm) := ⟨fr, er', r3.perm (by
                      refine List.perm_append_comm.trans ?_
                      exact (List.perm_append_comm (l₁ := fm) (l₂ := fo)).append_right fr)⟩
                    exact p I' H' (.ref x) fm s3 (putA_ok (ra2.mono s3.ext) (stay kp) eo k4 hp) om
        | _ => exact p.elim
    | exc e os =>
      intro p I' H' cls dd s' k' ex
      cases os with
      | nil => exact p.elim
      | cons o os =>
        simp only at p
        cases hp : putA avs os env1 with
        | none => rw [hp] at p; exact p.elim
        | some env2 =>
          rw [hp] at p
          obtain ⟨fo, eo, ro⟩ := k'.ex
          obtain ⟨r3, kp, s3⟩ := rr2.unframe ro s'
          have er' := er.mono (K := K) (κ := κ) (H' := H') s3.ext kp
          rw [List.nil_append] at r3
          have fin : ∃ fm fo2, EnvR K κ I' H' (vs.map some) os fo2 ∧ fo = fm ++ fo2 := by
            cases eo with
            | no eo => exact ⟨[], fo, eo, rfl⟩
            | so _ eo => exact ⟨_, _, eo, rfl⟩
          obtain ⟨fm, fo2, eo2, rfl⟩ := fin
          have k4 : Ok K κ I' F H' σ env1 (fm ++ (fo2 ++ [])) := ⟨fr, er', r3.perm (by
            refine List.perm_append_comm.trans ?_
            rw [List.append_nil])⟩
          exact hE _ _ _ (p I' H' cls dd s3 (putA_ok (ra2.mono s3.ext) (stay kp) eo2 k4.drop hp) ex)
    | stuck => exact fun p => p.elim
end
section
variable {X : Cx} {κ : Nat → Addr} {W : WX} {P : List Nat} {e a b : PySem.Expr} {pos : Pos} {es : List PySem.Expr}
theorem call_var {Φ : List SV → RE SV} {i : Nat} {ars : List AR} {I F H : Hp} {σ : L2.St} {env : Slots} {v : V} {x : SV} {Q : VK} {E : XK} {t : TA} (ht : ∀ σ H Q, taV X.K κ W ars σ H Q → t σ H Q) (k : Ok X.K κ I F H σ env []) (hv : σ[i]? = some (some v)) (hx : env[i]? = some (some x)) (hE : ∀ cls dd H', W cls dd σ H' → E cls dd H')
    (p : Post X.K κ (RS X.K κ) W I F σ Q (callD Φ (.var i :: ars) env)) : t σ H fun vs H2 => spD X.K κ Φ (v :: vs) H2 Q E := by
  unfold callD at p
  have e1 : evA (.var i :: ars) env = ((evA ars).bind fun as => EM.pure (.var i :: as)) env := by simp only [evA, hx]
  rw [show ∀ g : List AV → EM SV, ((evA (.var i :: ars)).bind g) env = (((evA ars).bind fun as => EM.pure (.var i :: as)).bind g) env from fun g => by unfold EM.bind at *; rw [e1], EM.assoc] at p
  refine ht _ _ _ ⟨I, F, env, k, Post.mono (Post.bind (R := RAV X.K κ σ) p) ?_⟩
  rintro vs H1 ⟨I1, env1, avs, nfp, s1, k1, ⟨ra, rfl⟩, p1⟩
  exact call_end k1 (.var hv ra) p1 hE
theorem call_dat {Φ : List SV → RE SV} {d : D} {ars : List AR} {I F H : Hp} {σ : L2.St} {env : Slots} {v : V} {Q : VK} {E : XK} {t : TA} (ht : ∀ σ H Q, taV X.K κ W ars σ H Q → t σ H Q) (k : Ok X.K κ I F H σ env []) (hv : Rp X.K κ I v d) (hE : ∀ cls dd H', W cls dd σ H' → E cls dd H')
    (p : Post X.K κ (RS X.K κ) W I F σ Q (callD Φ (.dat (eC d) :: ars) env)) : t σ H fun vs H2 => spD X.K κ Φ (v :: vs) H2 Q E := by
  unfold callD at p
  have e1 : evA (.dat (eC d) :: ars) = (evA ars).bind fun as => EM.pure (.dat d :: as) := rfl
  rw [e1, EM.assoc] at p
  refine ht _ _ _ ⟨I, F, env, k, Post.mono (Post.bind (R := RAV X.K κ σ) p) ?_⟩
  rintro vs H1 ⟨I1, env1, avs, nfp, s1, k1, ⟨ra, rfl⟩, p1⟩
  exact call_end k1 (.dat (hv.mono s1.ext) ra) p1 hE
theorem methV_run {c i : Nat} {m : Str} {Φ : List SV → RE SV} {ars : List AR} {t : TA} {σ : L2.St} {H : Hp} {Q : VK} {E : L2.St → XK} (hE : ∀ σ cls dd H', W cls dd σ H' → E σ cls dd H') (ht : ∀ σ H Q, taV X.K κ W ars σ H Q → t σ H Q) (h : teS X.K κ W (methV c m i Φ ars) σ H Q) :
    tVar i σ H fun x H1 => ∃ a dx fs, x = .ref a ∧ H1 a = some (.ins (κ c) dx fs) ∧ fs.lookup m = none ∧ t σ H1 fun vs H2 => spD X.K κ Φ (x :: vs) H2 Q (E σ) := by
  obtain ⟨I, F, env, k, p⟩ := h
  unfold methV at p
  split at p
  · rename_i c' gs hx
    split at p
    · rename_i hc
      obtain ⟨rfl, hl⟩ := hc
      obtain ⟨v, f1, h1, h2⟩ := k.at_ hx
      cases h2 with
      | own h2 =>
        cases h2 with
        | ins ho of => exact ⟨_, h1, _, _, _, rfl, ho, of.lookup_none hl, call_var ht k h1 hx (hE σ) p⟩
    · exact p.elim
  · rename_i c' gs hx
    split at p
    · rename_i hc
      obtain ⟨rfl, hl⟩ := hc
      obtain ⟨v, f1, h1, h2⟩ := k.at_ hx
      cases h2 with
      | dat h2 =>
        cases h2 with
        | obj ho of => exact ⟨_, h1, _, _, _, rfl, k.ext _ _ ho, of.lookup_none hl, call_dat ht k (.obj ho of) (hE σ) p⟩
    · exact p.elim
  · exact p.elim
theorem de_methV {c i : Nat} {m : Str} {Φ : List SV → RE SV} {ars : List AR} {pl : Sem Bool} {x : Str} {p1 apos : Pos} {f : Addr} {k : Nat} {fd : FuncData} {ps : List Str} (hc : Cls X.K (κ c)) (hm : Meth X.K (κ c) m f) (G : FnD X κ k f fd ps Φ) (hr : Room k X.A) (hb : Binds X.K fd ps []) (tk : Takes X W) (ha : PA X (e :: es) (taV X.K κ W ars))
    (hN : X.N[i]? = some x := by rfl) (hv : Vis X.env.scope x := by first | exact Or.inl rfl | exact Or.inr (Or.inl rfl) | exact Or.inr (Or.inr rfl)) (hd : (x == ("__debug__" : Str)) = false := by decide) (hcd : (x == ("__classdict__" : Str)) = false := by decide)
    (hst : starEach (e :: es) X.env = (false, eval e X.env) :: starEach es X.env := by rfl) (hpl : (backTo pos (starEach es X.env)).any (·.1) = false := by rfl)
    (ht : eval (.Call (.Attribute (.Name x p1) m apos) (e :: es) [] pos) X.env = (do
      let r ← eval (.Name x p1) X.env
      standAt apos.atName
      let (g, first) ← holding [r] (getMethod r m pl)
      callWith pos g first (backTo pos (starEach (e :: es) X.env)) (backToKw pos (keywordEach [] X.env))) := by rfl) :
    PE X (.Call (.Attribute (.Name x p1) m apos) (e :: es) [] pos) (teS X.K κ W (methV c m i Φ ars)) :=
  pe_imp (pe_methS (pe_var hN hv hd hcd) hc hm G hr hb (fun σ => passAt tk σ) ha hst hpl ht) fun σ H Q h => methV_run (fun _ _ _ _ h => h) (fun _ _ _ h => h) h
theorem de_methV0 {c i : Nat} {m : Str} {Φ : List SV → RE SV} {pl : Sem Bool} {x : Str} {p1 apos : Pos} {f : Addr} {k : Nat} {fd : FuncData} {ps : List Str} (hc : Cls X.K (κ c)) (hm : Meth X.K (κ c) m f) (G : FnD X κ k f fd ps Φ) (hr : Room k X.A) (hb : Binds X.K fd ps []) (tk : Takes X W)
    (hN : X.N[i]? = some x := by rfl) (hv : Vis X.env.scope x := by first | exact Or.inl rfl | exact Or.inr (Or.inl rfl) | exact Or.inr (Or.inr rfl)) (hd : (x == ("__debug__" : Str)) = false := by decide) (hcd : (x == ("__classdict__" : Str)) = false := by decide)
    (ht : eval (.Call (.Attribute (.Name x p1) m apos) [] [] pos) X.env = (do
      let r ← eval (.Name x p1) X.env
      standAt apos.atName
      let (g, first) ← holding [r] (getMethod r m pl)
      callWith pos g first (backTo pos (starEach [] X.env)) (backToKw pos (keywordEach [] X.env))) := by rfl) :
    PE X (.Call (.Attribute (.Name x p1) m apos) [] [] pos) (teS X.K κ W (methV c m i Φ [])) :=
  pe_imp (pe_methS0 (pe_var hN hv hd hcd) hc hm G hr hb (fun σ => passAt tk σ) ht) fun σ H Q h => methV_run (t := tNil) (fun _ _ _ _ h => h) (fun σ H Q h => by
    obtain ⟨I, F, env, k, p⟩ := h
    exact p I H _ [] (Step.refl F I) k ⟨.nil, rfl⟩) h
/-- C(..) -/
theorem pe_makeS {E : L2.St → XK} {C f : Addr} {k : Nat} {fd : FuncData} {ps : List Str} {sp : Sp} {t : TA} {x : Str} {p : Pos} (M : Mk X.K C f) (G : FnOk X.prog X.w X.K X.mg X.base (L2.CX X.prog X.w) k f fd ps sp) (hr : Room (k + 1) X.A) (hg : Gl X x) (hm : X.mg x = some (.ref C)) (hb : Binds X.K fd ps []) (hx : ∀ σ, PassesAt (L2.CX X.prog X.w) X σ (E σ))
    (ha : PA X (e :: es) t) (hdb : (x == ("__debug__" : Str)) = false := by decide) (he : starEach (e :: es) X.env = (false, eval e X.env) :: starEach es X.env := by rfl) (hpl : (backTo pos (starEach es X.env)).any (·.1) = false := by rfl) :
    PE X (.Call (.Name x p) (e :: es) [] pos) (fun σ H Q => t σ H fun vs H1 => ∀ x dx, H1 x = none → H1 dx = none → dx ≠ x → sp (.ref x :: vs) (upd (upd H1 dx (.own x)) x (.ins C dx [])) (fun v H2 => v = .non ∧ Q (.ref x) H2) (E σ)) := by
  constructor
  intro pins s σ H Q I h
  refine wpAny_Call_Name_kw (ld_glob I hg hm (PySem.W.callWith_K (h₀ := X.base) I.ok.mod.kin M.kp (thn (ha.run pos pins s σ H _ I h) ?_) he hpl) hdb)
  rintro us s1 ⟨vs, H1, I1, r, q⟩
  refine ⟨I1.kIn, ?_⟩
  have new := q (s1.heap.objs.size + 1) s1.heap.objs.size (I1.hok.fresh (Nat.le_succ _)) (I1.hok.fresh (Nat.le_refl _)) (Nat.ne_of_lt (Nat.lt_succ_self _))
  have J := Inv.made (C := C) I1
  have rr : Vals (V.ref (s1.heap.objs.size + 1) :: vs) (Value.ref (s1.heap.objs.size + 1) :: us) := .cons rfl r
  have hl : ((Value.ref (s1.heap.objs.size + 1) :: us) ++ []).length = ps.length := by
    rw [List.append_nil, ← rr.length]
    exact G.len _ _ _ _ new
  have bb := hb _ (Value.ref (s1.heap.objs.size + 1) :: us) J.kIn hl
  rw [List.append_nil] at bb
  refine wpAny_call (make_map (f := f) I1.kIn M.makes M.init (beq_iff_eq.mp M.fn) (codeAny_mono (G.run _ X.stack _ _ _ _ _ _ (E σ) (hr.make C us []) (J.env0.make C us []) bb rr new) ?_))
  intro res s' hq
  cases res with
  | error e => exact hx σ pins _ _ e s' J hq
  | ok fl =>
    cases fl with
    | ret u =>
      obtain ⟨v, H', I3, rv, ev, q3⟩ := J.after hq
      subst ev
      exact ⟨rv, V.ref (s1.heap.objs.size + 1), H', I3, rfl, q3⟩
    | next => exact False.elim hq
    | brk => exact False.elim hq
    | cont => exact False.elim hq
theorem de_new {c : Nat} {Φ : List SV → RE SV} {ars : List AR} {k : Nat} {f : Addr} {fd : FuncData} {ps : List Str} {x : Str} {p : Pos} (M : Mk X.K (κ c) f) (G : FnD X κ k f fd ps Φ) (hr : Room (k + 1) X.A) (hm : X.mg x = some (.ref (κ c))) (hb : Binds X.K fd ps []) (tk : Takes X W)
    (ha : PA X (e :: es) (taV X.K κ W ars)) (hg : Gl X x := by rfl) (hdb : (x == ("__debug__" : Str)) = false := by decide) (he : starEach (e :: es) X.env = (false, eval e X.env) :: starEach es X.env := by rfl) (hpl : (backTo pos (starEach es X.env)).any (·.1) = false := by rfl) :
    PE X (.Call (.Name x p) (e :: es) [] pos) (teS X.K κ W (newD c Φ ars)) := by
  refine pe_imp (pe_makeS M G hr hg hm hb (fun σ => passAt tk σ) ha hdb he hpl) fun σ H Q h => ?_
  obtain ⟨I, F, env, k, p⟩ := h
  refine ⟨I, F, env, k, Post.mono (Post.bind (R := RAV X.K κ σ) p) ?_⟩
  rintro vs H1 ⟨I1, env1, avs, nfp, s1, k1, ⟨ra, rfl⟩, p1⟩
  exact fun x dx hx hd ne => make_end k1 ra p1 (fun _ _ _ h => h) x dx hx hd ne
/-- a value that must be data -/
def asD (f : EM SV) : EM D := f.bind fun sv => match sv with
  | .dat d => EM.pure d
  | .own m => EM.pure m.view
theorem de_asD {f : EM SV} (h : PE X e (teS X.K κ W f)) : PE X e (teD X.K κ W (asD f)) := pe_imp h fun σ H Q h => by
  obtain ⟨I, F, env, k, p⟩ := h
  refine ⟨I, F, env, k, Post.mono (Post.bind (R := RS X.K κ) p) ?_⟩
  rintro v H1 ⟨I1, env1, sv, nfp, s1, k1, r, p1⟩
  cases r with
  | dat r => exact p1 I1 H1 v [] (Step.refl F I1) k1 ⟨r, rfl⟩
  | own r =>
    have k1' : Ok X.K κ I1 F H1 σ env1 (nfp ++ []) := by rw [List.append_nil]; exact k1
    obtain ⟨k2, s2⟩ := k1'.freeze
    exact p1 _ H1 v [] s2 k2 ⟨r.viewed s2.ext fun a h => frz_at h, rfl⟩
end
/-! ### the rule of a def -/
section
variable {K : PySem.W.Frag} {κ : Nat → Addr} {I I' F H H' : Hp}
theorem EnvR.outs : ∀ {modes : List Bool} {σ : List (Option V)} {env : Slots} {fp : List Addr}, EnvR K κ I H σ env fp → modes.length ≤ env.length → ∃ f1 f2, EnvR K κ I H (σ.take modes.length) (DL.outs modes env) f1 ∧ (f2 ++ f1).Perm fp
  | [], σ, env, fp, r, _ => ⟨[], fp, by simpa [DL.outs] using EnvR.nil, by simp⟩
  | m :: ms, _, _, _, .nil, h => by simp at h
  | m :: ms, _, _, _, .no r, h => by
    obtain ⟨f1, f2, h1, h2⟩ := r.outs (modes := ms) (by simpa using h)
    exact ⟨f1, f2, by simpa [DL.outs] using EnvR.no h1, h2⟩
  | m :: ms, _, _, _, .so (fp := g1) (fq := g2) g r, h => by
    obtain ⟨f1, f2, h1, h2⟩ := r.outs (modes := ms) (by simpa using h)
    cases m with
    | true =>
      exact ⟨g1 ++ f1, f2, by simpa [DL.outs] using EnvR.so g h1, (List.perm_append_comm_assoc f2 g1 f1).trans (h2.append_left g1)⟩
    | false =>
      exact ⟨f1, g1 ++ f2, by simpa [DL.outs] using EnvR.no h1, by rw [List.append_assoc]; exact h2.append_left g1⟩
theorem outs_get {modes : List Bool} {env : Slots} {i : Nat} {y : SV} (h : (DL.outs modes env)[i]? = some (some y)) : modes[i]? = some true := by
  unfold DL.outs at h
  rw [List.getElem?_zipWith] at h
  cases hm : modes[i]? with
  | none => rw [hm] at h; simp at h
  | some m =>
    rw [hm] at h
    cases he : env[i]? with
    | none => rw [he] at h; simp at h
    | some s =>
      rw [he] at h
      cases m with
      | true => rfl
      | false => simp at h
theorem EnvR.pad : ∀ {σ : List (Option V)} {env : Slots} {fp : List Addr} (n : Nat), EnvR K κ I H σ env fp → EnvR K κ I H (σ ++ List.replicate n none) (env ++ List.replicate n none) fp
  | _, _, _, 0, .nil => by simpa using EnvR.nil
  | _, _, _, n + 1, .nil => by
    have := EnvR.pad n (EnvR.nil (K := K) (κ := κ) (I := I) (H := H))
    simpa [List.replicate_succ] using EnvR.no (x := none) this
  | _, _, _, n, .no r => by simpa using EnvR.no (r.pad n)
  | _, _, _, n, .so g r => by simpa using EnvR.so g (r.pad n)
end
section
variable {P : Program} {w : World} {K : PySem.W.Frag} {mg : Str → Option Value} {base : Heap} {κ : Nat → Addr}
/-- what of the slots' ends goes back -/
theorem Ok.outs {I' F H' : Hp} {σ' : L2.St} {env' : Slots} {nfp : List Addr} {vs : List V} {N : List Str} {modes : List Bool} {pin : List Nat} (k : Ok K κ I' F H' σ' env' nfp) (hl : vs.length = modes.length) (hN : modes.length ≤ N.length) (hs : σ'.length = N.length) (hp : ∀ i, modes[i]? = some true → i ∈ pin) (pn : Pin pin (L2.start N vs) σ') :
    Ok K κ I' F H' (vs.map some) (DL.outs modes env') nfp := by
  obtain ⟨fp, e, r⟩ := k.ex
  have hle : modes.length ≤ env'.length := by rw [← e.length, hs]; exact hN
  obtain ⟨f1, f2, h1, h2⟩ := e.outs hle
  refine ⟨f1, ?_, ?_⟩
  · refine h1.swap (by rw [List.length_map, List.length_take, hl, hs]; omega) fun i y q => ?_
    have hi := hp i (outs_get q)
    have hm : i < modes.length := (List.getElem?_eq_some_iff.mp (outs_get q)).1
    rw [List.getElem?_take_of_lt hm, pn.at_ i hi]
    unfold L2.start
    rw [List.getElem?_append_left (by rw [List.length_map]; omega)]
  · have := r.perm ((h2.symm.append_left nfp).trans (List.perm_append_comm_assoc nfp f2 f1))
    exact this.sub
/-- THE RULE of a def: its body's mirror is its own -/
theorem fn_ok {x qual : Str} {st : PySem.Stmt} {f : Addr} {fd : FuncData} {N ps : List Str} {k : Nat} {modes : List Bool} {body : SM} (pin : List Nat) (G : Fun K x qual st f fd) (S : FnScope N ps (defScope st)) (hm : modes.length = ps.length := by rfl) (hN : ps.length ≤ N.length := by decide)
    (hp : ∀ i, modes[i]? = some true → i ∈ pin)
    (hb : ∀ (cdv : Value) (A : Around) (outer : List Env) (s : Shared) (H : Hp) (E : XK), Room k (A.deeper (PyProof.Rows.envOfC qual (defScope st) s.heap.objs.size f cdv)) → Takes (cxOf (L2.CX P w) P w K mg base N qual (defScope st) f cdv A outer s H E) (fun cls d _ H => E cls d H) →
      PassesOwn (model P w) (A.deeper (PyProof.Rows.envOfC qual (defScope st) s.heap.objs.size f cdv)) (PyProof.Rows.envOfC qual (defScope st) s.heap.objs.size f cdv) (cxOf (L2.CX P w) P w K mg base N qual (defScope st) f cdv A outer s H E).xe →
      PSs (cxOf (L2.CX P w) P w K mg base N qual (defScope st) f cdv A outer s H E) (defBody st) (tsD K κ (fun cls d _ H => E cls d H) pin body)) :
    FnOk P w K mg base (L2.CX P w) (k + 1) f fd ps (spD K κ (fnD modes N.length body)) := by
  have lenOf : ∀ vs H Q E, spD K κ (fnD modes N.length body) vs H Q E → vs.length = ps.length := by
    rintro vs H Q E ⟨I, F, args, ko, p⟩
    have h1 := ko.len
    simp only [List.length_map] at h1
    by_cases h2 : args.length = modes.length
    · omega
    · unfold fnD at p
      rw [if_neg h2] at p
      exact p.elim
  refine G.okX S lenOf fun cdv A outer s H vs Q E hr h => ⟨_, hb cdv A outer s H E hr (takes_of rfl rfl rfl rfl) (passes_of rfl), ?_⟩
  have hvl := lenOf vs H Q E h
  obtain ⟨I, F, args, ko, p⟩ := h
  have hal := ko.len
  simp only [List.length_map] at hal
  unfold fnD at p
  have hargs : args.length = modes.length := by omega
  rw [if_pos hargs] at p
  obtain ⟨fp, e, rr⟩ := ko.ex
  have k0 : Ok K κ I F H (L2.start N vs) (args.map some ++ List.replicate (N.length - args.length) none) [] := by
    refine ⟨fp, ?_, rr⟩
    unfold L2.start
    rw [hal]
    exact e.pad _
  refine ⟨I, F, _, k0, ?_⟩
  have slen : (L2.start N vs).length = N.length := by
    unfold L2.start
    rw [List.length_append, List.length_map, List.length_replicate]
    omega
  have hml : vs.length = modes.length := by omega
  have hmN : modes.length ≤ N.length := by omega
  revert p
  cases body (args.map some ++ List.replicate (N.length - args.length) none) with
  | ok fl env' =>
    cases fl with
    | nx => exact fun p I' H' σ' s' pn k' => p I' H' .non [] s' (k'.outs hml hmN (pn.len.trans slen) hp pn) (.dat .non)
    | rt sv => exact fun p I' H' σ' s' pn v nfp k' ow => p I' H' v nfp s' (k'.outs hml hmN (pn.len.trans slen) hp pn) ow
    | bk => exact fun p => p.elim
    | ct => exact fun p => p.elim
  | exc e env' => exact fun p I' H' σ' cls dd s' pn k' ex => p I' H' cls dd s' (k'.outs hml hmN (pn.len.trans slen) hp pn) ex
  | stuck => exact fun p => p.elim
end
end DL

/-! DL13: owned things changed -/
namespace DL
open PySem L2
def putFV (f : Str) (v : FV) : List (Str × FV) → List (Str × FV)
  | [] => [(f, v)]
  | (g, x) :: r => if g = f then (g, v) :: r else (g, x) :: putFV f v r
def toFV : SV → Option FV
  | .dat d => some (.dat d)
  | .own (.lf l) => some (.own l)
  | _ => none
def isLst (env : Slots) (i : Nat) : Bool := match env[i]? with
  | some (some (.own (.lf (.lst _)))) => true
  | _ => false
/-- x.append(e), x.extend(e) -/
def sApp (i : Nat) (f : EM D) : SM := fun env => if isLst env i then (f.bind fun d env => match env[i]? with
  | some (some (.own (.lf (.lst ds)))) => if ds.length < sizeLine then .ok .nx (env.set i (some (.own (.lf (.lst (ds ++ [d])))))) else .stuck
  | _ => .stuck) env else .stuck
def sExt (i : Nat) (f : EM D) : SM := fun env => if isLst env i then (f.bind fun d env => match env[i]?, d with
  | some (some (.own (.lf (.lst ds)))), .lst es => if ds.length + es.length ≤ sizeLine then .ok .nx (env.set i (some (.own (.lf (.lst (ds ++ es)))))) else .stuck
  | _, _ => .stuck) env else .stuck
/-- x[g] = f -/
def sSetL (i : Nat) (g f : EM D) : SM := f.bind fun d env => match env[i]?, qD g env with
  | some (some (.own (.lf (.lst ds)))), some (.int ix) => match ixN ds.length ix with
    | some j => .ok .nx (env.set i (some (.own (.lf (.lst (ds.set j d))))))
    | none => .stuck
  | _, _ => .stuck
def sSetD (i : Nat) (g f : EM D) : SM := f.bind fun d env => match env[i]?, (qD g env).bind keyOf with
  | some (some (.own (.lf (.dct ds)))), some k => if ds.length < sizeLine then .ok .nx (env.set i (some (.own (.lf (.dct (setK ds k d)))))) else .stuck
  | _, _ => .stuck
/-- self.f = e -/
def sFldS (c i : Nat) (f : Str) (g : EM SV) : SM := g.bind fun sv env => match env[i]?, toFV sv with
  | some (some (.own (.ins c' gs))), some x => if c' = c ∧ gs.length < 1000 then .ok .nx (env.set i (some (.own (.ins c (putFV f x gs))))) else .stuck
  | _, _ => .stuck
/-- self.f op= e, data -/
def sFldA (c i : Nat) (f : Str) (op : D → D → Option D) (g : EM D) : SM := fun env => match env[i]? with
  | some (some (.own (.ins c' gs))) => match gs.lookup f with
    | some (.dat d) => if c' = c then (g.bind fun e env => (lift (op d e)).bind (fun z env => match env[i]? with
      | some (some (.own (.ins c' gs))) => if c' = c ∧ gs.length < 1000 then .ok .nx (env.set i (some (.own (.ins c (putFV f (.dat z) gs))))) else .stuck
      | _ => .stuck) env) env else .stuck
    | _ => .stuck
  | _ => .stuck
/-- self.f.append(e), e without self -/
def sAppF (c i : Nat) (f : Str) (g : EM D) : SM := fun env => match env[i]? with
  | some (some (.own (.ins c' gs))) => match gs.lookup f with
    | some (.own (.lst ds)) => if c' = c ∧ ds.length < sizeLine then (match g (env.set i none) with
      | .ok d env1 => (match env1[i]? with
        | some none => .ok .nx (env1.set i (some (.own (.ins c (setF f (.own (.lst (ds ++ [d]))) gs)))))
        | _ => .stuck)
      | _ => .stuck) else .stuck
    | _ => .stuck
  | _ => .stuck
/-- self.f[g] = e, an own list, an own dict -/
def sSetLF (c i : Nat) (f : Str) (g h : EM D) : SM := h.bind fun d env => match env[i]?, qD g env with
  | some (some (.own (.ins c' gs))), some (.int ix) => if c' = c then (match gs.lookup f with
    | some (.own (.lst ds)) => match ixN ds.length ix with
      | some j => .ok .nx (env.set i (some (.own (.ins c (setF f (.own (.lst (ds.set j d))) gs)))))
      | none => .stuck
    | _ => .stuck) else .stuck
  | _, _ => .stuck
def sSetDF (c i : Nat) (f : Str) (g h : EM D) : SM := h.bind fun d env => match env[i]?, (qD g env).bind keyOf with
  | some (some (.own (.ins c' gs))), some k => if c' = c then (match gs.lookup f with
    | some (.own (.dct ds)) => if ds.length < sizeLine then .ok .nx (env.set i (some (.own (.ins c (setF f (.own (.dct (setK ds k d))) gs))))) else .stuck
    | _ => .stuck) else .stuck
  | _, _ => .stuck
section
variable {K : PySem.W.Frag} {κ : Nat → Addr} {I I' F H H' : Hp} {σ : L2.St} {env : Slots} {nfp : List Addr}
theorem RpK.put {k : Key} {v : V} {d : D} : ∀ {vs : List (Key × V)} {ds : List (Key × D)}, RpK K κ I vs ds → Rp K κ I v d → RpK K κ I (putK vs k v) (setK ds k d) := by
  intro vs ds r hv
  have any : ∀ {vs : List (Key × V)} {ds : List (Key × D)}, RpK K κ I vs ds → (vs.any fun kv => decide (kv.1 = k)) = (ds.any fun kv => decide (kv.1 = k)) := by
    intro vs
    induction vs with
    | nil => intro ds r; cases r; rfl
    | cons p vs ih => intro ds r; cases r with
      | cons h r => simp [ih r]
  have mp : ∀ {vs : List (Key × V)} {ds : List (Key × D)}, RpK K κ I vs ds → RpK K κ I (vs.map fun kv => if kv.1 = k then (kv.1, v) else kv) (ds.map fun kv => if kv.1 = k then (kv.1, d) else kv) := by
    intro vs
    induction vs with
    | nil => intro ds r; cases r; exact .nil
    | cons p vs ih => intro ds r; cases r with
      | cons h r =>
        rename_i k' v' _ _
        simp only [List.map_cons]
        by_cases z : k' = k
        · simp only [z, if_true]; exact .cons hv (ih r)
        · simp only [if_neg z]; exact .cons h (ih r)
  have ap : ∀ {vs : List (Key × V)} {ds : List (Key × D)}, RpK K κ I vs ds → RpK K κ I (vs ++ [(k, v)]) (ds ++ [(k, d)]) := by
    intro vs
    induction vs with
    | nil => intro ds r; cases r; exact .cons hv .nil
    | cons p vs ih => intro ds r; cases r with
      | cons h r => exact .cons h (ih r)
  unfold putK setK
  rw [any r]
  split
  · exact mp r
  · exact ap r
theorem Ok.one {v : V} {l : Lf} {f1 : List Addr} (h : OwL K κ I H v l f1) : ∃ a, v = .ref a ∧ f1 = [a] := by
  cases h <;> exact ⟨_, rfl, rfl⟩
/-- an own list or dict of a slot is written -/
theorem Ok.updV {i : Nat} {l l' : Lf} {a : Addr} {o : HO} (k : Ok K κ I F H σ env nfp) (hx : env[i]? = some (some (.own (.lf l)))) (hv : σ[i]? = some (some (.ref a))) (hn : OwL K κ I (upd H a o) (.ref a) l' [a]) : Ok K κ I F (upd H a o) σ (env.set i (some (.own (.lf l')))) nfp := by
  obtain ⟨v, f1, h1, h2, k1⟩ := k.get hx
  rw [hv] at h1
  cases h1
  cases h2 with
  | own h2 =>
    cases h2 with
    | lf h2 =>
      obtain ⟨a', e1, rfl⟩ := Ok.one h2
      cases e1
      have k2 := Ok.write (o := o) k1
      have hil : i < env.length := (List.getElem?_eq_some_iff.mp hx).1
      have k3 := Ok.put (i := i) (f1 := [a]) k2 (by rw [List.getElem?_set_self hil]) hv (.own (.lf hn))
      rwa [List.set_set] at k3
/-- .. of a field -/
theorem Ok.updF {i c : Nat} {f : Str} {l l' : Lf} {a b dx : Addr} {o : HO} {vs : List (Str × V)} {gs : List (Str × FV)} (k : Ok K κ I F H σ env nfp) (hx : env[i]? = some (some (.own (.ins c gs)))) (hv : σ[i]? = some (some (.ref b))) (ho : H b = some (.ins (κ c) dx vs)) (hl : gs.lookup f = some (.own l)) (hf : vs.lookup f = some (.ref a))
    (hn : OwL K κ I (upd H a o) (.ref a) l' [a]) : Ok K κ I F (upd H a o) σ (env.set i (some (.own (.ins c (setF f (.own l') gs))))) nfp := by
  obtain ⟨v, f1, h1, h2, k1⟩ := k.get hx
  rw [hv] at h1
  cases h1
  cases h2 with
  | own h2 =>
    cases h2 with
    | ins ho' of =>
      rename_i fpo
      rw [ho] at ho'
      cases ho'
      obtain ⟨f0, fp', g1, g2, g3⟩ := OwFs.setF (f := f) (x := .hole) of hf .hole
      have g4 := g3 _ hl
      cases g4 with
      | own g4 =>
        obtain ⟨a', e1, rfl⟩ := Ok.one g4
        cases e1
        rw [List.nil_append] at g2
        -- the field's own place ahead
        have pm : (b :: fpo ++ nfp).Perm (a :: (b :: fp' ++ nfp)) := by
          refine ((g2.cons b).append_right nfp).trans ?_
          exact List.Perm.swap a b _
        have k2 := Ok.write (o := o) (k1.perm pm)
        obtain ⟨fpe, re, rr⟩ := k2.ex
        have nd := rr.nd
        have nab : b ≠ a := fun z => by
          subst z
          simp at nd
        have nafp : ∀ x ∈ fp', x ≠ a := fun x m z => by
          subst z
          simp only [List.cons_append, List.nodup_cons, List.mem_cons, List.mem_append, not_or] at nd
          exact nd.1.2.1.1 m
        have hil : i < env.length := (List.getElem?_eq_some_iff.mp hx).1
        have ho2 : (upd H a o) b = some (.ins (κ c) dx vs) := by rw [upd_ne nab]; exact ho
        have of2 : OwFs K κ I (upd H a o) vs (setF f .hole gs) fp' := g1.mono (Same.refl I) fun x m => upd_ne (nafp x m)
        obtain ⟨f0', fp2, q1, q2, q3⟩ := OwFs.setF (f := f) (x := .own l') of2 hf (.own hn)
        have lk : (setF f .hole gs).lookup f = some .hole := by
          clear g1 g2 g3 of of2 q1 q2 q3 hx k k1
          induction gs with
          | nil => simp at hl
          | cons p r ih =>
            obtain ⟨g, y⟩ := p
            unfold setF
            split
            · rename_i e; subst e; simp
            · rename_i e
              have zb : (f == g) = false := by simpa using e
              rw [List.lookup_cons, zb] at hl ⊢
              exact ih hl
        have q4 := q3 _ lk
        cases q4
        rw [List.nil_append] at q2
        have ss : setF f (.own l') (setF f .hole gs) = setF f (.own l') gs := by
          clear g1 g2 g3 of of2 q1 q2 q3 hx k k1 hl lk
          induction gs with
          | nil => rfl
          | cons p r ih =>
            obtain ⟨g, y⟩ := p
            by_cases e : f = g
            · simp [setF, e]
            · simp [setF, e, ih]
        rw [ss] at q1
        have pm2 : (a :: (b :: fp' ++ nfp)).Perm ((b :: fp2) ++ nfp) := by
          refine (List.Perm.swap b a _).trans ?_
          rw [List.cons_append]
          exact List.Perm.cons _ (q2.append_right nfp)
        have k3 := Ok.put (i := i) (f1 := b :: fp2) (k2.perm pm2) (by rw [List.getElem?_set_self hil]) hv (.own (.ins ho2 q1))
        rwa [List.set_set] at k3
end
section
variable {X : Cx} {κ : Nat → Addr} {W : WX} {P : List Nat} {e a b : PySem.Expr} {pos : Pos}
theorem isLst_some {env : Slots} {i : Nat} (h : isLst env i = true) : ∃ ds, env[i]? = some (some (.own (.lf (.lst ds)))) := by
  unfold isLst at h
  split at h
  · rename_i ds q; exact ⟨ds, q⟩
  · cases h
theorem d_app {i : Nat} {x : Str} {f : EM D} {p1 apos cpos : Pos} (he : PE X e (teD X.K κ W f)) (hN : X.N[i]? = some x := by rfl) (hv : Vis X.env.scope x := by first | exact Or.inl rfl | exact Or.inr (Or.inl rfl) | exact Or.inr (Or.inr rfl)) (hd : (x == ("__debug__" : Str)) = false := by decide) (hcd : (x == ("__classdict__" : Str)) = false := by decide)
    (hbase : attributeBase (.Name x p1) "append" X.env (eval (.Name x p1) X.env) = eval (.Name x p1) X.env := by rfl)
    (hfew : ((backTo cpos (starEach [e] X.env)).all (fun x => !x.1) && (backToKw cpos (keywordEach [] X.env)).all (fun x => x.1.isSome)
      && decide (([e] : List PySem.Expr).length + ([] : List Keyword).length + (if ([] : List Keyword).isEmpty then 0 else 1) < 30)) = true := by rfl)
    (hline : (apos.endLine == cpos.line) = true := by rfl) (hst : starEach [e] X.env = (false, eval e X.env) :: starEach [] X.env := by rfl) (hplain : (backTo cpos (starEach [] X.env)).any (·.1) = false := by rfl)
    (hs : swapsWith (.Call (.Attribute (.Name x p1) "append" apos) [e] [] cpos) none pos.line X.env = pure false := by rfl) :
    PS X (.Expr (.Call (.Attribute (.Name x p1) "append" apos) [e] [] cpos) pos) (tsD X.K κ W P (sApp i f)) := by
  refine ps_imp (ps_expr (pe_bm PySem.F.plainAttrs_list PySem.F.slot_list_append PySem.F.type_list_append mt_append (pe_var hN hv hd hcd) (pa_cons he pa_nil hst) hbase hfew hline hst hplain) hs) fun Dn σ H h => ?_
  obtain ⟨I, F, env, k, p⟩ := h
  unfold sApp at p
  split at p
  · rename_i hL
    obtain ⟨ds0, h0⟩ := isLst_some hL
    obtain ⟨v, f1, h1, h2⟩ := k.at_ h0
    cases h2 with
    | own h2 =>
    cases h2 with
    | lf h2 =>
    cases h2 with
    | lst hH ra =>
    rename_i a0 vs0
    refine ⟨_, h1, .inl ⟨rfl, _, SqL.of hH⟩, I, F, env, k, Post.mono (p.ex (R := RD X.K κ)) ?_⟩
    rintro y H1 ⟨I1, env1, d, nfp, s1, k1, ⟨r1, rfl⟩, p1⟩
    split at p1
    · rename_i ds q
      split at p1
      · rename_i hz
        obtain ⟨v', f1', h1', h2'⟩ := k1.at_ q
        rw [h1] at h1'
        cases h1'
        cases h2' with
        | own h2' =>
        cases h2' with
        | lf h2' =>
        cases h2' with
        | lst hH' ra' =>
        refine ⟨_, _, _, rfl, rfl, hH', by rw [ra'.length]; exact hz, ?_⟩
        exact p1.nx (k1.updV q h1 (.lst upd_same (ra'.append (.cons r1 .nil)))) (Step.refl F I1) (Pin.refl P σ)
      · exact p1.elim
    · exact p1.elim
  · exact p.elim
theorem d_ext {i : Nat} {x : Str} {f : EM D} {p1 apos cpos : Pos} (he : PE X e (teD X.K κ W f)) (hN : X.N[i]? = some x := by rfl) (hv : Vis X.env.scope x := by first | exact Or.inl rfl | exact Or.inr (Or.inl rfl) | exact Or.inr (Or.inr rfl)) (hd : (x == ("__debug__" : Str)) = false := by decide) (hcd : (x == ("__classdict__" : Str)) = false := by decide)
    (hbase : attributeBase (.Name x p1) "extend" X.env (eval (.Name x p1) X.env) = eval (.Name x p1) X.env := by rfl)
    (hfew : ((backTo cpos (starEach [e] X.env)).all (fun x => !x.1) && (backToKw cpos (keywordEach [] X.env)).all (fun x => x.1.isSome)
      && decide (([e] : List PySem.Expr).length + ([] : List Keyword).length + (if ([] : List Keyword).isEmpty then 0 else 1) < 30)) = true := by rfl)
    (hline : (apos.endLine == cpos.line) = true := by rfl) (hst : starEach [e] X.env = (false, eval e X.env) :: starEach [] X.env := by rfl) (hplain : (backTo cpos (starEach [] X.env)).any (·.1) = false := by rfl)
    (hs : swapsWith (.Call (.Attribute (.Name x p1) "extend" apos) [e] [] cpos) none pos.line X.env = pure false := by rfl) :
    PS X (.Expr (.Call (.Attribute (.Name x p1) "extend" apos) [e] [] cpos) pos) (tsD X.K κ W P (sExt i f)) := by
  refine ps_imp (ps_expr (pe_bm PySem.F.plainAttrs_list PySem.F.slot_list_extend PySem.F.type_list_extend mt_extend (pe_var hN hv hd hcd) (pa_cons he pa_nil hst) hbase hfew hline hst hplain) hs) fun Dn σ H h => ?_
  obtain ⟨I, F, env, k, p⟩ := h
  unfold sExt at p
  split at p
  · rename_i hL
    obtain ⟨ds0, h0⟩ := isLst_some hL
    obtain ⟨v, f1, h1, h2⟩ := k.at_ h0
    cases h2 with
    | own h2 =>
    cases h2 with
    | lf h2 =>
    cases h2 with
    | lst hH ra =>
    rename_i a0 vs0
    refine ⟨_, h1, .inl ⟨rfl, _, SqL.of hH⟩, I, F, env, k, Post.mono (p.ex (R := RD X.K κ)) ?_⟩
    rintro y H1 ⟨I1, env1, d, nfp, s1, k1, ⟨r1, rfl⟩, p1⟩
    split at p1
    · rename_i ds es q
      split at p1
      · rename_i hz
        obtain ⟨v', f1', h1', h2'⟩ := k1.at_ q
        rw [h1] at h1'
        cases h1'
        cases h2' with
        | own h2' =>
        cases h2' with
        | lf h2' =>
        cases h2' with
        | lst hH' ra' =>
        cases r1 with
        | lst hI rb =>
        refine ⟨_, _, _, _, rfl, rfl, hH', k1.ext _ _ hI, by rw [ra'.length, rb.length]; exact hz, ?_⟩
        exact p1.nx (k1.updV q h1 (.lst upd_same (ra'.append rb))) (Step.refl F I1) (Pin.refl P σ)
      · exact p1.elim
    · exact p1.elim
  · exact p.elim
/-- x[g] = f, an own list -/
theorem d_setL {i : Nat} {x : Str} {f g : EM D} {p1 spos : Pos} (he : PE X e (teD X.K κ W f)) (hg : PE X b (teD X.K κ W g)) (hN : X.N[i]? = some x := by rfl) (hv : Vis X.env.scope x := by first | exact Or.inl rfl | exact Or.inr (Or.inl rfl) | exact Or.inr (Or.inr rfl)) (hd : (x == ("__debug__" : Str)) = false := by decide) (hcd : (x == ("__classdict__" : Str)) = false := by decide)
    (ha : ∀ v, assign (.Subscript (.Name x p1) b spos) X.env v = (do
      let r ← holding [v] (eval (.Name x p1) X.env)
      let j ← holding [v, r] (eval b X.env)
      standAt spos
      holding [v, r, j] (setItem r j v)
      release [v, r, j] []) := by intro _; rfl)
    (hs : swapsWithSole [.Subscript (.Name x p1) b spos] e pos.line X.env = pure false := by rfl) (hw : swappedStores [.Subscript (.Name x p1) b spos] e X.env = pure none := by rfl)
    (h1 : (assignEach [.Subscript (.Name x p1) b spos] X.env).map (·.2) = [assign (.Subscript (.Name x p1) b spos) X.env] := by rfl) :
    PS X (.Assign [.Subscript (.Name x p1) b spos] e pos) (tsD X.K κ W P (sSetL i g f)) := by
  refine ps_imp (ps_asg he (pg_sub (pe_var hN hv hd hcd) hg set_list ha) hs hw h1) fun Dn σ H h => ?_
  obtain ⟨I, F, env, k, p⟩ := h
  refine ⟨I, F, env, k, Post.mono (p.ex (R := RD X.K κ)) ?_⟩
  rintro y H1 ⟨I1, env1, d, nfp, s1, k1, ⟨r1, rfl⟩, p1⟩
  split at p1
  · rename_i ds ix q1 q2
    obtain ⟨v, f1, h1, h2⟩ := k1.at_ q1
    split at p1
    · rename_i j hj
      refine ⟨v, h1, teQ (te := teD X.K κ W g) (fun _ _ _ h => h) k1 q2 fun fp H' y' e1 e1' r k2 kp ry => ?_⟩
      obtain ⟨v', f1', h1', h2'⟩ := k2.at_ q1
      rw [h1] at h1'
      cases h1'
      cases h2' with
      | own h2' =>
      cases h2' with
      | lf h2' =>
      cases h2' with
      | lst hH' ra' =>
      cases ry
      refine ⟨_, _, _, j, rfl, rfl, hH', by rw [ra'.length]; exact hj, ?_⟩
      exact p1.nx (k2.updV q1 h1 (.lst upd_same (ra'.set j r1))) (Step.refl F I1) (Pin.refl P σ)
    · exact p1.elim
  · exact p1.elim
/-- x[g] = f, an own dict -/
theorem d_setD {i : Nat} {x : Str} {f g : EM D} {p1 spos : Pos} (hu : X.A.units + 1 < cLine) (he : PE X e (teD X.K κ W f)) (hg : PE X b (teD X.K κ W g)) (hN : X.N[i]? = some x := by rfl) (hv : Vis X.env.scope x := by first | exact Or.inl rfl | exact Or.inr (Or.inl rfl) | exact Or.inr (Or.inr rfl)) (hd : (x == ("__debug__" : Str)) = false := by decide) (hcd : (x == ("__classdict__" : Str)) = false := by decide)
    (hs : swapsWith e (some (.Subscript (.Name x p1) b spos)) pos.line X.env = pure false := by rfl) :
    PS X (.Assign [.Subscript (.Name x p1) b spos] e pos) (tsD X.K κ W P (sSetD i g f)) := by
  refine ps_imp (ps_dput hu (pe_var hN hv hd hcd) hg he hs) fun Dn σ H h => ?_
  obtain ⟨I, F, env, k, p⟩ := h
  refine ⟨I, F, env, k, Post.mono (p.ex (R := RD X.K κ)) ?_⟩
  rintro y H1 ⟨I1, env1, d, nfp, s1, k1, ⟨r1, rfl⟩, p1⟩
  split at p1
  · rename_i ds ky q1 q2
    obtain ⟨v, f1, h1, h2⟩ := k1.at_ q1
    cases hq : qD g env1 with
    | none => rw [hq] at q2; cases q2
    | some dk =>
      rw [hq] at q2
      split at p1
      · rename_i hz
        refine ⟨v, h1, teQ (te := teD X.K κ W g) (fun _ _ _ h => h) k1 hq fun fp H' y' e1 e1' r k2 kp ry => ?_⟩
        have hky := keyOf_kV ry (by simpa using q2)
        subst hky
        obtain ⟨v', f1', h1', h2'⟩ := k2.at_ q1
        rw [h1] at h1'
        cases h1'
        cases h2' with
        | own h2' =>
        cases h2' with
        | lf h2' =>
        cases h2' with
        | dct hH' ra' =>
        refine ⟨_, _, rfl, DPut.k hH' (by rw [ra'.length]; exact hz), ?_⟩
        exact p1.nx (k2.updV q1 h1 (.dct upd_same (ra'.put r1))) (Step.refl F I1) (Pin.refl P σ)
      · exact p1.elim
  · exact p1.elim
end
end DL

/-! DL14: fields written, membership, operators in place -/
namespace DL
open PySem L2
section
variable {K : PySem.W.Frag} {κ : Nat → Addr} {I I' F H H' : Hp} {σ : L2.St} {env : Slots} {nfp : List Addr}
theorem OwFs.putFV {f : Str} {y : V} {x : FV} {f1 : List Addr} : ∀ {vs : List (Str × V)} {gs : List (Str × FV)} {fp : List Addr}, OwFs K κ I H vs gs fp → OwF K κ I H y x f1 →
    ∃ f0 fp', OwFs K κ I H (putF f y vs) (DL.putFV f x gs) fp' ∧ (f1 ++ fp).Perm (f0 ++ fp')
  | _, _, _, .nil, ho => ⟨[], f1 ++ [], .cons ho .nil, by simp⟩
  | (g, w) :: vs, (_, z) :: gs, _, .cons (fp := g1) (fq := g2) h r, ho => by
    by_cases e : g = f
    · refine ⟨g1, f1 ++ g2, ?_, List.perm_append_comm_assoc f1 g1 g2⟩
      simp only [putF, DL.putFV, e, if_true]
      exact .cons ho r
    · obtain ⟨f0, fp', h1, h2⟩ := r.putFV (f := f) ho
      refine ⟨f0, g1 ++ fp', ?_, ?_⟩
      · simp only [putF, DL.putFV, if_neg e]
        exact .cons h h1
      · exact (List.perm_append_comm_assoc f1 g1 g2).trans ((h2.append_left g1).trans (List.perm_append_comm_assoc g1 f0 fp'))
/-- an instance's field is laid -/
theorem Ok.layF {i c : Nat} {f : Str} {b dx : Addr} {x : FV} {y : V} {vs : List (Str × V)} {gs : List (Str × FV)} (k : Ok K κ I F H σ env nfp) (hx : env[i]? = some (some (.own (.ins c gs)))) (hv : σ[i]? = some (some (.ref b))) (ho : H b = some (.ins (κ c) dx vs))
    (hy : ∀ H', (∀ a ∈ nfp, H' a = H a) → OwF K κ I H' y x nfp) : Ok K κ I F (upd H b (.ins (κ c) dx (putF f y vs))) σ (env.set i (some (.own (.ins c (putFV f x gs))))) [] := by
  obtain ⟨v, f1, h1, h2, k1⟩ := k.get hx
  rw [hv] at h1
  cases h1
  cases h2 with
  | own h2 =>
    cases h2 with
    | ins ho' of =>
      rename_i fpo
      rw [ho] at ho'
      cases ho'
      have k2 := Ok.write (o := .ins (κ c) dx (putF f y vs)) k1
      obtain ⟨fpe, re, rr⟩ := k2.ex
      have nd := rr.nd
      have nb : ∀ a ∈ fpo ++ nfp, a ≠ b := fun a m z => by
        subst z
        have nd2 : (a :: ((fpo ++ nfp) ++ fpe)).Nodup := nd
        rw [List.nodup_cons] at nd2
        exact nd2.1 (List.mem_append_left _ m)
      have of2 : OwFs K κ I (upd H b (.ins (κ c) dx (putF f y vs))) vs gs fpo := of.mono (Same.refl I) fun a m => upd_ne (nb a (List.mem_append_left _ m))
      have hy2 := hy (upd H b (.ins (κ c) dx (putF f y vs))) fun a m => upd_ne (nb a (List.mem_append_right _ m))
      obtain ⟨f0, fp', q1, q2⟩ := OwFs.putFV (f := f) of2 hy2
      have hil : i < env.length := (List.getElem?_eq_some_iff.mp hx).1
      have pm : (b :: fpo ++ nfp).Perm (f0 ++ ((b :: fp') ++ [])) := by
        rw [List.append_nil, List.cons_append]
        refine (List.Perm.cons b (List.perm_append_comm.trans q2)).trans ?_
        exact (List.perm_middle (a := b)).symm
      have k3 := Ok.drop (k2.perm pm)
      have k4 := Ok.put (i := i) (f1 := b :: fp') (nfp := []) k3 (by rw [List.getElem?_set_self hil]) hv (.own (.ins upd_same q1))
      rwa [List.set_set] at k4
theorem toFV_some {sv : SV} {x : FV} (h : toFV sv = some x) {v : V} {fp : List Addr} (o : OwS K κ I H v sv fp) : OwF K κ I H v x fp := by
  cases o with
  | dat r => simp only [toFV, Option.some.injEq] at h; subst h; exact .dat r
  | own r =>
    cases r with
    | lf r => simp only [toFV, Option.some.injEq] at h; subst h; exact .own r
    | ins _ _ => simp [toFV] at h
    | rcd _ _ => simp [toFV] at h
end
section
variable {X : Cx} {κ : Nat → Addr} {W : WX} {P : List Nat} {e a b : PySem.Expr} {pos : Pos}
/-- self.f = e -/
theorem d_fld {c i : Nat} {f x : Str} {g : EM SV} {p1 pos' : Pos} (hc : Cls X.K (κ c)) (hn : NoAttr X.K (κ c) f) (he : PE X e (teS X.K κ W g)) (hN : X.N[i]? = some x := by rfl) (hv : Vis X.env.scope x := by first | exact Or.inl rfl | exact Or.inr (Or.inl rfl) | exact Or.inr (Or.inr rfl)) (hd : (x == ("__debug__" : Str)) = false := by decide) (hcd : (x == ("__classdict__" : Str)) = false := by decide)
    (hs : swapsWith e (some (.Attribute (.Name x p1) f pos')) pos.line X.env = pure false := by rfl) : PS X (.Assign [.Attribute (.Name x p1) f pos'] e pos) (tsD X.K κ W P (sFldS c i f g)) := by
  refine ps_imp (ps_fld (pe_var hN hv hd hcd) he hs) fun Dn σ H h => ?_
  obtain ⟨I, F, env, k, p⟩ := h
  refine ⟨I, F, env, k, Post.mono (p.ex (R := RS X.K κ)) ?_⟩
  rintro y H1 ⟨I1, env1, sv, nfp, s1, k1, r1, p1⟩
  split at p1
  · rename_i c' gs xv q1 q2
    split at p1
    · rename_i hc'
      obtain ⟨rfl, hl⟩ := hc'
      obtain ⟨v, f1, h1, h2⟩ := k1.at_ q1
      cases h2 with
      | own h2 =>
      cases h2 with
      | ins ho of =>
      refine ⟨_, h1, _, _, _, _, rfl, ho, hc, hn, ?_, ?_⟩
      · have : ∀ {vs : List (Str × V)} {gs : List (Str × FV)} {fp : List Addr}, OwFs X.K κ I1 H1 vs gs fp → vs.length = gs.length := by
          intro vs
          induction vs with
          | nil => intro gs fp r; cases r; rfl
          | cons p vs ih => intro gs fp r; cases r with
            | cons h r => simp [ih r]
        rw [this of]; exact hl
      · have ro := toFV_some q2 r1
        exact p1.nx (k1.layF q1 h1 ho fun H' kp => ro.mono (Same.refl I1) kp) (Step.refl F I1) (Pin.refl P σ)
    · exact p1.elim
  · exact p1.elim
theorem InD {op : PySem.Operator} {r : R2} (h : OpR X (inplaceOp op) r) : InOp X op r := fun pins s σ H x y u v Q I rx ry h' => h pins s σ H x y u v Q I rx ry h'
/-- self.f op= e, data -/
theorem d_fldA {c i : Nat} {f x : Str} {op : PySem.Operator} {o : D → D → Option D} {g : EM D} {p1 tpos : Pos} (hc : Cls X.K (κ c)) (hn : NoAttr X.K (κ c) f) (ho : OpD X κ (inplaceOp op) o) (he : PE X e (teD X.K κ W g)) (hN : X.N[i]? = some x := by rfl) (hv : Vis X.env.scope x := by first | exact Or.inl rfl | exact Or.inr (Or.inl rfl) | exact Or.inr (Or.inr rfl)) (hd : (x == ("__debug__" : Str)) = false := by decide) (hcd : (x == ("__classdict__" : Str)) = false := by decide) :
    PS X (.AugAssign (.Attribute (.Name x p1) f tpos) op e pos) (tsD X.K κ W P (sFldA c i f o g)) := by
  obtain ⟨r, ho1, ho2⟩ := ho
  refine ps_imp (ps_fldaug (pe_var hN hv hd hcd) he (InD ho1)) fun Dn σ H h => ?_
  obtain ⟨I, F, env, k, p⟩ := h
  unfold sFldA at p
  split at p
  · rename_i c' gs q1
    split at p
    · rename_i d0 hl0
      split at p
      · rename_i hc'
        subst hc'
        obtain ⟨v, f1, h1, h2⟩ := k.at_ q1
        cases h2 with
        | own h2 =>
        cases h2 with
        | ins hh of =>
        rename_i a0 dx0 vs0 _
        obtain ⟨v0, g1, l0, o0, _⟩ := of.lookup hl0
        cases o0 with
        | dat r0 =>
        refine ⟨_, h1, _, _, _, _, _, rfl, hh, hc, hn, l0, I, F, env, k, Post.mono (p.ex (R := RD X.K κ)) ?_⟩
        rintro y H1 ⟨I1, env1, d, nfp, s1, k1, ⟨r1, rfl⟩, p1⟩
        obtain ⟨z, ez, p2⟩ := p1.lift
        refine ho2 σ I1 F H1 env1 v0 y d0 d z _ k1 (r0.mono s1.ext) r1 ez fun I' H' w s o rw' => ?_
        split at p2
        · rename_i c2 gs2 q2
          split at p2
          · rename_i hc2
            obtain ⟨rfl, hl⟩ := hc2
            obtain ⟨v', f1', h1', h2'⟩ := o.at_ q2
            rw [h1] at h1'
            cases h1'
            cases h2' with
            | own h2' =>
            cases h2' with
            | ins hh' of' =>
            refine ⟨_, _, hh', ?_, ?_⟩
            · have : ∀ {vs : List (Str × V)} {gs : List (Str × FV)} {fp : List Addr}, OwFs X.K κ I' H' vs gs fp → vs.length = gs.length := by
                intro vs
                induction vs with
                | nil => intro gs fp r; cases r; rfl
                | cons p vs ih => intro gs fp r; cases r with
                  | cons h r => simp [ih r]
              rw [this of']; exact hl
            · exact p2.nx (o.layF q2 h1 hh' fun H' kp => .dat rw') s (Pin.refl P σ)
          · exact p2.elim
        · exact p2.elim
      · exact p.elim
    · exact p.elim
  · exact p.elim
/-- self.f.append(e) -/
theorem d_appF {c i : Nat} {f x : Str} {g : EM D} {p1 p2 apos cpos : Pos} (hc : Cls X.K (κ c)) (hn : NoAttr X.K (κ c) f) (he : PE X e (teD X.K κ W g)) (hN : X.N[i]? = some x := by rfl) (hv : Vis X.env.scope x := by first | exact Or.inl rfl | exact Or.inr (Or.inl rfl) | exact Or.inr (Or.inr rfl)) (hd : (x == ("__debug__" : Str)) = false := by decide) (hcd : (x == ("__classdict__" : Str)) = false := by decide)
    (hb : attributeBase (.Name x p1) f X.env (eval (.Name x p1) X.env) = eval (.Name x p1) X.env := by rfl)
    (hbase : attributeBase (.Attribute (.Name x p1) f p2) "append" X.env (eval (.Attribute (.Name x p1) f p2) X.env) = eval (.Attribute (.Name x p1) f p2) X.env := by rfl)
    (hfew : ((backTo cpos (starEach [e] X.env)).all (fun x => !x.1) && (backToKw cpos (keywordEach [] X.env)).all (fun x => x.1.isSome)
      && decide (([e] : List PySem.Expr).length + ([] : List Keyword).length + (if ([] : List Keyword).isEmpty then 0 else 1) < 30)) = true := by rfl)
    (hline : (apos.endLine == cpos.line) = true := by rfl) (hst : starEach [e] X.env = (false, eval e X.env) :: starEach [] X.env := by rfl) (hplain : (backTo cpos (starEach [] X.env)).any (·.1) = false := by rfl)
    (hs : swapsWith (.Call (.Attribute (.Attribute (.Name x p1) f p2) "append" apos) [e] [] cpos) none pos.line X.env = pure false := by rfl) :
    PS X (.Expr (.Call (.Attribute (.Attribute (.Name x p1) f p2) "append" apos) [e] [] cpos) pos) (tsD X.K κ W P (sAppF c i f g)) := by
  refine ps_imp (ps_expr (pe_bm PySem.F.plainAttrs_list PySem.F.slot_list_append PySem.F.type_list_append mt_append (pe_fld (pe_var hN hv hd hcd) hb) (pa_cons he pa_nil hst) hbase hfew hline hst hplain) hs) fun Dn σ H h => ?_
  obtain ⟨I, F, env, k, p⟩ := h
  unfold sAppF at p
  split at p
  · rename_i c' gs q1
    split at p
    · rename_i ds hl0
      split at p
      · rename_i hc'
        obtain ⟨rfl, hz⟩ := hc'
        obtain ⟨v, f1, h1, h2, k1⟩ := k.get q1
        have h2k := h2
        cases h2 with
        | own h2 =>
        cases h2 with
        | ins hh of =>
        rename_i a0 dx0 vs0 fpo
        obtain ⟨v0, g1, l0, o0, og⟩ := of.lookup hl0
        cases o0 with
        | own o0 =>
        cases o0 with
        | lst hL rL =>
        refine ⟨_, h1, _, _, _, _, _, rfl, hh, hc, hn, l0, .inl ⟨rfl, _, SqL.of hL⟩, I, _, _, Ok.frame k1, ?_⟩
        revert p
        cases hg : g (env.set i none) with
        | ok d env1 =>
          intro p I1 H1 y nfp s1 k2 hR
          obtain ⟨r1, rfl⟩ := hR
          obtain ⟨k3, kp, s2⟩ := Ok.unframe k1 k2 s1
          simp only [] at p
          split at p
          · rename_i hno
            have h2' := h2k.mono s2.ext kp
            have k4 := Ok.put (i := i) (nfp := []) (by simpa using k3) hno h1 h2'
            have hil : i < env1.length := (List.getElem?_eq_some_iff.mp hno).1
            have hL' : H1 _ = some (.lst _) := (kp _ (List.mem_cons_of_mem _ (og _ (by simp)))).trans hL
            have hh' : H1 a0 = some (.ins (κ c') dx0 vs0) := (kp _ (by simp)).trans hh
            refine ⟨_, _, _, rfl, rfl, hL', by rw [rL.length]; exact hz, ?_⟩
            have k5 := Ok.updF (f := f) (l := .lst ds) (l' := .lst (ds ++ [d])) k4 (by rw [List.getElem?_set_self hil]) h1 hh' hl0 l0 (.lst upd_same ((rL.mono s2.ext).append (.cons r1 .nil)))
            rw [List.set_set] at k5
            exact p.nx k5 s2 (Pin.refl P σ)
          · exact p.elim
        | exc e env1 => exact fun p => p.elim
        | stuck => exact fun p => p.elim
      · exact p.elim
    · exact p.elim
  · exact p.elim
end
end DL

/-! DL15: membership, operators in place -/
namespace DL
open PySem L2
/-- x in y: a list of shaped data; a tuple of texts or of numbers; a text -/
def flatD : D → Bool
  | .non => true | .bl _ => true | .int _ => true | .str _ => true | _ => false
def opInS (x y : D) : Option D := match y with
  | .lst ds => if eqOk x (.lst ds) then some (.bl (ds.any fun z => PyData.eqv z.py x.py)) else none
  | .tup ds => if flatD x && ds.all flatD then some (.bl (ds.any fun z => PyData.eqv z.py x.py)) else none
  | .str t => match x with
    | .str s => match s.cps.toList with
      | [c] => some (.bl (decide (c ∈ t.cps.toList)))
      | _ => none
    | _ => none
  | _ => none
theorem str_one {s : Str} {c : Nat} (h : s.cps.toList = [c]) : s = ⟨#[c]⟩ := by
  obtain ⟨a⟩ := s
  obtain ⟨l⟩ := a
  simp only at h
  subst h
  rfl
def opNotInS (x y : D) : Option D := (opInS x y).bind dNot
def opInK (x y : D) : Option D := match y with
  | .dct kvs => (keyOf x).map fun k => .bl (getK kvs k).isSome
  | _ => none
def opNotInK (x y : D) : Option D := (opInK x y).bind dNot
section
variable {X : Cx} {κ : Nat → Addr}
theorem pys_map : ∀ ds : List D, D.pys ds = ds.map D.py
  | [] => rfl
  | d :: r => by simp only [D.pys, List.map_cons, pys_map r]
theorem flat_V {K : PySem.W.Frag} {I : Hp} {v : V} {d : D} (r : Rp K κ I v d) (h : flatD d = true) : flatV v = true := by
  cases r <;> first | rfl | cases h
theorem flat_all {K : PySem.W.Frag} {I : Hp} : ∀ {vs : List V} {ds : List D}, RpA K κ I vs ds → ds.all flatD = true → vs.all flatV = true
  | _, _, .nil, _ => rfl
  | _, _, .cons h r, q => by
    simp only [List.all_cons, Bool.and_eq_true] at q ⊢
    exact ⟨flat_V h q.1, flat_all r q.2⟩
theorem eqV_py {K : PySem.W.Frag} {I : Hp} {v w : V} {d e : D} (r : Rp K κ I v d) (s : Rp K κ I w e) (h : flatD d = true) (h' : flatD e = true) : eqV v w = PyData.eqv d.py e.py := by
  cases r <;> simp only [flatD, Bool.false_eq_true] at h <;> cases s <;> simp only [flatD, Bool.false_eq_true] at h' <;> simp [eqV, PyData.eqv, D.py]
theorem inV_py {K : PySem.W.Frag} {I : Hp} {w : V} {e : D} (s : Rp K κ I w e) (h' : flatD e = true) : ∀ {vs : List V} {ds : List D}, RpA K κ I vs ds → ds.all flatD = true → inV w vs = ds.any fun z => PyData.eqv z.py e.py
  | _, _, .nil, _ => rfl
  | _, _, .cons h r, q => by
    simp only [List.all_cons, Bool.and_eq_true] at q
    have := inV_py s h' r q.2
    unfold inV at this ⊢
    simp only [List.any_cons, this, eqV_py h s q.1 h']
theorem od_inS (hu : X.A.units + 65 < cLine) : OpD X κ (compareOp .In) opInS := by
  refine ⟨_, OpR.or (op_inD hu) (OpR.or op_in_seq op_in_sign), fun σ I F H env x y dx dy d Q k rx ry e q => ?_⟩
  cases ry <;> simp only [opInS] at e <;> first | (cases e; done) | skip
  · rename_i t
    cases rx <;> simp only [] at e <;> first | (cases e; done) | skip
    split at e
    · rename_i hc
      cases e
      exact .inr (.inr ⟨_, _, by rw [str_one hc], rfl, q0 k q (.bl _)⟩)
    · cases e
  · rename_i h r
    split at e
    · rename_i hf
      simp only [Bool.and_eq_true] at hf
      cases e
      refine .inr (.inl ⟨_, _, rfl, .inr (SqT.of (k.ext _ _ h)), flat_V rx hf.1, flat_all r hf.2, ?_⟩)
      simp only [Bool.false_eq_true, if_false]
      rw [inV_py rx hf.1 r hf.2]
      exact q0 k q (.bl _)
    · cases e
  · rename_i h r
    split at e
    · rename_i hq
      cases e
      have hq' := hq
      unfold eqOk at hq
      simp only [Bool.and_eq_true] at hq
      have l := Rp.dp k.ext (.lst h r) hq.1.1.2
      refine .inl ⟨dx.py, _, Rp.dp k.ext rx hq.1.1.1, by simpa only [D.py] using l, hq.1.2, by simpa only [D.py] using hq.2, ?_⟩
      rw [pys_map, List.any_map]
      exact q0 k q (.bl _)
    · cases e
theorem od_notInS (hu : X.A.units + 65 < cLine) : OpD X κ (compareOp .NotIn) opNotInS := by
  refine ⟨_, OpR.or (op_notInD hu) (OpR.or op_notIn_seq op_notIn_sign), fun σ I F H env x y dx dy d Q k rx ry e q => ?_⟩
  unfold opNotInS at e
  cases ry <;> simp only [opInS] at e <;> first | (cases e; done) | skip
  · rename_i t
    cases rx <;> simp only [] at e <;> first | (cases e; done) | skip
    split at e
    · rename_i hc
      cases e
      exact .inr (.inr ⟨_, _, by rw [str_one hc], rfl, q0 k q (.bl _)⟩)
    · cases e
  · rename_i h r
    split at e
    · rename_i hf
      simp only [Bool.and_eq_true] at hf
      cases e
      refine .inr (.inl ⟨_, _, rfl, .inr (SqT.of (k.ext _ _ h)), flat_V rx hf.1, flat_all r hf.2, ?_⟩)
      simp only [if_true]
      rw [inV_py rx hf.1 r hf.2]
      exact q0 k q (.bl _)
    · cases e
  · rename_i h r
    split at e
    · rename_i hq
      cases e
      have hq' := hq
      unfold eqOk at hq
      simp only [Bool.and_eq_true] at hq
      have l := Rp.dp k.ext (.lst h r) hq.1.1.2
      refine .inl ⟨dx.py, _, Rp.dp k.ext rx hq.1.1.1, by simpa only [D.py] using l, hq.1.2, by simpa only [D.py] using hq.2, ?_⟩
      rw [pys_map, List.any_map]
      exact q0 k q (.bl _)
    · cases e
def opIAdd : D → D → Option D
  | .int i, .int j => some (.int (i + j))
  | .str x, .str y => if x.length + y.length ≤ sizeLine then some (.str (x ++ y)) else none
  | _, _ => none
theorem oi_add : OpD X κ (inplaceOp .Add) opIAdd := by
  refine ⟨_, OpR.or iop_add iop_add_str, fun σ I F H env x y dx dy d Q k rx ry e q => ?_⟩
  cases rx <;> cases ry <;> simp only [opIAdd] at e <;> try (cases e)
  · exact .inl ⟨_, _, rfl, rfl, q0 k q (.int _)⟩
  · split at e
    · rename_i h
      cases e
      exact .inr ⟨_, _, rfl, rfl, h, q0 k q (.str _)⟩
    · cases e
theorem oi_sub : OpD X κ (inplaceOp .Sub) opSub := by
  refine ⟨_, iop_sub, fun σ I F H env x y dx dy d Q k rx ry e q => ?_⟩
  cases rx <;> cases ry <;> simp only [opSub] at e <;> cases e
  exact ⟨_, _, rfl, rfl, q0 k q (.int _)⟩
end
section
variable {X : Cx} {κ : Nat → Addr} {W : WX} {a b : PySem.Expr} {pos : Pos}
theorem in_k {f g : EM D} {not : Bool} {o : D → D → Option D} (ho : ∀ x y d, o x y = some d → ∃ kvs k, y = .dct kvs ∧ keyOf x = some k ∧ d = .bl (xor not (getK kvs k).isSome)) : ∀ σ H Q, teD X.K κ W (eBin o f g) σ H Q →
    teD X.K κ W f σ H fun y H1 => teD X.K κ W g σ H1 fun x H2 => ∃ a o, x = .ref a ∧ DGet H2 a y o ∧ Q (.bl (xor not o.isSome)) H2 := by
  intro σ H Q h
  obtain ⟨I, F, env, k, p⟩ := h
  refine ⟨I, F, env, k, Post.mono (p.bind (R := RD X.K κ)) ?_⟩
  rintro x H1 ⟨I1, env1, dx, nfp, s1, k1, ⟨rx, rfl⟩, p1⟩
  refine ⟨I1, F, env1, k1, Post.mono (p1.bind (R := RD X.K κ)) ?_⟩
  rintro y H2 ⟨I2, env2, dy, nfp, s2, k2, ⟨ry, rfl⟩, p2⟩
  obtain ⟨d, e, p3⟩ := p2.lift1
  obtain ⟨kvs, ky, rfl, hk, rfl⟩ := ho _ _ _ e
  cases ry with
  | dct h r =>
    have hx := keyOf_kV (rx.mono s2.ext) hk
    subst hx
    refine ⟨_, _, rfl, .inl ⟨_, ky, .inl (k2.ext _ _ h), rfl, rfl⟩, ?_⟩
    rw [getK_some r]
    exact p3 I2 H2 _ [] (Step.refl F I2) k2 ⟨.bl _, rfl⟩
theorem de_inK {f g : EM D} (hu : X.A.units + 1 < cLine) (ha : PE X a (teD X.K κ W f)) (hb : PE X b (teD X.K κ W g)) (hm : behindInMarks .In b = false := by first | with_unfolding_all rfl | rfl) : PE X (.Compare a [.In] [b] pos) (teD X.K κ W (eBin opInK f g)) := by
  refine pe_imp (pe_cmp (pc_din hu ha hb) hm) fun σ H Q h => ?_
  have := in_k (not := false) (fun x y d e => by
    unfold opInK at e
    split at e
    · cases h : keyOf x with
      | none => rw [h] at e; cases e
      | some k => rw [h] at e; cases e; exact ⟨_, k, rfl, rfl, by simp⟩
    · cases e) σ H Q h
  unfold tDIn
  simpa only [Bool.false_xor] using this
theorem de_notInK {f g : EM D} (hu : X.A.units + 1 < cLine) (ha : PE X a (teD X.K κ W f)) (hb : PE X b (teD X.K κ W g)) (hm : behindInMarks .NotIn b = false := by first | with_unfolding_all rfl | rfl) : PE X (.Compare a [.NotIn] [b] pos) (teD X.K κ W (eBin opNotInK f g)) := by
  refine pe_imp (pe_cmp (pc_dnotin hu ha hb) hm) fun σ H Q h => ?_
  have := in_k (not := true) (fun x y d e => by
    unfold opNotInK opInK at e
    split at e
    · cases h : keyOf x with
      | none => rw [h] at e; cases e
      | some k => rw [h] at e; cases e; exact ⟨_, k, rfl, rfl, by simp⟩
    · cases e) σ H Q h
  unfold tDNotIn
  simpa only [Bool.true_xor] using this
/-- .. as a test -/
theorem dt_de {e : PySem.Expr} {f : EM D} (h : PE X e (teD X.K κ W f)) (he : ∀ whole, isTrue e X.env whole = (do let v ← whole; standAt e.pos; holding [v] (truthy v)) := by intro _; rfl) : PT X e (ttD X.K κ W (bVal f)) := dt_val h he
end
end DL

/-! DL16: sorted(set(numbers)) -/
namespace L2
open PySem PySem.Spec PyProof.Rows
section
variable {P : Program} {w : World} {A : Around} {E : Value → Shared → Prop} {s : Shared}
theorem call_set_lstI {l : Addr} {items : Array Value} (ns : List Int) {Q : Value → Shared → Prop} (hh : A.handled = none) (hl : s.heap.IsList l items) (hit : IntsAre items.toList ns) (hb : ns.length + 1 < scanBound)
    (h : ∀ (h' : Heap) (tk c : Nat), SetR w h' s.heap.objs.size (fun j => decide (j ∈ ns)) c → c ≤ ns.length → (∀ b o, s.heap.get? b = some o → h'.get? b = some o) → Q (.ref s.heap.objs.size) { s with heap := h', toks := tk }) :
    wpAny (model P w) A (call (.type "set") [.ref l]) Q E s := by
  have gSz : items.size = ns.length := by
    have q := IntsAre.length hit
    rw [Array.length_toList] at q
    exact q
  obtain ⟨c, tl, gMr⟩ := F.called_set.mro
  have gMd := F.called_set.made
  have gSb := F.called_set.sub
  refine wpAny_call (codeAny_of_tree ?_)
  show wpAny _ _ (callAny (.type "set") _) _ _ _
  refine wpAny_pure ⟨Code.quiet_builtin _ (by decide +kernel), codeAny_builtin F.entry_type_call ?_⟩
  rw [Around.under_plain (weight_type_call_type "set" [.ref l] []) rfl]
  have h1 := F.called_set.notType
  have h2 := F.called_set.canCreate
  have gCt := F.typeCall_set_1 (.ref l)
  repeat (any_goals (first | assumption | wp_step))

  refine codeAny_mono (code_set_led1 (.ref l) (E := E) (Q₁ := fun obj s₁ => obj = .ref s.heap.objs.size ∧ s₁ = { s with heap := s.heap.push { cls := .type "set", dict := none, data := .set #[] 0 (.fresh 0 0 (!w.params.followText "set-order")) } }) ⟨rfl, rfl⟩) fun r s₁ hr => ?_
  cases r with
  | error e => exact hr
  | ok fl =>
    cases fl with
    | ret obj =>
      obtain ⟨rfl, rfl⟩ := hr
      have gS : (s.heap.push { cls := .type "set", dict := none, data := .set #[] 0 (.fresh 0 0 (!w.params.followText "set-order")) }).get? s.heap.objs.size = some { cls := .type "set", dict := none, data := .set #[] 0 (.fresh 0 0 (!w.params.followText "set-order")) } := Heap.get?_push_size _ rfl
      have gT : Shared.TypeIs { s with heap := s.heap.push { cls := .type "set", dict := none, data := .set #[] 0 (.fresh 0 0 (!w.params.followText "set-order")) } } (.ref s.heap.objs.size) "set" := ⟨_, gS, rfl⟩
      have gLi := F.called_set.init.lookup
      have gBi := F.called_set.init.bind (.ref s.heap.objs.size)
      repeat (any_goals (first | assumption | wp_step))

      refine codeAny_mono (codeAny_call_builtin (R := wants (fun r s₂ => r = .none ∧ ∃ h' tk c, s₂ = { s with heap := h', toks := tk } ∧ SetR w h' s.heap.objs.size (fun j => decide (j ∈ ns)) c ∧ c ≤ ns.length ∧
          (∀ b o, s.heap.get? b = some o → h'.get? b = some o)) E) F.called_set.init.plain F.entry_set_init (check_set_init_1 gT ?_)) fun r₂ s₂ hr₂ => ?_
      · obtain ⟨ol, hol, hcl, nl, hdl⟩ := hl
        obtain ⟨ocls, odict, odata, oslots⟩ := ol
        simp only at hcl hdl
        subst hcl; subst hdl
        have gOl : (s.heap.push { cls := .type "set", dict := none, data := .set #[] 0 (.fresh 0 0 (!w.params.followText "set-order")) }).get? l = some { cls := .type "list", dict := odict, data := .seq items nl, slots := oslots } := Heap.get?_push_of_some _ hol
        have hsls := F.sub_list_set
        have hslf := F.sub_list_frozenset
        have hne : (Value.type "list" == Value.type "dict") = false := by decide
        have gL1 : (s.heap.push { cls := .type "set", dict := none, data := .set #[] 0 (.fresh 0 0 (!w.params.followText "set-order")) }).IsList l items := ⟨_, gOl, rfl, nl, rfl⟩
        unfold Builtin.«set.__init__» noKeywords Builtin.Frozenset.updateFrom
        generalize hPI : pyIter = PI
        wp_walk
        subst hPI

        refine wpAny_pyIter_list gL1 ?_
        refine wpAny_bind (wpAny_runValue ?_)
        have gLS : l < s.heap.objs.size := Heap.lt_size hol
        have gH3 : A.in1.in1.in1.handled = none := by simp [hh]
        have gZ1 : (s.heap.push { cls := .type "set", dict := none, data := .set #[] 0 (.fresh 0 0 (!w.params.followText "set-order")) }).objs.size = s.heap.objs.size + 1 := Heap.size_push ..
        have gNI : l ≠ (s.heap.push { cls := .type "set", dict := none, data := .set #[] 0 (.fresh 0 0 (!w.params.followText "set-order")) }).objs.size := by
          rw [Heap.size_push]; exact Nat.ne_of_lt (Nat.lt_succ_of_lt gLS)
        have gSf : s.heap.objs.size ∉ [(s.heap.push { cls := .type "set", dict := none, data := .set #[] 0 (.fresh 0 0 (!w.params.followText "set-order")) }).objs.size, l] := by
          rw [Heap.size_push]; simp only [List.mem_cons, List.mem_singleton, List.not_mem_nil, or_false, not_or]
          exact ⟨Nat.ne_of_lt (Nat.lt_succ_self _), Nat.ne_of_gt gLS⟩
        have gVal : ∀ (i : Nat) (v : Value), items[i]? = some v → ∃ k t, ns[i]? = some k ∧ v = .int k t := fun i v hv => by
          have hi : i < ns.length := by rw [← gSz]; exact (Array.getElem?_eq_some_iff.mp hv).1
          obtain ⟨t, e⟩ := PyProof.Rows.IntsAre.int_at hit i v (by rw [Array.getElem?_toList]; exact hv)
          refine ⟨ns[i], t, List.getElem?_eq_getElem hi, ?_⟩
          rw [e, List.getD_eq_getElem?_getD, List.getElem?_eq_getElem hi] <;> rfl
        refine set_update_ints ((Walks.list gH3 _ l gNI items).toS) s.heap.objs.size
          gSf ns gSz hb gVal (items.size - 0) 0 _ (by omega) (Nat.zero_le _)
          ⟨⟨_, Heap.get?_push_size _ rfl, rfl, rfl⟩, (gL1.push _)⟩ ?hS0 ?hR
        case hS0 =>
          have gGet : ((s.heap.push { cls := .type "set", dict := none, data := .set #[] 0 (.fresh 0 0 (!w.params.followText "set-order")) }).push { cls := .type "list_iterator", data := .fields #[.ref l, .int 0 0] }).get? s.heap.objs.size
              = some { cls := .type "set", dict := none, data := .set #[] 0 (.fresh 0 0 (!w.params.followText "set-order")) } := Heap.get?_push_of_some _ gS
          exact ⟨0, Nat.le_refl 0, setR_new_at gGet⟩
        case hR =>
          intro s' c' hm hc' hS'
          obtain ⟨h', g2, d', tk', os'⟩ := s'
          have eg : g2 = s.gens := hm.gens
          have ed : d' = s.drawn := hm.drawn
          have eo : os' = s.os := hm.os
          subst eg; subst ed; subst eo
          show wpAny _ _ _ _ _ _
          refine wpAny_pure ?_
          show wpAny _ _ (ret Value.none) _ _ _
          rw [gSz] at hc'
          refine wpAny_pure ⟨rfl, h', tk', c', rfl, hS', hc', fun b o e => ?_⟩
          have hb0 : b < s.heap.objs.size := Heap.lt_size e
          have hb1 : b ≠ s.heap.objs.size := Nat.ne_of_lt hb0
          have hb2 : b ≠ (s.heap.push { cls := .type "set", dict := none, data := .set #[] 0 (.fresh 0 0 (!w.params.followText "set-order")) }).objs.size := by
            rw [Heap.size_push]; exact Nat.ne_of_lt (Nat.lt_succ_of_lt hb0)
          exact hm.heap b o (by simp only [List.mem_cons, List.mem_singleton, List.not_mem_nil, or_false, not_or]; exact ⟨hb1, hb2⟩) (Heap.get?_push_of_some _ (Heap.get?_push_of_some _ e))

      · cases r₂ with
        | error e => exact hr₂
        | ok fl₂ =>
          cases fl₂ with
          | ret r =>
            obtain ⟨rfl, h', tk, c', rfl, hS', hc', hk'⟩ := hr₂
            repeat (any_goals (first | assumption | wp_step))
            exact h _ _ _ hS' hc' hk'
          | _ => exact hr₂.elim
    | _ => exact hr.elim

end
end L2
namespace DL
open PySem L2
section
variable {X : Cx}
theorem cr_setOfI (hc : X.calm = true) : CallR X (.type "set") (fun xs H Q => ∃ (l : Addr) (ns : List Int), xs = [V.ref l] ∧ SqL X.K H l (ns.map V.int) ∧ ns.length < 64 ∧
    ∀ p c, H p = none → c ≤ ns.length → Q (.ref p) (upd H p (SetO X.w p (fun j => decide (j ∈ ns)) c))) := by
  intro pins s σ H xs us Q J r h
  obtain ⟨l, ns, rfl, hl, hf, q⟩ := h
  rw [Vals.ref1 r]
  obtain ⟨its, rv, pl, hz⟩ := J.list hl
  have hn : H s.heap.objs.size = none := J.hok.fresh (Nat.le_refl _)
  refine call_set_lstI (P := X.prog) (w := X.w) ns (J.ok.hd hc) pl.isList (by simpa using ints_of_vals rv) (by show ns.length + 1 < scanBound; unfold scanBound; omega) fun h' tk c R hcn k => ?_
  exact ⟨.ref s.heap.objs.size, upd H s.heap.objs.size (SetO X.w s.heap.objs.size _ c), J.laid (t' := tk) k (Nat.le_refl _) (setO_new R), rfl, q _ c hn hcn⟩
end
end DL

/-! DL17: sorted(set(numbers)) as an expression -/
namespace DL
open PySem L2
def insU (k : Int) : List Int → List Int
  | [] => [k]
  | x :: r => if k < x then k :: x :: r else if k = x then x :: r else x :: insU k r
def sortU (ns : List Int) : List Int := ns.foldr insU []
def opSortU : D → Option D
  | .lst ds => (intsOf ds).bind fun ns => if ns.length < 64 then some (.lst ((sortU ns).map D.int)) else none
  | _ => none
theorem mem_insU (k j : Int) : ∀ l : List Int, j ∈ insU k l ↔ j = k ∨ j ∈ l
  | [] => by simp [insU]
  | x :: r => by
    unfold insU
    split
    · simp
    · split
      · rename_i h; subst h; simp
      · simp only [List.mem_cons, mem_insU k j r]
        constructor
        · rintro (h | h | h) <;> simp [h]
        · rintro (h | h | h) <;> simp [h]
theorem pw_insU (k : Int) : ∀ l : List Int, l.Pairwise (· < ·) → (insU k l).Pairwise (· < ·)
  | [], _ => by simp [insU]
  | x :: r, h => by
    rw [List.pairwise_cons] at h
    unfold insU
    split
    · rename_i hk
      rw [List.pairwise_cons]
      refine ⟨fun y hy => ?_, List.pairwise_cons.mpr h⟩
      rcases List.mem_cons.mp hy with rfl | hy
      · exact hk
      · have := h.1 y hy; omega
    · split
      · exact List.pairwise_cons.mpr h
      · rename_i h1 h2
        rw [List.pairwise_cons]
        refine ⟨fun y hy => ?_, pw_insU k r h.2⟩
        rcases (mem_insU k y r).mp hy with rfl | hy
        · omega
        · exact h.1 y hy
theorem mem_sortU (j : Int) : ∀ ns : List Int, j ∈ sortU ns ↔ j ∈ ns
  | [] => by simp [sortU]
  | x :: r => by
    have := mem_sortU j r
    unfold sortU at this ⊢
    rw [List.foldr_cons, mem_insU, this, List.mem_cons]
theorem pw_sortU : ∀ ns : List Int, (sortU ns).Pairwise (· < ·)
  | [] => by simp [sortU]
  | x :: r => by
    have := pw_sortU r
    unfold sortU at this ⊢
    rw [List.foldr_cons]
    exact pw_insU x _ this
theorem strict_unique : ∀ {l m : List Int}, l.Pairwise (· < ·) → m.Pairwise (· < ·) → (∀ k, k ∈ l ↔ k ∈ m) → l = m
  | [], [], _, _, _ => rfl
  | [], y :: m, _, _, h => by have := (h y).mpr (by simp); simp at this
  | x :: l, [], _, _, h => by have := (h x).mp (by simp); simp at this
  | x :: l, y :: m, hl, hm, h => by
    rw [List.pairwise_cons] at hl hm
    have e : x = y := by
      rcases List.mem_cons.mp ((h x).mp (by simp)) with e | e
      · exact e
      · rcases List.mem_cons.mp ((h y).mpr (by simp)) with e2 | e2
        · exact e2.symm
        · have := hl.1 y e2; have := hm.1 x e; omega
    subst e
    rw [strict_unique hl.2 hm.2 fun k => ?_]
    have := h k
    simp only [List.mem_cons] at this
    constructor
    · intro hk
      rcases this.mp (.inr hk) with e | e
      · subst e; have := hl.1 k hk; omega
      · exact e
    · intro hk
      rcases this.mpr (.inr hk) with e | e
      · subst e; have := hm.1 k hk; omega
      · exact e
section
variable {X : Cx} {κ : Nat → Addr} {W : WX} {e : PySem.Expr}
theorem de_sortU {f : EM D} {p p2 pos pos2 : Pos} (hc : X.calm = true) (hm : X.mg "sorted" = none) (hm2 : X.mg "set" = none) (he : PE X e (teD X.K κ W f)) (hg : Gl X "sorted" := by rfl) (hg2 : Gl X "set" := by rfl)
    (h1 : starEach [e] X.env = (false, eval e X.env) :: starEach [] X.env := by rfl) (h2 : (backTo pos2 (starEach [] X.env)).any (·.1) = false := by rfl)
    (h3 : starEach [.Call (.Name "set" p2) [e] [] pos2] X.env = (false, eval (.Call (.Name "set" p2) [e] [] pos2) X.env) :: starEach [] X.env := by rfl) (h4 : (backTo pos (starEach [] X.env)).any (·.1) = false := by rfl) :
    PE X (.Call (.Name "sorted" p) [.Call (.Name "set" p2) [e] [] pos2] [] pos) (teD X.K κ W (eUn opSortU f)) := by
  refine pe_imp (pe_callB (cr_sortedSet hc) hg hm (by rfl) (pa_cons (pe_callTy (cr_setOfI hc) hg2 hm2 (by rfl) (pa_cons he pa_nil h1) (by decide) (by decide) h1 h2) pa_nil h3) (by decide) (by decide) h3 h4) fun σ H Q h => ?_
  obtain ⟨I, F, env, k, p⟩ := h
  refine ⟨I, F, env, k, Post.mono (p.bind (R := RD X.K κ)) ?_⟩
  rintro x H1 ⟨I1, env1, d, nfp, s1, k1, ⟨r, rfl⟩, p1⟩
  obtain ⟨d', ed, p3⟩ := p1.lift1
  unfold opSortU at ed
  split at ed
  · rename_i ds
    cases hi : intsOf ds with
    | none => rw [hi] at ed; cases ed
    | some ns =>
      rw [hi] at ed
      simp only [Option.bind] at ed
      split at ed
      · rename_i hlen
        cases ed
        have := intsOf_some hi
        subst this
        cases r with
        | lst hI r =>
          have := r.ofInts
          subst this
          refine ⟨_, ns, rfl, SqL.of (k1.ext _ _ hI), hlen, fun a c ha hcn => ?_⟩
          obtain ⟨k2, s2, e2⟩ := k1.newI (o := SetO X.w a (fun j => decide (j ∈ ns)) c) ha
          refine ⟨a, _, c, rfl, upd_same, by omega, fun ms p pw mm ml hp => ?_⟩
          have : ms = sortU ns := strict_unique pw (pw_sortU ns) fun z => by rw [mm z, mem_sortU]; simp
          subst this
          obtain ⟨k3, s3, e3⟩ := k2.newI (o := .lst ((sortU ns).map V.int)) hp
          exact p3 _ _ _ [] (s2.trans s3) k3 ⟨.lst e3 RpA.ints, rfl⟩
      · cases ed
  · cases ed
end
end DL

/-! DL18: methods of data, defs with defaults, the start of a law -/
namespace DL
open PySem L2
section
variable {X : Cx} {κ : Nat → Addr} {W : WX} {e o : PySem.Expr} {es : List PySem.Expr} {pos : Pos}
theorem hr65 {k : Nat} {A : Around} (r : Room k A) : A.units + 65 < cLine := by have := r.un; omega
theorem methE_run {c : Nat} {m : Str} {Φ : List SV → RE SV} {ars : List AR} {f : EM D} {te : TE} {t : TA} {σ : L2.St} {H : Hp} {Q : VK} {E : L2.St → XK} (hE : ∀ σ cls dd H', W cls dd σ H' → E σ cls dd H') (hf : ∀ σ H Q, teD X.K κ W f σ H Q → te σ H Q) (ht : ∀ σ H Q, taV X.K κ W ars σ H Q → t σ H Q) (h : teS X.K κ W (methE c m f Φ ars) σ H Q) :
    te σ H fun x H1 => ∃ a dx fs, x = .ref a ∧ H1 a = some (.ins (κ c) dx fs) ∧ fs.lookup m = none ∧ t σ H1 fun vs H2 => spD X.K κ Φ (x :: vs) H2 Q (E σ) := by
  obtain ⟨I, F, env, k, p⟩ := h
  refine hf _ _ _ ⟨I, F, env, k, Post.mono (Post.bind (R := RD X.K κ) p) ?_⟩
  rintro x H1 ⟨I1, env1, d, nfp, s1, k1, ⟨rx, rfl⟩, p1⟩
  split at p1
  · rename_i c' gs
    split at p1
    · rename_i hc
      obtain ⟨rfl, hl⟩ := hc
      cases rx with
      | obj ho of => exact ⟨_, _, _, rfl, k1.ext _ _ ho, of.lookup_none hl, call_dat ht k1 (.obj ho of) (hE σ) p1⟩
    · exact p1.elim
  · exact p1.elim
theorem de_methE {c : Nat} {m : Str} {Φ : List SV → RE SV} {ars : List AR} {pl : Sem Bool} {apos : Pos} {f : Addr} {k : Nat} {fd : FuncData} {ps : List Str} {g : EM D} (he : PE X o (teD X.K κ W g)) (hc : Cls X.K (κ c)) (hm : Meth X.K (κ c) m f) (G : FnD X κ k f fd ps Φ) (hr : Room k X.A) (hb : Binds X.K fd ps []) (tk : Takes X W) (ha : PA X (e :: es) (taV X.K κ W ars))
    (hst : starEach (e :: es) X.env = (false, eval e X.env) :: starEach es X.env := by rfl) (hpl : (backTo pos (starEach es X.env)).any (·.1) = false := by rfl)
    (ht : eval (.Call (.Attribute o m apos) (e :: es) [] pos) X.env = (do
      let r ← eval o X.env
      standAt apos.atName
      let (g, first) ← holding [r] (getMethod r m pl)
      callWith pos g first (backTo pos (starEach (e :: es) X.env)) (backToKw pos (keywordEach [] X.env))) := by rfl) :
    PE X (.Call (.Attribute o m apos) (e :: es) [] pos) (teS X.K κ W (methE c m g Φ ars)) :=
  pe_imp (pe_methS he hc hm G hr hb (fun σ => passAt tk σ) ha hst hpl ht) fun σ H Q h => methE_run (fun _ _ _ _ h => h) (fun _ _ _ h => h) (fun _ _ _ h => h) h
theorem de_methE0 {c : Nat} {m : Str} {Φ : List SV → RE SV} {pl : Sem Bool} {apos : Pos} {f : Addr} {k : Nat} {fd : FuncData} {ps : List Str} {g : EM D} (he : PE X o (teD X.K κ W g)) (hc : Cls X.K (κ c)) (hm : Meth X.K (κ c) m f) (G : FnD X κ k f fd ps Φ) (hr : Room k X.A) (hb : Binds X.K fd ps []) (tk : Takes X W)
    (ht : eval (.Call (.Attribute o m apos) [] [] pos) X.env = (do
      let r ← eval o X.env
      standAt apos.atName
      let (g, first) ← holding [r] (getMethod r m pl)
      callWith pos g first (backTo pos (starEach [] X.env)) (backToKw pos (keywordEach [] X.env))) := by rfl) :
    PE X (.Call (.Attribute o m apos) [] [] pos) (teS X.K κ W (methE c m g Φ [])) :=
  pe_imp (pe_methS0 he hc hm G hr hb (fun σ => passAt tk σ) ht) fun σ H Q h => methE_run (t := tNil) (fun _ _ _ _ h => h) (fun _ _ _ h => h) (fun σ H Q h => by
    obtain ⟨I, F, env, k, p⟩ := h
    exact p I H _ [] (Step.refl F I) k ⟨.nil, rfl⟩) h
end
section
variable {P : Program} {w : World} {K : PySem.W.Frag} {mg : Str → Option Value} {base : Heap} {κ : Nat → Addr}
theorem fn_stuck {k : Nat} {f : Addr} {fd : FuncData} {ps : List Str} : FnOk P w K mg base (L2.CX P w) k f fd ps (spD K κ fun _ => .stuck) :=
  ⟨fun vs H Q E h => by obtain ⟨I, F, args, ko, p⟩ := h; exact p.elim, fun A outer s H args us vs Q E _ _ _ _ h => by obtain ⟨I, F, args, ko, p⟩ := h; exact p.elim⟩
theorem pins_ok {modes : List Bool} {pin : List Nat} (h : ((List.range modes.length).all fun i => !(modes[i]? == some true) || decide (i ∈ pin)) = true) : ∀ i, modes[i]? = some true → i ∈ pin := fun i e => by
  have hi : i < modes.length := (List.getElem?_eq_some_iff.mp e).1
  have := List.all_eq_true.mp h i (List.mem_range.mpr hi)
  rw [e] at this
  simpa using this
/-- THE RULE of a def that may have defaults -/
theorem fn_okD {dvs : List V} {x qual : Str} {st : PySem.Stmt} {f : Addr} {fd : FuncData} {N ps : List Str} {k : Nat} {modes : List Bool} {body : SM} (pin : List Nat) (G : FunD K x qual (defArgs st) (defBody st) (defScope st) dvs [] f fd) (S : FnScope N ps (defScope st)) (hm : modes.length = ps.length := by rfl) (hN : ps.length ≤ N.length := by decide)
    (hp : ∀ i, modes[i]? = some true → i ∈ pin)
    (hb : ∀ (cdv : Value) (A : Around) (outer : List Env) (s : Shared) (H : Hp) (E : XK), Room k (A.deeper (PyProof.Rows.envOfC qual (defScope st) s.heap.objs.size f cdv)) → Takes (cxOf (L2.CX P w) P w K mg base N qual (defScope st) f cdv A outer s H E) (fun cls d _ H => E cls d H) →
      PassesOwn (model P w) (A.deeper (PyProof.Rows.envOfC qual (defScope st) s.heap.objs.size f cdv)) (PyProof.Rows.envOfC qual (defScope st) s.heap.objs.size f cdv) (cxOf (L2.CX P w) P w K mg base N qual (defScope st) f cdv A outer s H E).xe →
      PSs (cxOf (L2.CX P w) P w K mg base N qual (defScope st) f cdv A outer s H E) (defBody st) (tsD K κ (fun cls d _ H => E cls d H) pin body)) :
    FnOk P w K mg base (L2.CX P w) (k + 1) f fd ps (spD K κ (fnD modes N.length body)) := by
  have lenOf : ∀ vs H Q E, spD K κ (fnD modes N.length body) vs H Q E → vs.length = ps.length := by
    rintro vs H Q E ⟨I, F, args, ko, p⟩
    have h1 := ko.len
    simp only [List.length_map] at h1
    by_cases h2 : args.length = modes.length
    · omega
    · unfold fnD at p
      rw [if_neg h2] at p
      exact p.elim
  refine G.ok S lenOf fun cdv A outer s H vs Q E hr h => ⟨_, hb cdv A outer s H E hr (takes_of rfl rfl rfl rfl) (passes_of rfl), ?_⟩
  have hvl := lenOf vs H Q E h
  obtain ⟨I, F, args, ko, p⟩ := h
  have hal := ko.len
  simp only [List.length_map] at hal
  unfold fnD at p
  have hargs : args.length = modes.length := by omega
  rw [if_pos hargs] at p
  obtain ⟨fp, e, rr⟩ := ko.ex
  have k0 : Ok K κ I F H (L2.start N vs) (args.map some ++ List.replicate (N.length - args.length) none) [] := by
    refine ⟨fp, ?_, rr⟩
    unfold L2.start
    rw [hal]
    exact e.pad _
  refine ⟨I, F, _, k0, ?_⟩
  have slen : (L2.start N vs).length = N.length := by
    unfold L2.start
    rw [List.length_append, List.length_map, List.length_replicate]
    omega
  have hml : vs.length = modes.length := by omega
  have hmN : modes.length ≤ N.length := by omega
  revert p
  cases body (args.map some ++ List.replicate (N.length - args.length) none) with
  | ok fl env' =>
    cases fl with
    | nx => exact fun p I' H' σ' s' pn k' => p I' H' .non [] s' (k'.outs hml hmN (pn.len.trans slen) hp pn) (.dat .non)
    | rt sv => exact fun p I' H' σ' s' pn v nfp k' ow => p I' H' v nfp s' (k'.outs hml hmN (pn.len.trans slen) hp pn) ow
    | bk => exact fun p => p.elim
    | ct => exact fun p => p.elim
  | exc e env' => exact fun p I' H' σ' cls dd s' pn k' ex => p I' H' cls dd s' (k'.outs hml hmN (pn.len.trans slen) hp pn) ex
  | stuck => exact fun p => p.elim
theorem cx_end {P : Program} (w : World) (H : Hp) (s : Shared) (e : Value) (s' : Shared) (h : L2.CX P w [] H s (fun _ _ _ => False) e s') : False := by
  obtain ⟨_, _, _, _, _, _, _, _, _, _, _, _, h⟩ := h
  exact h
/-- a law's start -/
theorem sp_start {Φ : List SV → RE SV} {H : Hp} {a : Addr} {ns : List Int} {Q : VK} {E : XK} (hS : SqL K H a (ns.map V.int)) (h : ∃ o, Φ [.dat (.scr ns)] = .ok (.dat (.bl true)) o) (k : ∀ H', Q (.bl true) H') : spD K κ Φ [.ref a] H Q E := by
  obtain ⟨o, h⟩ := h
  refine ⟨H, fun _ => none, [.dat (.scr ns)], ⟨[], ?_, ⟨fun _ _ q => q, (fun _ _ q => nomatch q), List.nodup_nil, (by simp), (by simp), (by simp)⟩⟩, ?_⟩
  · exact EnvR.so (fp := []) (.dat (.scr hS)) .nil
  · rw [h]
    intro I' H' v nfp _ _ ov
    cases ov with
    | dat r => cases r; exact k H'
end
end DL

/-! DL19: mirrors, run -/
namespace DL
open PySem L2
@[simp] theorem bind_ok {α β : Type} (a : α) (e : Slots) (g : α → EM β) : (RE.ok a e).bind g = g a e := rfl
@[simp] theorem bind_exc {α β : Type} (x : EX) (e : Slots) (g : α → EM β) : (RE.exc x e).bind g = .exc x e := rfl
@[simp] theorem bind_stuck {α β : Type} (g : α → EM β) : (RE.stuck : RE α).bind g = .stuck := rfl
@[simp] theorem bind_ap {α β : Type} (f : EM α) (g : α → EM β) (e : Slots) : EM.bind f g e = (f e).bind g := rfl
@[simp] theorem pure_ap {α : Type} (a : α) (e : Slots) : EM.pure a e = .ok a e := rfl
@[simp] theorem lift_some {α : Type} (a : α) (e : Slots) : lift (some a) e = .ok a e := rfl
@[simp] theorem lift_none {α : Type} (e : Slots) : lift (none : Option α) e = .stuck := rfl
def rVar (o : Option (Option SV)) (i : Nat) (e : Slots) : RE D := match o with
  | some (some (.dat d)) => .ok d e
  | some (some (.own m)) => .ok m.view (e.set i (some (.dat m.view)))
  | _ => .stuck
@[simp] theorem eVar_ap (i : Nat) (e : Slots) : eVar i e = rVar e[i]? i e := rfl
@[simp] theorem rVar_dat (d : D) (i : Nat) (e : Slots) : rVar (some (some (.dat d))) i e = .ok d e := rfl
@[simp] theorem rVar_own (m : MO) (i : Nat) (e : Slots) : rVar (some (some (.own m))) i e = .ok m.view (e.set i (some (.dat m.view))) := rfl
@[simp] theorem view_lf (l : Lf) : (MO.lf l).view = l.view := rfl
@[simp] theorem view_lst (l : List D) : (Lf.lst l).view = .lst l := rfl
@[simp] theorem view_dct (l : List (Key × D)) : (Lf.dct l).view = .dct l := rfl
@[simp] theorem eC_ap (d : D) (e : Slots) : eC d e = .ok d e := rfl
@[simp] theorem eBin_ap (op : D → D → Option D) (f g : EM D) (e : Slots) : eBin op f g e = (f e).bind fun x => g.bind fun y => lift (op x y) := rfl
@[simp] theorem eUn_ap (op : D → Option D) (f : EM D) (e : Slots) : eUn op f e = (f e).bind fun x => lift (op x) := rfl
def rTru (d : D) : EM Bool := lift (match d with | .bl b => some b | _ => none)
@[simp] theorem rTru_bl (b : Bool) (e : Slots) : rTru (.bl b) e = .ok b e := rfl
@[simp] theorem bVal_ap (f : EM D) (e : Slots) : bVal f e = (f e).bind rTru := rfl
def rAnd (g : EM Bool) (c : Bool) : EM Bool := if c = true then g else EM.pure false
@[simp] theorem rAnd_t (g : EM Bool) (e : Slots) : rAnd g true e = g e := rfl
@[simp] theorem rAnd_f (g : EM Bool) (e : Slots) : rAnd g false e = .ok false e := rfl
@[simp] theorem bAnd_ap (f g : EM Bool) (e : Slots) : bAnd f g e = (f e).bind (rAnd g) := rfl
def rOr (g : EM Bool) (c : Bool) : EM Bool := if c = true then EM.pure true else g
@[simp] theorem rOr_t (g : EM Bool) (e : Slots) : rOr g true e = .ok true e := rfl
@[simp] theorem rOr_f (g : EM Bool) (e : Slots) : rOr g false e = g e := rfl
@[simp] theorem bOr_ap (f g : EM Bool) (e : Slots) : bOr f g e = (f e).bind (rOr g) := rfl
@[simp] theorem bNot_ap (f : EM Bool) (e : Slots) : bNot f e = (f e).bind fun c => EM.pure (!c) := rfl
@[simp] theorem eIf_ap (c : EM Bool) (f g : EM D) (e : Slots) : eIf c f g e = (c e).bind fun b => if b = true then f else g := rfl
def rAndV (g : EM D) (c : Bool) : EM D := if c = true then g else EM.pure (.bl false)
def rOrV (g : EM D) (c : Bool) : EM D := if c = true then EM.pure (.bl true) else g
@[simp] theorem rAndV_t (g : EM D) (e : Slots) : rAndV g true e = g e := rfl
@[simp] theorem rAndV_f (g : EM D) (e : Slots) : rAndV g false e = .ok (.bl false) e := rfl
@[simp] theorem rOrV_t (g : EM D) (e : Slots) : rOrV g true e = .ok (.bl true) e := rfl
@[simp] theorem rOrV_f (g : EM D) (e : Slots) : rOrV g false e = g e := rfl
@[simp] theorem eAndV_ap (f g : EM D) (e : Slots) : eAndV f g e = (f e).bind fun x => (lift (dB x)).bind (rAndV g) := rfl
@[simp] theorem eOrV_ap (f g : EM D) (e : Slots) : eOrV f g e = (f e).bind fun x => (lift (dB x)).bind (rOrV g) := rfl
@[simp] theorem dB_bl (b : Bool) : dB (.bl b) = some b := rfl
@[simp] theorem aNil_ap (e : Slots) : aNil e = .ok [] e := rfl
@[simp] theorem aCons_ap (f : EM D) (g : EM (List D)) (e : Slots) : aCons f g e = (f e).bind fun d => g.bind fun ds => EM.pure (d :: ds) := rfl
@[simp] theorem eTup_ap (g : EM (List D)) (e : Slots) : eTup g e = (g e).bind fun ds => lift (tupOf ds) := rfl
@[simp] theorem eLst_ap (g : EM (List D)) (e : Slots) : eLst g e = (g e).bind fun ds => lift (lstOf ds) := rfl
@[simp] theorem sLst_ap (g : EM (List D)) (e : Slots) : sLst g e = (g e).bind fun ds => lift (if ds.length ≤ sizeLine then some (.own (.lf (.lst ds))) else none) := rfl
@[simp] theorem sDat_ap (f : EM D) (e : Slots) : sDat f e = (f e).bind fun d => EM.pure (.dat d) := rfl
@[simp] theorem sDctN_ap (e : Slots) : sDctN e = .ok (.own (.lf (.dct []))) e := rfl
@[simp] theorem eCallB_ap (op : List D → Option D) (g : EM (List D)) (e : Slots) : eCallB op g e = (g e).bind fun ds => lift (op ds) := rfl
def rAsD (sv : SV) : EM D := match sv with
  | .dat d => EM.pure d
  | .own m => EM.pure m.view
@[simp] theorem rAsD_dat (d : D) (e : Slots) : rAsD (.dat d) e = .ok d e := rfl
@[simp] theorem rAsD_own (m : MO) (e : Slots) : rAsD (.own m) e = .ok m.view e := rfl
@[simp] theorem asD_ap (f : EM SV) (e : Slots) : asD f e = (f e).bind rAsD := rfl
/-! statements -/
def rSeq (r : RE Fl) (g : SM) : RE Fl := match r with
  | .ok .nx e => g e
  | r => r
@[simp] theorem rSeq_nx (e : Slots) (g : SM) : rSeq (.ok .nx e) g = g e := rfl
@[simp] theorem rSeq_rt (v : SV) (e : Slots) (g : SM) : rSeq (.ok (.rt v) e) g = .ok (.rt v) e := rfl
@[simp] theorem rSeq_bk (e : Slots) (g : SM) : rSeq (.ok .bk e) g = .ok .bk e := rfl
@[simp] theorem rSeq_exc (x : EX) (e : Slots) (g : SM) : rSeq (.exc x e) g = .exc x e := rfl
@[simp] theorem rSeq_ite {p : Prop} [Decidable p] (a b : RE Fl) (g : SM) : rSeq (if p then a else b) g = if p then rSeq a g else rSeq b g := by split <;> rfl
@[simp] theorem sSeq_ap (f g : SM) (e : Slots) : sSeq f g e = rSeq (f e) g := rfl
@[simp] theorem sNx_ap (e : Slots) : sNx e = .ok .nx e := rfl
@[simp] theorem sBrk_ap (e : Slots) : sBrk e = .ok .bk e := rfl
def rIf (f g : SM) (b : Bool) : SM := fun e => if b = true then f e else g e
@[simp] theorem rIf_ap (f g : SM) (b : Bool) (e : Slots) : rIf f g b e = if b = true then f e else g e := rfl
@[simp] theorem sIf_ap (c : EM Bool) (f g : SM) (e : Slots) : sIf c f g e = (c e).bind (rIf f g) := by
  show RE.bind _ _ = RE.bind _ _
  congr 1
  funext b
  funext e'
  show (if b = true then f else g) e' = if b = true then f e' else g e'
  split <;> rfl
@[simp] theorem setSlot_ap (i : Nat) (x : SV) (e : Slots) : setSlot i x e = if i < e.length then .ok .nx (e.set i (some x)) else .stuck := rfl
@[simp] theorem sAsg_ap (i : Nat) (f : EM SV) (e : Slots) : sAsg i f e = (f e).bind (setSlot i) := rfl
@[simp] theorem sRet_ap (f : EM SV) (e : Slots) : sRet f e = (f e).bind fun x => EM.pure (.rt x) := rfl
@[simp] theorem sDrop_ap (f : EM D) (e : Slots) : sDrop f e = (f e).bind fun _ => sNx := rfl
def rOut (m : List Bool) (r : RE Fl) : RE SV := match r with
  | .ok (.rt sv) e => .ok sv (outs m e)
  | .ok .nx e => .ok (.dat .non) (outs m e)
  | .exc x e => .exc x (outs m e)
  | _ => .stuck
@[simp] theorem rOut_rt (m : List Bool) (v : SV) (e : Slots) : rOut m (.ok (.rt v) e) = .ok v (outs m e) := rfl
@[simp] theorem rOut_nx (m : List Bool) (e : Slots) : rOut m (.ok .nx e) = .ok (.dat .non) (outs m e) := rfl
@[simp] theorem rOut_ite (m : List Bool) {p : Prop} [Decidable p] (a b : RE Fl) : rOut m (if p then a else b) = if p then rOut m a else rOut m b := by split <;> rfl
theorem fnD_ap (m : List Bool) (n : Nat) (b : SM) (args : List SV) (h : args.length = m.length) : fnD m n b args = rOut m (b (args.map some ++ List.replicate (n - args.length) none)) := by
  unfold fnD rOut
  rw [if_pos h]
  all_goals (cases b (args.map some ++ List.replicate (n - args.length) none) <;> first | rfl | (rename_i fl _; cases fl <;> rfl))
@[simp] theorem outs_nil (e : Slots) : outs [] e = [] := rfl
@[simp] theorem outs_cf (m : List Bool) (x : Option SV) (e : Slots) : outs (false :: m) (x :: e) = none :: outs m e := rfl
@[simp] theorem outs_ct (m : List Bool) (x : Option SV) (e : Slots) : outs (true :: m) (x :: e) = x :: outs m e := rfl
/-! calls -/
@[simp] theorem evA_nil (e : Slots) : evA [] e = .ok [] e := rfl
@[simp] theorem evA_dat (f : EM D) (r : List AR) (e : Slots) : evA (.dat f :: r) e = (f e).bind fun d => (evA r).bind fun as => EM.pure (.dat d :: as) := rfl
def rEnd (avs : List AV) (r : RE SV) (e : Slots) : RE SV := match r with
  | .ok sv outs => match putA avs outs e with
    | some e2 => .ok sv e2
    | none => .stuck
  | .exc x outs => match putA avs outs e with
    | some e2 => .exc x e2
    | none => .stuck
  | .stuck => .stuck
def rPut (sv : SV) (o : Option Slots) : RE SV := match o with
  | some e2 => .ok sv e2
  | none => .stuck
@[simp] theorem rPut_some (sv : SV) (e : Slots) : rPut sv (some e) = .ok sv e := rfl
@[simp] theorem rEnd_ok (avs : List AV) (sv : SV) (o e : Slots) : rEnd avs (.ok sv o) e = rPut sv (putA avs o e) := by
  unfold rEnd rPut
  simp only []
def rCall (Φ : List SV → RE SV) (avs : List AV) (o : Option (List SV × Slots)) : RE SV := match o with
  | none => .stuck
  | some (args, e1) => rEnd avs (Φ args) e1
@[simp] theorem rCall_some (Φ : List SV → RE SV) (avs : List AV) (args : List SV) (e1 : Slots) : rCall Φ avs (some (args, e1)) = rEnd avs (Φ args) e1 := rfl
@[simp] theorem callD_ap (Φ : List SV → RE SV) (ars : List AR) (e : Slots) : callD Φ ars e = (evA ars e).bind fun avs e => rCall Φ avs (takeA avs e) := by
  unfold callD rCall rEnd
  show RE.bind _ _ = RE.bind _ _
  congr 1
@[simp] theorem takeA_nil (e : Slots) : takeA [] e = some ([], e) := rfl
@[simp] theorem takeA_dat (d : D) (r : List AV) (e : Slots) : takeA (.dat d :: r) e = (takeA r e).map fun p => (.dat d :: p.1, p.2) := rfl
@[simp] theorem putA_nil (o e : Slots) : putA [] o e = some e := rfl
@[simp] theorem putA_dat (d : D) (r : List AV) (x : Option SV) (o e : Slots) : putA (.dat d :: r) (x :: o) e = putA r o e := by cases x <;> rfl
/-! loops -/
def rLoop (g : TM) (body : SM) (ds : List D) (r : RE Fl) : RE Fl := match r with
  | .ok .nx e => loopD g body ds e
  | .ok .ct e => loopD g body ds e
  | .ok .bk e => .ok .nx e
  | r => r
def rTgt (g : TM) (body : SM) (ds : List D) (o : Option Slots) : RE Fl := match o with
  | none => .stuck
  | some e => rLoop g body ds (body e)
@[simp] theorem rLoop_nx (g : TM) (body : SM) (ds : List D) (e : Slots) : rLoop g body ds (.ok .nx e) = loopD g body ds e := rfl
@[simp] theorem rLoop_bk (g : TM) (body : SM) (ds : List D) (e : Slots) : rLoop g body ds (.ok .bk e) = .ok .nx e := rfl
@[simp] theorem rLoop_rt (g : TM) (body : SM) (ds : List D) (v : SV) (e : Slots) : rLoop g body ds (.ok (.rt v) e) = .ok (.rt v) e := rfl
@[simp] theorem rLoop_ite (g : TM) (body : SM) (ds : List D) {p : Prop} [Decidable p] (a b : RE Fl) : rLoop g body ds (if p then a else b) = if p then rLoop g body ds a else rLoop g body ds b := by split <;> rfl
@[simp] theorem rTgt_some (g : TM) (body : SM) (ds : List D) (e : Slots) : rTgt g body ds (some e) = rLoop g body ds (body e) := rfl
@[simp] theorem loop_nil (g : TM) (body : SM) (e : Slots) : loopD g body [] e = .ok .nx e := rfl
@[simp] theorem loop_cons (g : TM) (body : SM) (d : D) (ds : List D) (e : Slots) : loopD g body (d :: ds) e = rTgt g body ds (g d e) := by
  unfold rTgt rLoop
  simp only [loopD]
  all_goals (cases g d e <;> first | rfl | (rename_i e1; simp only []; cases body e1 <;> first | rfl | (rename_i fl _; cases fl <;> rfl)))
@[simp] theorem sFor_ap (it : EM (List D)) (g : TM) (body : SM) (e : Slots) : sFor it g body e = (it e).bind fun ds => loopD g body ds := rfl
@[simp] theorem gN_ap (i : Nat) (d : D) (e : Slots) : gN i d e = if i < e.length then some (e.set i (some (.dat d))) else none := rfl
@[simp] theorem gT_tup (gs : List TM) (ds : List D) (e : Slots) : gT gs (.tup ds) e = gTs gs ds e := rfl
@[simp] theorem gTs_nil (e : Slots) : gTs [] [] e = some e := rfl
@[simp] theorem gTs_cons (g : TM) (gs : List TM) (d : D) (ds : List D) (e : Slots) : gTs (g :: gs) (d :: ds) e = (g d e).bind (gTs gs ds) := rfl
@[simp] theorem iSeq_ap (f : EM D) (e : Slots) : iSeq f e = (f e).bind fun d => lift (itemsOf d) := rfl
@[simp] theorem itemsOf_lst (l : List D) : itemsOf (.lst l) = some l := rfl
@[simp] theorem itemsOf_tup (l : List D) : itemsOf (.tup l) = some l := rfl
def rEnum (ds : List D) : EM (List D) := match ds with
  | [.lst xs] => EM.pure (enumD xs)
  | _ => fun _ => .stuck
@[simp] theorem rEnum_l (xs : List D) (e : Slots) : rEnum [.lst xs] e = .ok (enumD xs) e := rfl
@[simp] theorem iEnumD_ap (g : EM (List D)) (e : Slots) : iEnumD g e = (g e).bind rEnum := rfl
def rZip (ds : List D) : EM (List D) := match ds with
  | [.lst xs, .lst ys] => EM.pure (zipD xs ys)
  | [.tup xs, .tup ys] => EM.pure (zipD xs ys)
  | _ => fun _ => .stuck
@[simp] theorem rZip_l (xs ys : List D) (e : Slots) : rZip [.lst xs, .lst ys] e = .ok (zipD xs ys) e := rfl
@[simp] theorem iZipD_ap (g : EM (List D)) (e : Slots) : iZipD g e = (g e).bind rZip := rfl
noncomputable def rRng (ds : List D) : EM (List D) := match ds with
  | [.int j] => lift (if smallI j then some (rangeD 0 j) else none)
  | _ => fun _ => .stuck
@[simp] theorem rRng_1 (j : Int) (e : Slots) : rRng [.int j] e = lift (if smallI j then some (rangeD 0 j) else none) e := id rfl
@[simp] theorem iRange_ap (g : EM (List D)) (e : Slots) : iRange g e = (g e).bind rRng := id rfl
/-! comprehensions -/
def rAcc (vs : List Nat) (g : TM) (t : EM Bool) (f : EM D) (ds acc : List D) (r : RE D) : RE (List D) := match r with
  | .ok y e3 => if acc.length < sizeLine then lcLoop vs g t f ds (acc ++ [y]) e3 else .stuck
  | _ => .stuck
def rTst (vs : List Nat) (g : TM) (t : EM Bool) (f : EM D) (ds acc : List D) (r : RE Bool) : RE (List D) := match r with
  | .ok true e2 => rAcc vs g t f ds acc (f e2)
  | .ok false e2 => lcLoop vs g t f ds acc e2
  | _ => .stuck
def rLc (vs : List Nat) (g : TM) (t : EM Bool) (f : EM D) (ds acc : List D) (o : Option Slots) : RE (List D) := match o with
  | none => .stuck
  | some e1 => rTst vs g t f ds acc (t e1)
@[simp] theorem rAcc_ok (vs : List Nat) (g : TM) (t : EM Bool) (f : EM D) (ds acc : List D) (y : D) (e : Slots) : rAcc vs g t f ds acc (.ok y e) = if acc.length < sizeLine then lcLoop vs g t f ds (acc ++ [y]) e else .stuck := rfl
@[simp] theorem rTst_t (vs : List Nat) (g : TM) (t : EM Bool) (f : EM D) (ds acc : List D) (e : Slots) : rTst vs g t f ds acc (.ok true e) = rAcc vs g t f ds acc (f e) := rfl
@[simp] theorem rTst_f (vs : List Nat) (g : TM) (t : EM Bool) (f : EM D) (ds acc : List D) (e : Slots) : rTst vs g t f ds acc (.ok false e) = lcLoop vs g t f ds acc e := rfl
@[simp] theorem rLc_some (vs : List Nat) (g : TM) (t : EM Bool) (f : EM D) (ds acc : List D) (e : Slots) : rLc vs g t f ds acc (some e) = rTst vs g t f ds acc (t e) := rfl
@[simp] theorem lcLoop_nil' (vs : List Nat) (g : TM) (t : EM Bool) (f : EM D) (acc : List D) (e : Slots) : lcLoop vs g t f [] acc e = .ok acc e := by simp only [lcLoop]
@[simp] theorem lcLoop_cons' (vs : List Nat) (g : TM) (t : EM Bool) (f : EM D) (d : D) (ds acc : List D) (e : Slots) : lcLoop vs g t f (d :: ds) acc e = rLc vs g t f ds acc (g d (wipeE e vs)) := by
  unfold rLc rTst rAcc
  simp only [lcLoop]
  all_goals (cases g d (wipeE e vs) <;> first | rfl | (rename_i e1; simp only []; cases t e1 <;> first | rfl | (rename_i b e2; cases b <;> first | rfl | (simp only []; cases f e2 <;> rfl))))
def rFin (e : Slots) (vs : List Nat) (r : RE (List D)) : RE (List D) := match r with
  | .ok acc e' => if noOwn e vs then .ok acc (backE e (wipeE e' vs) vs) else .stuck
  | _ => .stuck
@[simp] theorem rFin_ok (e : Slots) (vs : List Nat) (acc : List D) (e' : Slots) : rFin e vs (.ok acc e') = if noOwn e vs then .ok acc (backE e (wipeE e' vs) vs) else .stuck := rfl
@[simp] theorem eLc_ap (vs : List Nat) (it : EM (List D)) (g : TM) (t : EM Bool) (f : EM D) (e : Slots) : eLc vs it g t f e = (it e).bind fun ds e => rFin e vs (lcLoop vs g t f ds [] e) := by
  unfold eLc rFin
  show RE.bind _ _ = RE.bind _ _
  congr 1
@[simp] theorem bYes_ap (e : Slots) : bYes e = .ok true e := rfl
@[simp] theorem lcF_ap (f : EM (List D)) (e : Slots) : lcF f e = (f e).bind fun ds => EM.pure (.lst ds) := rfl
@[simp] theorem lcO_ap (f : EM (List D)) (e : Slots) : lcO f e = (f e).bind fun ds => EM.pure (.own (.lf (.lst ds))) := rfl
@[simp] theorem wipeE_nil (e : Slots) : wipeE e [] = e := rfl
@[simp] theorem wipeE_cons (e : Slots) (v : Nat) (vs : List Nat) : wipeE e (v :: vs) = (wipeE e vs).set v none := rfl
def rBack (o : Option (Option SV)) (v : Nat) (e : Slots) : Slots := match o with
  | some (some (.dat d)) => e.set v (some (.dat d))
  | _ => e
@[simp] theorem rBack_d (d : D) (v : Nat) (e : Slots) : rBack (some (some (.dat d))) v e = e.set v (some (.dat d)) := rfl
@[simp] theorem rBack_n (v : Nat) (e : Slots) : rBack (some none) v e = e := rfl
@[simp] theorem backE_nil (o e : Slots) : backE o e [] = e := rfl
@[simp] theorem backE_cons (o e : Slots) (v : Nat) (vs : List Nat) : backE o e (v :: vs) = rBack o[v]? v (backE o e vs) := by
  rfl
@[simp] theorem noOwn_nil (e : Slots) : noOwn e [] = true := rfl
def rNo (o : Option (Option SV)) : Bool := match o with
  | some (some (.own _)) => false
  | _ => true
@[simp] theorem rNo_d (d : D) : rNo (some (some (.dat d))) = true := rfl
@[simp] theorem rNo_n : rNo (some none) = true := rfl
@[simp] theorem noOwn_cons (e : Slots) (v : Nat) (vs : List Nat) : noOwn e (v :: vs) = (rNo e[v]? && noOwn e vs) := by
  rfl
/-! own lists and dicts -/
def rOwnIx (o : Option (Option SV)) (x : Option D) (e : Slots) : RE D := match o with
  | some (some (.own (.lf (.lst ds)))) => lift (x.bind fun d => (Lf.lst ds).at_ d) e
  | some (some (.dat d)) => lift (x.bind fun y => opIx d y) e
  | _ => .stuck
@[simp] theorem rOwnIx_o (ds : List D) (d : D) (e : Slots) : rOwnIx (some (some (.own (.lf (.lst ds))))) (some d) e = lift ((Lf.lst ds).at_ d) e := rfl
@[simp] theorem rOwnIx_d (d y : D) (e : Slots) : rOwnIx (some (some (.dat d))) (some y) e = lift (opIx d y) e := rfl
@[simp] theorem eOwnIx_ap (i : Nat) (g : EM D) (e : Slots) : eOwnIx i g e = rOwnIx e[i]? (qD g e) e := by
  unfold eOwnIx rOwnIx
  split <;> simp_all
def rOwnGet (o : Option (Option SV)) (x : Option D) (e : Slots) : RE D := match o with
  | some (some (.own (.lf (.dct ds)))) => lift (x.bind fun d => (Lf.dct ds).at_ d) e
  | some (some (.dat d)) => lift (x.bind fun y => opGet d y) e
  | _ => .stuck
@[simp] theorem rOwnGet_o (ds : List (Key × D)) (d : D) (e : Slots) : rOwnGet (some (some (.own (.lf (.dct ds))))) (some d) e = lift ((Lf.dct ds).at_ d) e := rfl
@[simp] theorem rOwnGet_d (d y : D) (e : Slots) : rOwnGet (some (some (.dat d))) (some y) e = lift (opGet d y) e := rfl
@[simp] theorem eOwnGet_ap (i : Nat) (g : EM D) (e : Slots) : eOwnGet i g e = rOwnGet e[i]? (qD g e) e := by
  unfold eOwnGet rOwnGet
  split <;> simp_all
@[simp] theorem at_lst (ds : List D) (i : Int) : (Lf.lst ds).at_ (.int i) = atI ds i := rfl
@[simp] theorem at_dct (ds : List (Key × D)) (d : D) : (Lf.dct ds).at_ d = (keyOf d).bind (getK ds) := rfl
def rQ (r : RE D) : Option D := match r with
  | .ok d _ => if d.scal = true then some d else none
  | _ => none
@[simp] theorem rQ_i (i : Int) (e : Slots) : rQ (.ok (.int i) e) = some (.int i) := rfl
@[simp] theorem rQ_s (i : Str) (e : Slots) : rQ (.ok (.str i) e) = some (.str i) := rfl
@[simp] theorem rQ_b (i : Bool) (e : Slots) : rQ (.ok (.bl i) e) = some (.bl i) := rfl
@[simp] theorem qD_ap (g : EM D) (e : Slots) : qD g e = rQ (g (viewEnv e)) := by
  unfold qD rQ
  rfl
@[simp] theorem viewEnv_nil : viewEnv [] = [] := rfl
@[simp] theorem viewEnv_n (e : Slots) : viewEnv (none :: e) = none :: viewEnv e := rfl
@[simp] theorem viewEnv_d (d : D) (e : Slots) : viewEnv (some (.dat d) :: e) = some (.dat d) :: viewEnv e := rfl
@[simp] theorem viewEnv_o (m : MO) (e : Slots) : viewEnv (some (.own m) :: e) = some (.dat m.view) :: viewEnv e := rfl
def rEQ (r : RE D) (e : Slots) : RE D := match r with
  | .ok d _ => if d.scal = true then .ok d e else .stuck
  | _ => .stuck
@[simp] theorem rEQ_i (i : Int) (e e' : Slots) : rEQ (.ok (.int i) e) e' = .ok (.int i) e' := rfl
@[simp] theorem rEQ_s (i : Str) (e e' : Slots) : rEQ (.ok (.str i) e) e' = .ok (.str i) e' := rfl
@[simp] theorem rEQ_b (i : Bool) (e e' : Slots) : rEQ (.ok (.bl i) e) e' = .ok (.bl i) e' := rfl
@[simp] theorem eQ_ap (g : EM D) (e : Slots) : eQ g e = rEQ (g (viewEnv e)) e := rfl
def rBQ (r : RE Bool) (e : Slots) : RE Bool := match r with
  | .ok d _ => .ok d e
  | _ => .stuck
@[simp] theorem rBQ_ok (b : Bool) (e e' : Slots) : rBQ (.ok b e) e' = .ok b e' := rfl
@[simp] theorem bQ_ap (g : EM Bool) (e : Slots) : bQ g e = rBQ (g (viewEnv e)) e := rfl
def rApp (i : Nat) (d : D) (e : Slots) (o : Option (Option SV)) : RE Fl := match o with
  | some (some (.own (.lf (.lst ds)))) => if ds.length < sizeLine then .ok .nx (e.set i (some (.own (.lf (.lst (ds ++ [d])))))) else .stuck
  | _ => .stuck
@[simp] theorem rApp_o (i : Nat) (d : D) (e : Slots) (ds : List D) : rApp i d e (some (some (.own (.lf (.lst ds))))) = if ds.length < sizeLine then .ok .nx (e.set i (some (.own (.lf (.lst (ds ++ [d])))))) else .stuck := rfl
def rIsL (o : Option (Option SV)) : Bool := match o with
  | some (some (.own (.lf (.lst _)))) => true
  | _ => false
@[simp] theorem rIsL_o (ds : List D) : rIsL (some (some (.own (.lf (.lst ds))))) = true := rfl
@[simp] theorem isLst_ap (e : Slots) (i : Nat) : isLst e i = rIsL e[i]? := rfl
@[simp] theorem sApp_ap (i : Nat) (f : EM D) (e : Slots) : sApp i f e = if isLst e i = true then (f e).bind fun d e => rApp i d e e[i]? else .stuck := rfl
def rExt (i : Nat) (d : D) (e : Slots) (o : Option (Option SV)) : RE Fl := match o, d with
  | some (some (.own (.lf (.lst ds)))), .lst es => if ds.length + es.length ≤ sizeLine then .ok .nx (e.set i (some (.own (.lf (.lst (ds ++ es)))))) else .stuck
  | _, _ => .stuck
@[simp] theorem rExt_o (i : Nat) (es : List D) (e : Slots) (ds : List D) : rExt i (.lst es) e (some (some (.own (.lf (.lst ds))))) = if ds.length + es.length ≤ sizeLine then .ok .nx (e.set i (some (.own (.lf (.lst (ds ++ es)))))) else .stuck := rfl
@[simp] theorem sExt_ap (i : Nat) (f : EM D) (e : Slots) : sExt i f e = if isLst e i = true then (f e).bind fun d e => rExt i d e e[i]? else .stuck := rfl
def rSetD (i : Nat) (d : D) (e : Slots) (o : Option (Option SV)) (k : Option Key) : RE Fl := match o, k with
  | some (some (.own (.lf (.dct ds)))), some k => if ds.length < sizeLine then .ok .nx (e.set i (some (.own (.lf (.dct (setK ds k d)))))) else .stuck
  | _, _ => .stuck
@[simp] theorem rSetD_o (i : Nat) (d : D) (e : Slots) (ds : List (Key × D)) (k : Key) : rSetD i d e (some (some (.own (.lf (.dct ds))))) (some k) = if ds.length < sizeLine then .ok .nx (e.set i (some (.own (.lf (.dct (setK ds k d)))))) else .stuck := rfl
@[simp] theorem sSetD_ap (i : Nat) (g f : EM D) (e : Slots) : sSetD i g f e = (f e).bind fun d e => rSetD i d e e[i]? ((qD g e).bind keyOf) := rfl
@[simp] theorem keyOf_i (i : Int) : keyOf (.int i) = some (.inl i) := rfl
@[simp] theorem keyOf_s (i : Str) : keyOf (.str i) = some (.inr i) := rfl
def rAug (i : Nat) (op : D → D → Option D) (f : EM D) (e : Slots) (o : Option (Option SV)) : RE Fl := match o with
  | some (some (.dat d)) => (f e).bind fun x => (lift (op d x)).bind fun z => setSlot i (.dat z)
  | _ => .stuck
@[simp] theorem rAug_d (i : Nat) (op : D → D → Option D) (f : EM D) (e : Slots) (d : D) : rAug i op f e (some (some (.dat d))) = (f e).bind fun x => (lift (op d x)).bind fun z => setSlot i (.dat z) := rfl
@[simp] theorem sAug_ap (i : Nat) (op : D → D → Option D) (f : EM D) (e : Slots) : sAug i op f e = rAug i op f e e[i]? := rfl
def rAT (o : Option Slots) : RE Fl := match o with
  | some e => .ok .nx e
  | none => .stuck
@[simp] theorem rAT_s (e : Slots) : rAT (some e) = .ok .nx e := rfl
@[simp] theorem sAsgT_ap (g : TM) (f : EM D) (e : Slots) : sAsgT g f e = (f e).bind fun d e => rAT (g d e) := by
  unfold sAsgT rAT
  show RE.bind _ _ = RE.bind _ _
  congr 1
def rPar (i j : Nat) (ds : List D) (e : Slots) : RE Fl := match ds with
  | [x, y] => if i < e.length ∧ j < e.length then .ok .nx ((e.set i (some (.dat x))).set j (some (.dat y))) else .stuck
  | _ => .stuck
@[simp] theorem rPar_2 (i j : Nat) (x y : D) (e : Slots) : rPar i j [x, y] e = if i < e.length ∧ j < e.length then .ok .nx ((e.set i (some (.dat x))).set j (some (.dat y))) else .stuck := rfl
@[simp] theorem sPar_ap (i j : Nat) (g : EM (List D)) (e : Slots) : sPar i j g e = (g e).bind fun ds e => rPar i j ds e := rfl
/-! classes -/
def rFldS (c i : Nat) (f : Str) (e : Slots) (o : Option (Option SV)) (x : Option FV) : RE Fl := match o, x with
  | some (some (.own (.ins c' gs))), some x => if c' = c ∧ gs.length < 1000 then .ok .nx (e.set i (some (.own (.ins c (putFV f x gs))))) else .stuck
  | _, _ => .stuck
@[simp] theorem rFldS_o (c i c' : Nat) (f : Str) (e : Slots) (gs : List (Str × FV)) (x : FV) : rFldS c i f e (some (some (.own (.ins c' gs)))) (some x) = if c' = c ∧ gs.length < 1000 then .ok .nx (e.set i (some (.own (.ins c (putFV f x gs))))) else .stuck := rfl
@[simp] theorem toFV_d (d : D) : toFV (.dat d) = some (.dat d) := rfl
@[simp] theorem toFV_l (l : Lf) : toFV (.own (.lf l)) = some (.own l) := rfl
@[simp] theorem sFldS_ap (c i : Nat) (f : Str) (g : EM SV) (e : Slots) : sFldS c i f g e = (g e).bind fun sv e => rFldS c i f e e[i]? (toFV sv) := rfl
end DL

/-! DL20: operations, run -/
namespace DL
open PySem L2
@[simp] theorem opLt_i (i j : Int) : opLt (.int i) (.int j) = some (.bl (decide (i < j))) := rfl
@[simp] theorem opLe_i (i j : Int) : opLe (.int i) (.int j) = some (.bl (decide (i ≤ j))) := rfl
@[simp] theorem opGt_i (i j : Int) : opGt (.int i) (.int j) = some (.bl (decide (j < i))) := rfl
@[simp] theorem opGe_i (i j : Int) : opGe (.int i) (.int j) = some (.bl (decide (j ≤ i))) := rfl
@[simp] theorem opAdd_i (i j : Int) : opAdd (.int i) (.int j) = some (.int (i + j)) := rfl
@[simp] theorem opIAdd_i (i j : Int) : opIAdd (.int i) (.int j) = some (.int (i + j)) := rfl
@[simp] theorem opSub_i (i j : Int) : opSub (.int i) (.int j) = some (.int (i - j)) := rfl
@[simp] theorem opMul_i (i j : Int) : opMul (.int i) (.int j) = if mulOk i j then some (.int (i * j)) else none := rfl
theorem log2_lt_9000 {n : Nat} (h : n < 10 ^ 100) : n.log2 < 9000 := by
  by_cases z : n = 0
  · subst z; decide +kernel
  · have h2 : n < 2 ^ 400 := Nat.lt_of_lt_of_le h (by decide +kernel)
    have := (Nat.log2_lt z).mpr h2
    omega
@[simp] theorem opFdiv_i (i j : Int) (h : 0 < j) (h2 : j < 10 ^ 100) : opFdiv (.int i) (.int j) = some (.int (i / j)) := by
  show (if 0 < j ∧ j.natAbs.log2 < 9000 then _ else _) = _
  rw [if_pos ⟨h, log2_lt_9000 (by omega)⟩]
@[simp] theorem opMod_i (i j : Int) (h : 0 < j) : opMod (.int i) (.int j) = some (.int (i % j)) := by
  show (if 0 < j then _ else _) = _
  rw [if_pos h]
@[simp] theorem opPow_i (i j : Int) : opPow (.int i) (.int j) = if 0 ≤ j ∧ j ≤ 1000000 ∧ i.natAbs < 2 ^ 64 then some (.int (i ^ j.toNat)) else none := rfl
@[simp] theorem opDivmod_i (i j : Int) (h : 0 < j) (h2 : j < 10 ^ 100) : opDivmod [.int i, .int j] = some (.tup [.int (i / j), .int (i % j)]) := by
  show (if 0 < j ∧ j.natAbs.log2 < 9000 then _ else _) = _
  rw [if_pos ⟨h, log2_lt_9000 (by omega)⟩]
theorem dec_beq {α : Type} [DecidableEq α] (a b : α) : (a == b) = decide (a = b) := by
  by_cases h : a = b <;> simp [h]
@[simp] theorem opEq_i (i j : Int) : opEq (.int i) (.int j) = some (.bl (decide (i = j))) := by
  simp [opEq, eqOk, D.pyOk, D.py, SeqAt.shaped, PyData.eqv, PyData.canLay0, PyData.depth, dec_beq]
@[simp] theorem opNe_i (i j : Int) : opNe (.int i) (.int j) = some (.bl (!decide (i = j))) := by
  simp [opNe, eqOk, D.pyOk, D.py, SeqAt.shaped, PyData.eqv, PyData.canLay0, PyData.depth, dec_beq]
theorem ofS_inj (a b : String) : (Str.ofString a = Str.ofString b) = (a = b) := by
  rw [Str.ofString_eq_toList, Str.ofString_eq_toList]
  simp only [Str.mk.injEq, eq_iff_iff]
  constructor
  · intro h
    have h := congrArg Array.toList h
    simp only at h
    apply String.toList_inj.mp
    exact List.map_inj_right (fun x y e => Char.toNat_inj.mp e) |>.mp h
  · rintro rfl; rfl
theorem strOk_ofS (a : String) : PyData.strOk (Str.ofString a) = true := by
  rw [Str.ofString_eq_toList]
  unfold PyData.strOk
  rw [List.all_toArray, List.all_eq_true]
  intro x hx
  obtain ⟨c, _, rfl⟩ := List.mem_map.mp hx
  rw [decide_eq_true_eq]
  rcases c.valid with h | h
  · show c.val.toNat < _
    omega
  · exact h.2
@[simp] theorem opEq_s (a b : String) : opEq (.str (Str.ofString a)) (.str (Str.ofString b)) = some (.bl (decide (a = b))) := by
  simp [opEq, eqOk, D.pyOk, D.py, SeqAt.shaped, PyData.eqv, PyData.canLay0, PyData.depth, dec_beq, ofS_inj, strOk_ofS]
@[simp] theorem opIsN_n : opIsN .non .non = some (.bl true) := rfl
@[simp] theorem opIsN_i (i : Int) : opIsN (.int i) .non = some (.bl false) := rfl
@[simp] theorem opIsN_t (i : List D) : opIsN (.tup i) .non = some (.bl false) := rfl
@[simp] theorem opNotN_n : opNotN .non .non = some (.bl false) := rfl
@[simp] theorem opNotN_i (i : Int) : opNotN (.int i) .non = some (.bl true) := rfl
@[simp] theorem opNotN_t (i : List D) : opNotN (.tup i) .non = some (.bl true) := rfl
@[simp] theorem opIx_l (ds : List D) (i : Int) : opIx (.lst ds) (.int i) = atI ds i := rfl
@[simp] theorem opIx_t (ds : List D) (i : Int) : opIx (.tup ds) (.int i) = atI ds i := rfl
@[simp] theorem opGet_d (ds : List (Key × D)) (k : D) : opGet (.dct ds) k = (keyOf k).bind (getK ds) := rfl
theorem atI_nat {α : Type} (ds : List α) (n : Nat) : atI ds (n : Int) = ds[n]? := by
  unfold atI ixN
  by_cases h : n < ds.length
  · simp [h]
  · simp [h]
@[simp] theorem atI_0 {α : Type} (ds : List α) : atI ds 0 = ds[0]? := atI_nat ds 0
@[simp] theorem atI_1 {α : Type} (ds : List α) : atI ds 1 = ds[1]? := atI_nat ds 1
@[simp] theorem atI_2 {α : Type} (ds : List α) : atI ds 2 = ds[2]? := atI_nat ds 2
@[simp] theorem atI_3 {α : Type} (ds : List α) : atI ds 3 = ds[3]? := atI_nat ds 3
@[simp] theorem atI_4 {α : Type} (ds : List α) : atI ds 4 = ds[4]? := atI_nat ds 4
@[simp] theorem atI_neg1 {α : Type} (ds : List α) (h : ds ≠ []) : atI ds (-1) = ds[ds.length - 1]? := by
  have : 0 < ds.length := List.length_pos_iff.mpr h
  unfold atI ixN
  rw [if_neg (by decide)]
  have h1 : -(ds.length : Int) ≤ -1 := by omega
  have h2 : (-1 + (ds.length : Int)).toNat = ds.length - 1 := by omega
  simp [h1, h2]
@[simp] theorem unNeg_i (i : Int) : unNeg (.int i) = some (.int (-i)) := rfl
@[simp] theorem opLen_l (ds : List D) : opLen [.lst ds] = some (.int ds.length) := rfl
@[simp] theorem opLen_t (ds : List D) : opLen [.tup ds] = some (.int ds.length) := rfl
@[simp] theorem opLen_c (ds : List Int) : opLen [.scr ds] = some (.int ds.length) := rfl
@[simp] theorem opInt_b (b : Bool) : opInt [.bl b] = some (.int (if b then 1 else 0)) := rfl
@[simp] theorem opInt_i (b : Int) : opInt [.int b] = some (.int b) := rfl
@[simp] theorem opMax_2 (i j : Int) : opMax [.int i, .int j] = some (.int (max i j)) := rfl
@[simp] theorem opSum_l (ds : List D) : opSum [.lst ds] = (intsOf ds).map fun ns => .int ns.sum := rfl
@[simp] theorem opSortU_l (ds : List D) : opSortU (.lst ds) = (intsOf ds).bind fun ns => if ns.length < 64 then some (.lst ((sortU ns).map D.int)) else none := rfl
@[simp] theorem intsOf_nil : intsOf [] = some [] := rfl
@[simp] theorem intsOf_cons (i : Int) (r : List D) : intsOf (.int i :: r) = (intsOf r).map (i :: ·) := rfl
@[simp] theorem sortU_nil : sortU [] = [] := rfl
@[simp] theorem getK_nil {κ' : Type} [DecidableEq κ'] (k : κ') : getK ([] : List (κ' × D)) k = none := rfl
@[simp] theorem getK_cons {κ' : Type} [DecidableEq κ'] (k x : κ') (d : D) (r : List (κ' × D)) : getK ((x, d) :: r) k = if x = k then some d else getK r k := by
  unfold getK
  rw [List.find?_cons]
  by_cases h : x = k <;> simp [h]
@[simp] theorem lenOk (n : Nat) (h : n ≤ 1000) : (n ≤ sizeLine) = True := by
  have := sizeLine_eq
  simp; omega
@[simp] theorem lenOk' (n : Nat) (h : n ≤ 1000) : (n < sizeLine) = True := by
  have := sizeLine_eq
  simp; omega
@[simp] theorem opInS_l (x : D) (ds : List D) : opInS x (.lst ds) = if eqOk x (.lst ds) then some (.bl (ds.any fun z => PyData.eqv z.py x.py)) else none := rfl
@[simp] theorem smallI_iff (i : Int) : smallI i = (-(2 ^ 62) ≤ i ∧ i < 2 ^ 62) := rfl
@[simp] theorem tupOf_ap (ds : List D) : tupOf ds = if ds.length ≤ sizeLine then some (.tup ds) else none := rfl
@[simp] theorem lstOf_ap (ds : List D) : lstOf ds = if ds.length ≤ sizeLine then some (.lst ds) else none := rfl
@[simp] theorem opFld_o (c c' : Nat) (f : Str) (gs : List (Str × D)) : opFld c f (.obj c' gs) = if c' = c then gs.lookup f else none := rfl
@[simp] theorem dNot_b (b : Bool) : dNot (.bl b) = some (.bl (!b)) := rfl
end DL
namespace DL
open PySem L2
/-! classes, run -/
def rNewE (avs : List AV) (e1 : Slots) (r : RE SV) : RE SV := match r with
  | .ok (.dat .non) (some m :: outs) => match putA avs outs e1 with
    | some env2 => .ok m env2
    | none => .stuck
  | .exc e (_ :: outs) => match putA avs outs e1 with
    | some env2 => .exc e env2
    | none => .stuck
  | _ => .stuck
@[simp] theorem rNewE_ok (avs : List AV) (e1 : Slots) (m : SV) (o : Slots) : rNewE avs e1 (.ok (.dat .non) (some m :: o)) = rPut m (putA avs o e1) := by
  rfl
def rNew (c : Nat) (Φ : List SV → RE SV) (avs : List AV) (o : Option (List SV × Slots)) : RE SV := match o with
  | none => .stuck
  | some (args, e1) => rNewE avs e1 (Φ (.own (.ins c []) :: args))
@[simp] theorem rNew_some (c : Nat) (Φ : List SV → RE SV) (avs : List AV) (args : List SV) (e1 : Slots) : rNew c Φ avs (some (args, e1)) = rNewE avs e1 (Φ (.own (.ins c []) :: args)) := rfl
@[simp] theorem newD_ap (c : Nat) (Φ : List SV → RE SV) (ars : List AR) (e : Slots) : newD c Φ ars e = (evA ars e).bind fun avs e => rNew c Φ avs (takeA avs e) := by
  unfold newD newEnd rNew rNewE
  show RE.bind _ _ = RE.bind _ _
  congr 1
def rMeth (c : Nat) (m : Str) (i : Nat) (Φ : List SV → RE SV) (ars : List AR) (e : Slots) (o : Option (Option SV)) : RE SV := match o with
  | some (some (.own (.ins c' gs))) => if c' = c ∧ gs.lookup m = none then callD Φ (.var i :: ars) e else .stuck
  | some (some (.dat (.obj c' gs))) => if c' = c ∧ gs.lookup m = none then callD Φ (.dat (eC (.obj c' gs)) :: ars) e else .stuck
  | _ => .stuck
@[simp] theorem rMeth_d (c : Nat) (m : Str) (i : Nat) (Φ : List SV → RE SV) (ars : List AR) (e : Slots) (c' : Nat) (gs : List (Str × D)) : rMeth c m i Φ ars e (some (some (.dat (.obj c' gs)))) = if c' = c ∧ gs.lookup m = none then callD Φ (.dat (eC (.obj c' gs)) :: ars) e else .stuck := rfl
@[simp] theorem rMeth_o (c : Nat) (m : Str) (i : Nat) (Φ : List SV → RE SV) (ars : List AR) (e : Slots) (c' : Nat) (gs : List (Str × FV)) : rMeth c m i Φ ars e (some (some (.own (.ins c' gs)))) = if c' = c ∧ gs.lookup m = none then callD Φ (.var i :: ars) e else .stuck := rfl
@[simp] theorem methV_ap (c : Nat) (m : Str) (i : Nat) (Φ : List SV → RE SV) (ars : List AR) (e : Slots) : methV c m i Φ ars e = rMeth c m i Φ ars e e[i]? := rfl
def rMethE (c : Nat) (m : Str) (Φ : List SV → RE SV) (ars : List AR) (d : D) : EM SV := match d with
  | .obj c' gs => if c' = c ∧ gs.lookup m = none then callD Φ (.dat (eC d) :: ars) else fun _ => .stuck
  | _ => fun _ => .stuck
@[simp] theorem rMethE_o (c : Nat) (m : Str) (Φ : List SV → RE SV) (ars : List AR) (c' : Nat) (gs : List (Str × D)) (e : Slots) : rMethE c m Φ ars (.obj c' gs) e = if c' = c ∧ gs.lookup m = none then callD Φ (.dat (eC (.obj c' gs)) :: ars) e else .stuck := by
  unfold rMethE
  simp only []
  split <;> rfl
@[simp] theorem methE_ap (c : Nat) (m : Str) (f : EM D) (Φ : List SV → RE SV) (ars : List AR) (e : Slots) : methE c m f Φ ars e = (f e).bind (rMethE c m Φ ars) := rfl
@[simp] theorem view_ins (c : Nat) (fs : List (Str × FV)) : (MO.ins c fs).view = .obj c (fs.map fun p => (p.1, p.2.view)) := rfl
@[simp] theorem view_fd (d : D) : (FV.dat d).view = d := rfl
@[simp] theorem view_fo (l : Lf) : (FV.own l).view = l.view := rfl
@[simp] theorem putFV_nil (f : Str) (v : FV) : putFV f v [] = [(f, v)] := rfl
@[simp] theorem putFV_cons (f g : Str) (v x : FV) (r : List (Str × FV)) : putFV f v ((g, x) :: r) = if g = f then (g, v) :: r else (g, x) :: putFV f v r := rfl
@[simp] theorem setF_nil (f : Str) (v : FV) : setF f v [] = [] := rfl
@[simp] theorem setF_cons (f g : Str) (v x : FV) (r : List (Str × FV)) : setF f v ((g, x) :: r) = if f = g then (g, v) :: r else (g, x) :: setF f v r := rfl
theorem look_cons {β : Type} (f g : Str) (v : β) (r : List (Str × β)) : List.lookup f ((g, v) :: r) = if f = g then some v else List.lookup f r := by
  rw [List.lookup_cons]
  by_cases h : f = g
  · simp [h]
  · simp [h, beq_eq_false_iff_ne.mpr h]
def rSelf (c : Nat) (f : Str) (e : Slots) (o : Option (Option SV)) : RE D := match o with
  | some (some (.own (.ins c' gs))) => if c' = c then lift ((gs.lookup f).bind FV.dat?) e else .stuck
  | some (some (.dat (.obj c' gs))) => if c' = c then lift (gs.lookup f) e else .stuck
  | _ => .stuck
def rSelfIx (c : Nat) (f : Str) (e : Slots) (x : Option D) (o : Option (Option SV)) : RE D := match o with
  | some (some (.own (.ins c' gs))) => if c' = c then (match gs.lookup f with
    | some (.own (.lst ds)) => (lift (x.bind fun d => (Lf.lst ds).at_ d)) e
    | some (.dat d) => (lift (x.bind fun y => opIx d y)) e
    | _ => .stuck) else .stuck
  | _ => .stuck
@[simp] theorem rSelf_o (c : Nat) (f : Str) (e : Slots) (c' : Nat) (gs : List (Str × FV)) : rSelf c f e (some (some (.own (.ins c' gs)))) = if c' = c then lift ((gs.lookup f).bind FV.dat?) e else .stuck := rfl
@[simp] theorem rSelf_d (c : Nat) (f : Str) (e : Slots) (c' : Nat) (gs : List (Str × D)) : rSelf c f e (some (some (.dat (.obj c' gs)))) = if c' = c then lift (gs.lookup f) e else .stuck := rfl
@[simp] theorem eSelf_ap (c i : Nat) (f : Str) (e : Slots) : eSelf c i f e = rSelf c f e e[i]? := by
  unfold eSelf rSelf
  split <;> simp_all
@[simp] theorem dat_d (d : D) : FV.dat? (.dat d) = some d := rfl
def rSelfF (f : Str) (e : Slots) (x : Option D) (o : Option FV) : RE D := match o with
  | some (.own (.lst ds)) => (lift (x.bind fun d => (Lf.lst ds).at_ d)) e
  | some (.dat d) => (lift (x.bind fun y => opIx d y)) e
  | _ => .stuck
@[simp] theorem rSelfF_o (f : Str) (e : Slots) (d : D) (ds : List D) : rSelfF f e (some d) (some (.own (.lst ds))) = lift ((Lf.lst ds).at_ d) e := rfl
@[simp] theorem rSelfF_d (f : Str) (e : Slots) (d y : D) : rSelfF f e (some y) (some (.dat d)) = lift (opIx d y) e := rfl
@[simp] theorem rSelfIx_o (c : Nat) (f : Str) (e : Slots) (x : Option D) (c' : Nat) (gs : List (Str × FV)) : rSelfIx c f e x (some (some (.own (.ins c' gs)))) = if c' = c then rSelfF f e x (gs.lookup f) else .stuck := rfl
def rAppF (c i : Nat) (f : Str) (g : EM D) (e : Slots) (o : Option (Option SV)) : RE Fl := match o with
  | some (some (.own (.ins c' gs))) => match gs.lookup f with
    | some (.own (.lst ds)) => if c' = c ∧ ds.length < sizeLine then (match g (e.set i none) with
      | .ok d env1 => (match env1[i]? with
        | some none => .ok .nx (env1.set i (some (.own (.ins c (setF f (.own (.lst (ds ++ [d]))) gs)))))
        | _ => .stuck)
      | _ => .stuck) else .stuck
    | _ => .stuck
  | _ => .stuck
def rAppG (c i : Nat) (f : Str) (ds : List D) (gs : List (Str × FV)) (r : RE D) : RE Fl := match r with
  | .ok d env1 => (match env1[i]? with
    | some none => .ok .nx (env1.set i (some (.own (.ins c (setF f (.own (.lst (ds ++ [d]))) gs)))))
    | _ => .stuck)
  | _ => .stuck
def rAppH (c i : Nat) (f : Str) (g : EM D) (e : Slots) (c' : Nat) (gs : List (Str × FV)) (o : Option FV) : RE Fl := match o with
  | some (.own (.lst ds)) => if c' = c ∧ ds.length < sizeLine then rAppG c i f ds gs (g (e.set i none)) else .stuck
  | _ => .stuck
@[simp] theorem rAppH_o (c i : Nat) (f : Str) (g : EM D) (e : Slots) (c' : Nat) (gs : List (Str × FV)) (ds : List D) : rAppH c i f g e c' gs (some (.own (.lst ds))) = if c' = c ∧ ds.length < sizeLine then rAppG c i f ds gs (g (e.set i none)) else .stuck := rfl
def rAppI (c i : Nat) (f : Str) (ds : List D) (gs : List (Str × FV)) (d : D) (e : Slots) (o : Option (Option SV)) : RE Fl := match o with
  | some none => .ok .nx (e.set i (some (.own (.ins c (setF f (.own (.lst (ds ++ [d]))) gs)))))
  | _ => .stuck
@[simp] theorem rAppG_ok (c i : Nat) (f : Str) (ds : List D) (gs : List (Str × FV)) (d : D) (e : Slots) : rAppG c i f ds gs (.ok d e) = rAppI c i f ds gs d e e[i]? := rfl
@[simp] theorem rAppI_n (c i : Nat) (f : Str) (ds : List D) (gs : List (Str × FV)) (d : D) (e : Slots) : rAppI c i f ds gs d e (some none) = .ok .nx (e.set i (some (.own (.ins c (setF f (.own (.lst (ds ++ [d]))) gs))))) := rfl
@[simp] theorem rAppF_o (c i : Nat) (f : Str) (g : EM D) (e : Slots) (c' : Nat) (gs : List (Str × FV)) : rAppF c i f g e (some (some (.own (.ins c' gs)))) = rAppH c i f g e c' gs (gs.lookup f) := by
  unfold rAppF rAppH rAppG
  rfl
@[simp] theorem sAppF_ap (c i : Nat) (f : Str) (g : EM D) (e : Slots) : sAppF c i f g e = rAppF c i f g e e[i]? := by
  unfold sAppF rAppF
  split <;> simp_all
  all_goals rfl
@[simp] theorem takeA_var (i : Nat) (r : List AV) (e : Slots) (x : SV) (h : e[i]? = some (some x)) : takeA (.var i :: r) e = (takeA r (e.set i none)).map fun p => (x :: p.1, p.2) := by
  simp only [takeA, h]
@[simp] theorem putA_varS (i : Nat) (r : List AV) (x : SV) (o e : Slots) (h : e[i]? = some none) : putA (.var i :: r) (some x :: o) e = putA r o (e.set i (some x)) := by
  simp only [putA, h]
@[simp] theorem putA_varN (i : Nat) (r : List AV) (o e : Slots) : putA (.var i :: r) (none :: o) e = putA r o e := rfl
def rVA (i : Nat) (r : List AR) (e : Slots) (o : Option (Option SV)) : RE (List AV) := match o with
  | some (some _) => (evA r e).bind fun as => EM.pure (.var i :: as)
  | _ => .stuck
@[simp] theorem rVA_s (i : Nat) (r : List AR) (e : Slots) (x : SV) : rVA i r e (some (some x)) = (evA r e).bind fun as => EM.pure (.var i :: as) := rfl
@[simp] theorem evA_var (i : Nat) (r : List AR) (e : Slots) : evA (.var i :: r) e = rVA i r e e[i]? := rfl
@[simp] theorem eSelfIx_ap (c i : Nat) (f : Str) (g : EM D) (e : Slots) : eSelfIx c i f g e = rSelfIx c f e (qD g e) e[i]? := rfl
end DL
namespace DL
open PySem L2
def rWhL (c : EM Bool) (b : SM) (n : Nat) (r : RE Fl) : RE Fl := match r with
  | .ok .nx e => whileD c b n e
  | .ok .ct e => whileD c b n e
  | .ok .bk e => .ok .nx e
  | r => r
@[simp] theorem rWhL_nx (c : EM Bool) (b : SM) (n : Nat) (e : Slots) : rWhL c b n (.ok .nx e) = whileD c b n e := rfl
@[simp] theorem rWhL_rt (c : EM Bool) (b : SM) (n : Nat) (v : SV) (e : Slots) : rWhL c b n (.ok (.rt v) e) = .ok (.rt v) e := rfl
@[simp] theorem rWhL_ite (c : EM Bool) (b : SM) (n : Nat) {p : Prop} [Decidable p] (x y : RE Fl) : rWhL c b n (if p then x else y) = if p then rWhL c b n x else rWhL c b n y := by split <;> rfl
def rWh (c : EM Bool) (b : SM) (n : Nat) (t : Bool) : SM := fun e => if t = true then rWhL c b n (b e) else .ok .nx e
@[simp] theorem rWh_ap (c : EM Bool) (b : SM) (n : Nat) (t : Bool) (e : Slots) : rWh c b n t e = if t = true then rWhL c b n (b e) else .ok .nx e := rfl
theorem while_ap (c : EM Bool) (b : SM) (n : Nat) (e : Slots) : whileD c b (n + 1) e = (c e).bind (rWh c b n) := by
  show RE.bind _ _ = RE.bind _ _
  congr 1
  funext t e'
  cases t with
  | true =>
    show (match b e' with | .ok .nx e => _ | .ok .ct e => _ | .ok .bk e => _ | r => _) = _
    unfold rWh rWhL
    rfl
  | false => rfl
end DL

/-! DL21: fields that are dicts and lists, written; bits; defaults -/
namespace DL
open PySem L2
section
variable {X : Cx} {κ : Nat → Addr} {W : WX} {P : List Nat} {e a b : PySem.Expr} {pos : Pos}
/-- self.f[g] = e, an own dict -/
theorem d_setDF {c i : Nat} {f x : Str} {g h : EM D} {p1 p2 spos : Pos} (hu : X.A.units + 1 < cLine) (hc : Cls X.K (κ c)) (hn : NoAttr X.K (κ c) f) (he : PE X e (teD X.K κ W h)) (hg : PE X b (teD X.K κ W g)) (hN : X.N[i]? = some x := by rfl) (hv : Vis X.env.scope x := by first | exact Or.inl rfl | exact Or.inr (Or.inl rfl) | exact Or.inr (Or.inr rfl)) (hd : (x == ("__debug__" : Str)) = false := by decide) (hcd : (x == ("__classdict__" : Str)) = false := by decide)
    (hb : attributeBase (.Name x p1) f X.env (eval (.Name x p1) X.env) = eval (.Name x p1) X.env := by rfl)
    (hs : swapsWith e (some (.Subscript (.Attribute (.Name x p1) f p2) b spos)) pos.line X.env = pure false := by rfl) :
    PS X (.Assign [.Subscript (.Attribute (.Name x p1) f p2) b spos] e pos) (tsD X.K κ W P (sSetDF c i f g h)) := by
  refine ps_imp (ps_dput hu (pe_fld (pe_var hN hv hd hcd) hb) hg he hs) fun Dn σ H h' => ?_
  obtain ⟨I, F, env, k, p⟩ := h'
  refine ⟨I, F, env, k, Post.mono (p.ex (R := RD X.K κ)) ?_⟩
  rintro y H1 ⟨I1, env1, d, nfp, s1, k1, ⟨r1, rfl⟩, p1⟩
  split at p1
  · rename_i c' gs ky q1 q2
    cases hq : qD g env1 with
    | none => rw [hq] at q2; cases q2
    | some dk =>
      rw [hq] at q2
      split at p1
      · rename_i hc'
        subst hc'
        split at p1
        · rename_i ds hl
          split at p1
          · rename_i hz
            obtain ⟨v, f1, h1, h2⟩ := k1.at_ q1
            cases h2 with
            | own h2 =>
            cases h2 with
            | ins hh of =>
            rename_i a0 dx0 vs0 fpo
            obtain ⟨v0, g1, l0, o0, og⟩ := of.lookup hl
            cases o0 with
            | own o0 =>
            cases o0 with
            | dct hL rL =>
            rename_i al vsl
            refine ⟨_, h1, _, _, _, _, _, rfl, hh, hc, hn, l0, teQ (te := teD X.K κ W g) (fun _ _ _ h => h) k1 hq fun fp H' y' e1 e1' r k2 kp ry => ?_⟩
            have hky := keyOf_kV ry (by simpa using q2)
            subst hky
            obtain ⟨v2, f2, g2, h3, hf2⟩ := e1.at_ q1
            rw [h1] at g2
            cases g2
            cases h3 with
            | own h3 =>
            cases h3 with
            | ins hh3 of3 =>
            rw [hh] at hh3
            cases hh3
            obtain ⟨v4, g4, l4, o4, og4⟩ := of3.lookup hl
            rw [l0] at l4
            cases l4
            cases o4 with
            | own o4 =>
            cases o4 with
            | dct hL4 rL4 =>
            have m1 : H' a0 = some (.ins (κ c') dx0 vs0) := (kp _ (hf2 _ (by simp))).trans hh
            have m2 : H' al = some (.dK vsl) := (kp _ (hf2 _ (List.mem_cons_of_mem _ (og4 _ (by simp))))).trans hL
            refine ⟨_, _, rfl, DPut.k m2 (by rw [rL.length]; exact hz), ?_⟩
            exact p1.nx (k2.updF (l' := .dct (setK ds ky d)) q1 h1 m1 hl l0 (.dct upd_same (rL.put r1))) (Step.refl F I1) (Pin.refl P σ)
          · exact p1.elim
        · exact p1.elim
      · exact p1.elim
  · exact p1.elim
/-! ### defaults left out: all of them numbers -/
def noFld : List AV → Bool
  | [] => true
  | .fld _ _ :: _ => false
  | _ :: r => noFld r
def callDf (Φ : List SV → RE SV) (ars : List AR) (ds : List Int) : EM SV := (evA ars).bind fun avs env => if noFld avs = true then (match takeA (avs ++ ds.map fun i => .dat (.int i)) env with
  | none => .stuck
  | some (args, env1) => match Φ args with
    | .ok sv outs => match putA (avs ++ ds.map fun i => .dat (.int i)) outs env1 with
      | some env2 => .ok sv env2
      | none => .stuck
    | .exc e outs => match putA (avs ++ ds.map fun i => .dat (.int i)) outs env1 with
      | some env2 => .exc e env2
      | none => .stuck
    | .stuck => .stuck) else .stuck
theorem AvR.app {K : PySem.W.Frag} {I H : Hp} {σ : L2.St} {ds : List Int} : ∀ {vs : List V} {as : List AV}, AvR K κ I H σ vs as → noFld as = true → AvR K κ I H σ (vs ++ ds.map V.int) (as ++ ds.map fun i => .dat (.int i))
  | _, _, .nil, _ => by
    induction ds with
    | nil => exact .nil
    | cons d ds ih => exact .dat (.int d) ih
  | _, _, .dat r h, n => .dat r (h.app (by simpa [noFld] using n))
  | _, _, .var r h, n => .var r (h.app (by simpa [noFld] using n))
  | _, _, .fld _ _ _, n => by simp [noFld] at n
theorem de_callDf {es : List PySem.Expr} {Φ : List SV → RE SV} {ars : List AR} {is : List Int} {ds : List Value} {k : Nat} {f : Addr} {fd : FuncData} {ps : List Str} {x : Str} {p : Pos} (G : FnD X κ k f fd ps Φ) (hr : Room k X.A) (hm : X.mg x = some (.ref f)) (hk : PySem.W.keepIn X.K (.ref f) = true) (hb : Binds X.K fd ps ds) (hdv : Vals (is.map V.int) ds) (tk : Takes X W)
    (ha : PA X (e :: es) (taV X.K κ W ars)) (hg : Gl X x := by rfl) (hdb : (x == ("__debug__" : Str)) = false := by decide) (he : starEach (e :: es) X.env = (false, eval e X.env) :: starEach es X.env := by rfl) (hpl : (backTo pos (starEach es X.env)).any (·.1) = false := by rfl) : PE X (.Call (.Name x p) (e :: es) [] pos) (teS X.K κ W (callDf Φ ars is)) := by
  refine pe_imp (pe_callSD G hr hg hm hk hb hdv (fun σ => passAt tk σ) ha hdb he hpl) fun σ H Q h => ?_
  obtain ⟨I, F, env, k, p⟩ := h
  refine ⟨I, F, env, k, Post.mono (Post.bind (R := RAV X.K κ σ) p) ?_⟩
  rintro vs H1 ⟨I1, env1, avs, nfp, s1, k1, ⟨ra, rfl⟩, p1⟩
  split at p1
  · rename_i hn
    exact call_end k1 (ra.app hn) p1 fun _ _ _ h => h
  · exact p1.elim
/-! ### bits, sorted(dict) -/
def opShr : D → D → Option D
  | .int i, .int j => if 0 ≤ j ∧ j < 1000 then some (.int (i / 2 ^ j.toNat)) else none
  | _, _ => none
def opAndB : D → D → Option D
  | .int i, .int j => some (.int (Builtin.bitAnd i j))
  | _, _ => none
theorem od_shr : OpD X κ (binaryOp .RShift) opShr := by
  refine ⟨_, op_shr, fun σ I F H env x y dx dy d Q k rx ry e q => ?_⟩
  cases rx <;> cases ry <;> simp only [opShr] at e <;> try (cases e)
  split at e
  · rename_i h
    cases e
    exact ⟨_, _, rfl, rfl, h.1, q0 k q (.int _)⟩
  · cases e
theorem od_and : OpD X κ (binaryOp .BitAnd) opAndB := by
  refine ⟨_, op_and, fun σ I F H env x y dx dy d Q k rx ry e q => ?_⟩
  cases rx <;> cases ry <;> simp only [opAndB] at e <;> cases e
  exact ⟨_, _, rfl, rfl, q0 k q (.int _)⟩
def keyIs : List (Key × D) → Option (List Int)
  | [] => some []
  | (.inl i, _) :: r => (keyIs r).map (i :: ·)
  | _ => none
def opSortedD : List D → Option D
  | [.dct kvs] => (keyIs kvs).bind fun ks => if ks.length < 64 then some (.lst ((sortI ks).map D.int)) else none
  | _ => none
theorem keyIs_some {K : PySem.W.Frag} {I : Hp} : ∀ {vs : List (Key × V)} {kvs : List (Key × D)} {ks : List Int}, RpK K κ I vs kvs → keyIs kvs = some ks → vs.map (·.1) = ks.map Sum.inl
  | _, _, ks, .nil, h => by simp [keyIs] at h; subst h; rfl
  | _, _, ks, .cons (k := .inl i) hv r, h => by
    simp [keyIs] at h
    obtain ⟨a, h1, rfl⟩ := h
    simp [keyIs_some r h1]
  | _, _, ks, .cons (k := .inr i) hv r, h => by simp [keyIs] at h
theorem cd_sortedD (hc : X.calm = true) : CallD X κ (.builtin "sorted") opSortedD := by
  refine ⟨_, call_sortedDI hc, fun σ I F H env vs ds d Q k rs e q => ?_⟩
  unfold opSortedD at e
  split at e
  · obtain ⟨v, rfl, r⟩ := rs.one
    rename_i kvs
    cases h : keyIs kvs with
    | none => rw [h] at e; cases e
    | some ks =>
      rw [h] at e
      simp only [Option.bind] at e
      split at e
      · rename_i hl
        cases e
        cases r with
        | dct hI r =>
          refine ⟨_, _, ks, rfl, .inl (k.ext _ _ hI), keyIs_some r h, hl, fun ms p pm pw hp => ?_⟩
          have := sortI_unique pm pw
          subst this
          exact q1 k q (fun p I' s e => .lst e RpA.ints) p hp
      · cases e
  · cases e
end
end DL

/-! DL22: more mirrors, run -/
namespace DL
open PySem L2
@[simp] theorem noFld_nil : noFld [] = true := rfl
@[simp] theorem noFld_d (d : D) (r : List AV) : noFld (.dat d :: r) = noFld r := rfl
@[simp] theorem noFld_v (i : Nat) (r : List AV) : noFld (.var i :: r) = noFld r := rfl
def rCallF (Φ : List SV → RE SV) (ds : List Int) (avs : List AV) (e : Slots) : RE SV := if noFld avs = true then rCall Φ (avs ++ ds.map fun i => .dat (.int i)) (takeA (avs ++ ds.map fun i => .dat (.int i)) e) else .stuck
@[simp] theorem rCallF_ap (Φ : List SV → RE SV) (ds : List Int) (avs : List AV) (e : Slots) : rCallF Φ ds avs e = if noFld avs = true then rCall Φ (avs ++ ds.map fun i => .dat (.int i)) (takeA (avs ++ ds.map fun i => .dat (.int i)) e) else .stuck := rfl
@[simp] theorem callDf_ap (Φ : List SV → RE SV) (ars : List AR) (ds : List Int) (e : Slots) : callDf Φ ars ds e = (evA ars e).bind (rCallF Φ ds) := by
  unfold callDf rCallF rCall rEnd
  show RE.bind _ _ = RE.bind _ _
  congr 1
@[simp] theorem opShr_i (i j : Int) (h : 0 ≤ j) (h2 : j < 1000) : opShr (.int i) (.int j) = some (.int (i / 2 ^ j.toNat)) := by
  show (if 0 ≤ j ∧ j < 1000 then _ else _) = _
  rw [if_pos ⟨h, h2⟩]
@[simp] theorem opAndB_i (i j : Int) : opAndB (.int i) (.int j) = some (.int (Builtin.bitAnd i j)) := rfl
@[simp] theorem opSortedD_0 : opSortedD [.dct []] = some (.lst []) := by
  simp [opSortedD, keyIs, sortI]
@[simp] theorem opMul_l (x : List D) (k : Int) : opMul (.lst x) (.int k) = if k < 2 ^ 63 ∧ 0 ≤ k ∧ x.length * k.toNat ≤ sizeLine then some (.lst (List.replicate k.toNat x).flatten) else none := rfl
def rSetDF (c i : Nat) (f : Str) (d : D) (e : Slots) (o : Option (Option SV)) (k : Option Key) : RE Fl := match o, k with
  | some (some (.own (.ins c' gs))), some k => if c' = c then (match gs.lookup f with
    | some (.own (.dct ds)) => if ds.length < sizeLine then .ok .nx (e.set i (some (.own (.ins c (setF f (.own (.dct (setK ds k d))) gs))))) else .stuck
    | _ => .stuck) else .stuck
  | _, _ => .stuck
def rSetDG (c i : Nat) (f : Str) (d : D) (e : Slots) (gs : List (Str × FV)) (k : Key) (o : Option FV) : RE Fl := match o with
  | some (.own (.dct ds)) => if ds.length < sizeLine then .ok .nx (e.set i (some (.own (.ins c (setF f (.own (.dct (setK ds k d))) gs))))) else .stuck
  | _ => .stuck
@[simp] theorem rSetDG_o (c i : Nat) (f : Str) (d : D) (e : Slots) (gs : List (Str × FV)) (k : Key) (ds : List (Key × D)) : rSetDG c i f d e gs k (some (.own (.dct ds))) = if ds.length < sizeLine then .ok .nx (e.set i (some (.own (.ins c (setF f (.own (.dct (setK ds k d))) gs))))) else .stuck := rfl
@[simp] theorem rSetDF_o (c i c' : Nat) (f : Str) (d : D) (e : Slots) (gs : List (Str × FV)) (k : Key) : rSetDF c i f d e (some (some (.own (.ins c' gs)))) (some k) = if c' = c then rSetDG c i f d e gs k (gs.lookup f) else .stuck := rfl
@[simp] theorem sSetDF_ap (c i : Nat) (f : Str) (g h : EM D) (e : Slots) : sSetDF c i f g h e = (h e).bind fun d e => rSetDF c i f d e e[i]? ((qD g e).bind keyOf) := rfl
def rSetL (i : Nat) (d : D) (e : Slots) (o : Option (Option SV)) (x : Option D) : RE Fl := match o, x with
  | some (some (.own (.lf (.lst ds)))), some (.int ix) => match ixN ds.length ix with
    | some j => .ok .nx (e.set i (some (.own (.lf (.lst (ds.set j d))))))
    | none => .stuck
  | _, _ => .stuck
def rSetI (i : Nat) (d : D) (e : Slots) (ds : List D) (j : Option Nat) : RE Fl := match j with
  | some j => .ok .nx (e.set i (some (.own (.lf (.lst (ds.set j d))))))
  | none => .stuck
@[simp] theorem rSetI_s (i : Nat) (d : D) (e : Slots) (ds : List D) (j : Nat) : rSetI i d e ds (some j) = .ok .nx (e.set i (some (.own (.lf (.lst (ds.set j d)))))) := rfl
@[simp] theorem rSetL_o (i : Nat) (d : D) (e : Slots) (ds : List D) (ix : Int) : rSetL i d e (some (some (.own (.lf (.lst ds))))) (some (.int ix)) = rSetI i d e ds (ixN ds.length ix) := rfl
@[simp] theorem sSetL_ap (i : Nat) (g f : EM D) (e : Slots) : sSetL i g f e = (f e).bind fun d e => rSetL i d e e[i]? (qD g e) := rfl
@[simp] theorem ixN_lit (n : Nat) (i : Int) (h : 0 ≤ i) (h2 : i < n) : ixN n i = some i.toNat := by
  unfold ixN
  rw [if_pos h, if_pos h2]
@[simp] theorem opEq_nn : opEq .non .non = some (.bl true) := by
  simp [opEq, eqOk, D.pyOk, D.py, SeqAt.shaped, PyData.eqv, PyData.canLay0, PyData.depth]
@[simp] theorem opNe_in (i : Int) : opNe (.int i) .non = some (.bl true) := by
  simp [opNe, eqOk, D.pyOk, D.py, SeqAt.shaped, PyData.eqv, PyData.canLay0, PyData.depth]
@[simp] theorem opNe_ni (i : Int) : opNe .non (.int i) = some (.bl true) := by
  simp [opNe, eqOk, D.pyOk, D.py, SeqAt.shaped, PyData.eqv, PyData.canLay0, PyData.depth]
end DL

namespace DL.Law
open PySem L2 DL
noncomputable section
def b_look_at_beat : SM :=
  sIf (bOr (bVal (eBin opLt (eVar 0) (eC (.int 0)))) (bVal (eBin opGt (eVar 0) (eVar 1)))) (sNever) (sNx)
def m_look_at_beat : List SV → RE SV := fnD [false, false] 2 b_look_at_beat
def L_numbers_of_1 : SM :=
  sSetD 1 (eBin opIx (eVar 3) (eC (.int 0))) (eVar 2)
def b_numbers_of : SM :=
  sSeq (sAsg 1 (sDctN)) (
  sSeq (sFor (iEnumD (aCons (eVar 0) (aNil))) (gT [gN 2, gN 3]) (L_numbers_of_1)) (
  sRet (sDat (eVar 1))))
def m_numbers_of : List SV → RE SV := fnD [false] 4 b_numbers_of
def C_named_1 : EM D :=
  eBin opGet (eVar 1) (eVar 2)
def b_named : SM :=
  sSeq (sIf (bOr (bVal (eBin opEq (eBin opIx (eVar 0) (eC (.int 0))) (eC (.str "row")))) (bVal (eBin opEq (eBin opIx (eVar 0) (eC (.int 0))) (eC (.str "side"))))) (sRet (sDat (lcF (eLc [2] (iSeq (eBin opIx (eVar 0) (eC (.int 1)))) (gN 2) (bYes) (C_named_1))))) (sNx)) (
  sSeq (sIf (bVal (eBin opEq (eBin opIx (eVar 0) (eC (.int 0))) (eC (.str "again")))) (sRet (sDat (eLst (aCons (eBin opGet (eVar 1) (eBin opIx (eVar 0) (eC (.int 2)))) (aNil))))) (sNx)) (
  sRet (sDat (eLst (aNil)))))
def m_named : List SV → RE SV := fnD [false, false] 3 b_named
def L_moved_1 : SM :=
  sExt 6 (eOwnIx 3 (eVar 7))
def L_moved_2 : SM :=
  sSeq (sAsg 6 (sLst (aNil))) (
    sSeq (sIf (bVal (eBin opEq (eBin opIx (eVar 5) (eC (.int 0))) (eC (.str "raise")))) (sApp 6 (eBin opGet (eVar 1) (eBin opIx (eVar 5) (eC (.int 1))))) (sNx)) (
    sSeq (sFor (iSeq (asD (callD m_named [.dat (eVar 5), .dat (eVar 2)]))) (gN 7) (L_moved_1)) (
    sApp 3 (eUn opSortU (eVar 6)))))
def b_moved : SM :=
  sSeq (sAsg 1 (callD m_numbers_of [.dat (eBin opIx (eVar 0) (eC (.int 0)))])) (
  sSeq (sAsg 2 (callD m_numbers_of [.dat (eBin opIx (eVar 0) (eC (.int 1)))])) (
  sSeq (sAsg 3 (sLst (aNil))) (
  sSeq (sFor (iSeq (eBin opIx (eVar 0) (eC (.int 1)))) (gT [gN 4, gN 5]) (L_moved_2)) (
  sRet (sDat (eVar 3))))))
def m_moved : List SV → RE SV := fnD [false] 8 b_moved
def C_look_at_side_1 : EM D :=
  eVar 4
def Q_look_at_side_2 : EM Bool :=
  bVal (eBin opInS (eVar 3) (eVar 4))
def L_look_at_side_3 : SM :=
  sIf (bVal (eBin opGt (eCallB opLen (aCons (lcF (eLc [4] (iSeq (eVar 2)) (gN 4) (Q_look_at_side_2) (C_look_at_side_1))) (aNil))) (eC (.int 1)))) (sNever) (sNx)
def b_look_at_side : SM :=
  sSeq (sIf (bVal (eBin opInS (eLst (aNil)) (eVar 2))) (sNever) (sNx)) (
  sFor (iRange (aCons (eCallB opLen (aCons (eBin opIx (eVar 0) (eC (.int 0))) (aNil))) (aNil))) (gN 3) (L_look_at_side_3))
def m_look_at_side : List SV → RE SV := fnD [false, false, false] 5 b_look_at_side
def b_length_of : SM :=
  sSeq (sIf (bVal (eBin opEq (eBin opIx (eVar 0) (eC (.int 0))) (eC (.str "row")))) (sRet (sDat (eCallB opSum (aCons (eVar 1) (aNil))))) (sNx)) (
  sSeq (sIf (bVal (eBin opEq (eBin opIx (eVar 0) (eC (.int 0))) (eC (.str "side")))) (sRet (sDat (eCallB opMax (aCons (eVar 1) (aNil))))) (sNx)) (
  sSeq (sIf (bVal (eBin opEq (eBin opIx (eVar 0) (eC (.int 0))) (eC (.str "again")))) (sRet (sDat (eBin opMul (eBin opIx (eVar 0) (eC (.int 1))) (eBin opIx (eVar 1) (eC (.int 0)))))) (sNx)) (
  sRet (sDat (eBin opIx (eVar 0) (eUn unNeg (eC (.int 1))))))))
def m_length_of : List SV → RE SV := fnD [false, false] 2 b_length_of
def C_lengths_1 : EM D :=
  eBin opIx (eVar 2) (eVar 7)
def C_lengths_2 : EM D :=
  eOwnIx 3 (eVar 7)
def L_lengths_3 : SM :=
  sSeq (sAsg 6 (callD m_named [.dat (eBin opIx (eVar 5) (eC (.int 1))), .dat (eVar 1)])) (
    sSeq (sIf (bVal (eBin opEq (eBin opIx (eBin opIx (eVar 5) (eC (.int 1))) (eC (.int 0))) (eC (.str "side")))) (sDrop (asD (callD m_look_at_side [.dat (eVar 0), .dat (eVar 4), .dat (lcF (eLc [7] (iSeq (eVar 6)) (gN 7) (bYes) (C_lengths_1)))]))) (sNx)) (
    sSeq (sApp 3 (asD (callD m_length_of [.dat (eBin opIx (eVar 5) (eC (.int 1))), .dat (lcF (eLc [7] (iSeq (eVar 6)) (gN 7) (bYes) (C_lengths_2)))]))) (
    sIf (bVal (eBin opGt (eOwnIx 3 (eUn unNeg (eC (.int 1)))) (eC (.int 1000000000000000000000000000000000000000000000000000000000000)))) (sNever) (sNx))))
def b_lengths : SM :=
  sSeq (sAsg 1 (callD m_numbers_of [.dat (eBin opIx (eVar 0) (eC (.int 1)))])) (
  sSeq (sAsg 2 (callD m_moved [.dat (eVar 0)])) (
  sSeq (sAsg 3 (sLst (aNil))) (
  sSeq (sFor (iEnumD (aCons (eBin opIx (eVar 0) (eC (.int 1))) (aNil))) (gT [gN 4, gN 5]) (L_lengths_3)) (
  sRet (sDat (eVar 3))))))
def m_lengths : List SV → RE SV := fnD [false] 8 b_lengths
def L_Rings_part_rung_1 (Φ_Rings_part_rung : List SV → RE SV) : SM :=
  sSeq (sAug 5 opIAdd (asD (methV 0 "part_rung" 0 Φ_Rings_part_rung [.dat (eVar 6), .dat (eVar 2)]))) (
    sIf (bVal (eBin opEq (eBin opIx (eBin opIx (eUn (opFld 0 "forms") (eVar 0)) (eVar 1)) (eC (.int 0))) (eC (.str "row")))) (sAsg 2 (sDat (eCallB opMax (aCons (eC (.int 0)) (aCons (eBin opSub (eVar 2) (eBin opIx (eUn (opFld 0 "long") (eVar 0)) (eVar 6))) (aNil)))))) (sNx))
def b_Rings_part_rung (Φ_Rings_part_rung : List SV → RE SV) : SM :=
  sSeq (sIf (bOr (bVal (eBin opGe (eVar 2) (eBin opIx (eUn (opFld 0 "long") (eVar 0)) (eVar 1)))) (bOr (bVal (eBin opEq (eVar 2) (eC (.int 0)))) (bVal (eBin opEq (eBin opIx (eUn (opFld 0 "counts") (eVar 0)) (eVar 1)) (eC (.int 0)))))) (sRet (sDat (eBin opMul (eBin opIx (eUn (opFld 0 "counts") (eVar 0)) (eVar 1)) (eCallB opInt (aCons (eBin opGt (eVar 2) (eC (.int 0))) (aNil)))))) (sNx)) (
  sSeq (sIf (bVal (eBin opEq (eBin opIx (eBin opIx (eUn (opFld 0 "forms") (eVar 0)) (eVar 1)) (eC (.int 0))) (eC (.str "again")))) (sSeq (sAsgT (gT [gN 3, gN 4]) (eCallB opDivmod (aCons (eVar 2) (aCons (eBin opIx (eUn (opFld 0 "long") (eVar 0)) (eBin opIx (eBin opIx (eUn (opFld 0 "named") (eVar 0)) (eVar 1)) (eC (.int 0)))) (aNil))))) (
    sRet (sDat (eBin opAdd (eBin opMul (eVar 3) (eBin opIx (eUn (opFld 0 "counts") (eVar 0)) (eBin opIx (eBin opIx (eUn (opFld 0 "named") (eVar 0)) (eVar 1)) (eC (.int 0))))) (asD (methV 0 "part_rung" 0 Φ_Rings_part_rung [.dat (eBin opIx (eBin opIx (eUn (opFld 0 "named") (eVar 0)) (eVar 1)) (eC (.int 0))), .dat (eVar 4)])))))) (sNx)) (
  sSeq (sAsg 5 (sDat (eCallB opInt (aCons (eBin opEq (eBin opIx (eBin opIx (eUn (opFld 0 "forms") (eVar 0)) (eVar 1)) (eC (.int 0))) (eC (.str "ring"))) (aNil))))) (
  sSeq (sFor (iSeq (eBin opIx (eUn (opFld 0 "named") (eVar 0)) (eVar 1))) (gN 6) (L_Rings_part_rung_1 Φ_Rings_part_rung)) (
  sRet (sDat (eVar 5))))))
def m_Rings_part_rung : Nat → List SV → RE SV
  | 0 => fun _ => .stuck
  | n + 1 => fnD [false, false, false] 7 (b_Rings_part_rung (m_Rings_part_rung n))
def b_Rings_ahead : SM :=
  sRet (methV 0 "part_rung" 0 (m_Rings_part_rung 70) [.dat (eBin opSub (eCallB opLen (aCons (eUn (opFld 0 "forms") (eVar 0)) (aNil))) (eC (.int 1))), .dat (eVar 1)])
def m_Rings_ahead : List SV → RE SV := fnD [false, false] 2 b_Rings_ahead
def C_inner_parts_1 : EM D :=
  eOwnGet 1 (eVar 7)
def L_inner_parts_2 : SM :=
  sSeq (sAsg 5 (sDat (eBin opIx (eVar 4) (eC (.int 1))))) (
    sSeq (sAsg 6 (sDat (eLst (aNil)))) (
    sSeq (sIf (bOr (bVal (eBin opEq (eBin opIx (eVar 5) (eC (.int 0))) (eC (.str "row")))) (bVal (eBin opEq (eBin opIx (eVar 5) (eC (.int 0))) (eC (.str "side"))))) (sAsg 6 (lcO (eLc [7] (iSeq (eBin opIx (eVar 5) (eC (.int 1)))) (gN 7) (bYes) (C_inner_parts_1)))) (sNx)) (
    sSeq (sIf (bVal (eBin opEq (eBin opIx (eVar 5) (eC (.int 0))) (eC (.str "again")))) (sAsg 6 (sDat (eLst (aCons (eOwnGet 1 (eBin opIx (eVar 5) (eC (.int 2)))) (aNil))))) (sNx)) (
    sSeq (sApp 2 (eVar 6)) (
    sSetD 1 (eBin opIx (eVar 4) (eC (.int 0))) (eVar 3))))))
def b_inner_parts : SM :=
  sSeq (sAsg 1 (sDctN)) (
  sSeq (sAsg 2 (sLst (aNil))) (
  sSeq (sFor (iEnumD (aCons (eBin opIx (eVar 0) (eC (.int 1))) (aNil))) (gT [gN 3, gN 4]) (L_inner_parts_2)) (
  sRet (sDat (eVar 2)))))
def m_inner_parts : List SV → RE SV := fnD [false] 8 b_inner_parts
def C_Rings_init_1 : EM D :=
  eBin opIx (eVar 3) (eC (.int 1))
def C_Rings_init_2 : EM D :=
  eSelfIx 0 0 "counts" (eVar 6)
def L_Rings_init_3 : SM :=
  sSeq (sAsg 5 (sDat (eCallB opSum (aCons (lcF (eLc [6] (iSeq (eSelfIx 0 0 "named" (eVar 4))) (gN 6) (bYes) (C_Rings_init_2))) (aNil))))) (
    sSeq (sIf (bVal (eBin opEq (eBin opIx (eSelfIx 0 0 "forms" (eVar 4)) (eC (.int 0))) (eC (.str "ring")))) (sAsg 5 (sDat (eCallB opInt (aCons (eBin opEq (eBin opIx (eSelfIx 0 0 "forms" (eVar 4)) (eC (.int 1))) (eVar 2)) (aNil))))) (sNx)) (
    sSeq (sIf (bVal (eBin opEq (eBin opIx (eSelfIx 0 0 "forms" (eVar 4)) (eC (.int 0))) (eC (.str "again")))) (sAsg 5 (sDat (eBin opMul (eVar 5) (eBin opIx (eSelfIx 0 0 "forms" (eVar 4)) (eC (.int 1)))))) (sNx)) (
    sAppF 0 0 "counts" (eVar 5))))
def b_Rings_init : SM :=
  sSeq (sFldS 0 0 "forms" (sDat (lcF (eLc [3] (iSeq (eBin opIx (eVar 1) (eC (.int 1)))) (gN 3) (bYes) (C_Rings_init_1))))) (
  sSeq (sFldS 0 0 "named" (callD m_inner_parts [.dat (eVar 1)])) (
  sSeq (sFldS 0 0 "long" (callD m_lengths [.dat (eVar 1)])) (
  sSeq (sFldS 0 0 "counts" (sLst (aNil))) (
  sFor (iRange (aCons (eCallB opLen (aCons (eSelf 0 0 "forms") (aNil))) (aNil))) (gN 4) (L_Rings_init_3)))))
def m_Rings_init : List SV → RE SV := fnD [true, false, false] 7 b_Rings_init
def b_ring_count : SM :=
  sSeq (sDrop (asD (callD m_look_at_beat [.dat (eVar 2), .dat (eBin opAdd (eBin opIx (asD (callD m_lengths [.dat (eVar 0)])) (eUn unNeg (eC (.int 1)))) (eC (.int 1)))]))) (
  sRet (methE 0 "ahead" (asD (newD 0 m_Rings_init [.dat (eVar 0), .dat (eVar 1)])) m_Rings_ahead [.dat (eVar 2)]))
def m_ring_count : List SV → RE SV := fnD [false, false, false] 3 b_ring_count
def b_first_beyond : SM :=
  sSeq (whileD (bVal (eBin opLt (eVar 2) (eVar 3))) (sSeq (sAsg 4 (sDat (eBin opFdiv (eBin opAdd (eVar 2) (eVar 3)) (eC (.int 2))))) (
    sIf (bVal (eBin opGt (asD (methV 0 "ahead" 0 m_Rings_ahead [.dat (eBin opAdd (eVar 4) (eC (.int 1)))])) (eVar 1))) (sAsg 3 (sDat (eVar 4))) (sAsg 2 (sDat (eBin opAdd (eVar 4) (eC (.int 1))))))) 400) (
  sRet (sDat (eVar 2)))
def m_first_beyond : List SV → RE SV := fnD [false, false, false, false] 5 b_first_beyond
def b_ring_beat : SM :=
  sSeq (sAsg 3 (sDat (eBin opIx (asD (callD m_lengths [.dat (eVar 0)])) (eUn unNeg (eC (.int 1)))))) (
  sSeq (sAsg 4 (sDat (asD (newD 0 m_Rings_init [.dat (eVar 0), .dat (eVar 1)])))) (
  sSeq (sIf (bVal (eBin opLe (asD (methV 0 "ahead" 4 m_Rings_ahead [.dat (eBin opAdd (eVar 3) (eC (.int 1)))])) (eVar 2))) (sRet (sDat (eC .non))) (sNx)) (
  sRet (callD m_first_beyond [.dat (eVar 4), .dat (eVar 2), .dat (eC (.int 0)), .dat (eVar 3)]))))
def m_ring_beat : List SV → RE SV := fnD [false, false, false] 5 b_ring_beat
def b_beats_of : SM :=
  sSeq (sAsg 2 (callD m_ring_count [.dat (eVar 0), .dat (eVar 1), .dat (eBin opIx (asD (callD m_lengths [.dat (eVar 0)])) (eUn unNeg (eC (.int 1))))])) (
  sSeq (sIf (bVal (eBin opGt (eVar 2) (eC (.int 12)))) (sNever) (sNx)) (
  sSeq (sAsg 3 (sLst (aNil))) (
  sSeq (sFor (iRange (aCons (eVar 2) (aNil))) (gN 4) (sSeq (sAsg 5 (callD m_ring_beat [.dat (eVar 0), .dat (eVar 1), .dat (eVar 4)])) (
    sIf (bQ (bVal (eBin opNotInS (eVar 5) (eVar 3)))) (sApp 3 (eVar 5)) (sNx)))) (
  sRet (sDat (eVar 3))))))
def m_beats_of : List SV → RE SV := fnD [false, false] 6 b_beats_of
def b_whole_steps : SM :=
  sSeq (sAsg 2 (sDat (eC (.int 1)))) (
  sSeq (sAsg 3 (sDat (eC (.int 0)))) (
  sSeq (whileD (bVal (eBin opGt (eVar 1) (eC (.int 0)))) (sSeq (sAsgT (gT [gN 4, gN 5]) (eCallB opDivmod (aCons (eVar 0) (aCons (eVar 1) (aNil))))) (
    sSeq (sPar 0 1 (aCons (eVar 1) (aCons (eVar 5) (aNil)))) (
    sPar 2 3 (aCons (eVar 3) (aCons (eBin opSub (eVar 2) (eBin opMul (eVar 4) (eVar 3))) (aNil)))))) 400) (
  sRet (sDat (eTup (aCons (eVar 0) (aCons (eVar 2) (aNil))))))))
def m_whole_steps : List SV → RE SV := fnD [false, false] 6 b_whole_steps
def b_joined : SM :=
  sSeq (sAsgT (gT [gN 4, gN 5]) (asD (callD m_whole_steps [.dat (eVar 1), .dat (eVar 3)]))) (
  sSeq (sIf (bVal (eBin opNe (eBin opMod (eBin opSub (eVar 2) (eVar 0)) (eVar 4)) (eC (.int 0)))) (sRet (sDat (eC .non))) (sNx)) (
  sSeq (sAsg 6 (sDat (eBin opMod (eBin opMul (eBin opFdiv (eBin opSub (eVar 2) (eVar 0)) (eVar 4)) (eVar 5)) (eBin opFdiv (eVar 3) (eVar 4))))) (
  sSeq (sAsg 7 (sDat (eBin opMul (eVar 1) (eBin opFdiv (eVar 3) (eVar 4))))) (
  sRet (sDat (eTup (aCons (eBin opMod (eBin opAdd (eVar 0) (eBin opMul (eVar 1) (eVar 6))) (eVar 7)) (aCons (eVar 7) (aNil)))))))))
def m_joined : List SV → RE SV := fnD [false, false, false, false] 8 b_joined
def b_meeting : SM :=
  sSeq (sAsg 3 (lcO (eLc [4, 5] (iZipD (aCons (eVar 0) (aCons (eVar 1) (aNil)))) (gT [gN 4, gN 5]) (bYes) (asD (callD m_beats_of [.dat (eVar 4), .dat (eVar 5)]))))) (
  sSeq (sAsg 6 (sDat (eLst (aCons (eTup (aCons (eC (.int 0)) (aCons (eC (.int 1)) (aNil)))) (aNil))))) (
  sSeq (sFor (iZipD (aCons (eVar 0) (aCons (eVar 3) (aNil)))) (gT [gN 4, gN 7]) (sSeq (sAsg 8 (sDat (eBin opIx (asD (callD m_lengths [.dat (eVar 4)])) (eUn unNeg (eC (.int 1)))))) (
    sSeq (sAsg 9 (sLst (aNil))) (
    sSeq (sFor (iSeq (eVar 6)) (gT [gN 10, gN 11]) (sExt 9 (lcF (eLc [12] (iSeq (eVar 7)) (gN 12) (bYes) (asD (callD m_joined [.dat (eVar 10), .dat (eVar 11), .dat (eVar 12), .dat (eVar 8)])))))) (
    sAsg 6 (lcO (eLc [13] (iSeq (eVar 9)) (gN 13) (bVal (eBin opNotN (eVar 13) (eC .non))) (eVar 13)))))))) (
  sSeq (sAsg 14 (sDat (eC .non))) (
  sSeq (sFor (iSeq (eVar 6)) (gT [gN 10, gN 11]) (sSeq (sAsg 15 (sDat (eBin opAdd (eVar 10) (eBin opMul (eCallB opMax (aCons (eC (.int 0)) (aCons (eBin opFdiv (eBin opSub (eBin opAdd (eBin opSub (eVar 2) (eVar 10)) (eVar 11)) (eC (.int 1))) (eVar 11)) (aNil)))) (eVar 11))))) (
    sIf (bOr (bVal (eBin opIsN (eVar 14) (eC .non))) (bVal (eBin opLt (eVar 15) (eVar 14)))) (sAsg 14 (sDat (eVar 15))) (sNx)))) (
  sRet (sDat (eVar 14)))))))
def m_meeting : List SV → RE SV := fnD [false, false, false] 16 b_meeting
def L_ends_1 : SM :=
  sSetD 6 (eVar 8) (eVar 9)
def L_ends_2 : SM :=
  sFor (iSeq (eOwnIx 3 (eVar 7))) (gT [gN 8, gN 9]) (L_ends_1)
def C_ends_3 : EM D :=
  eTup (aCons (eVar 8) (aCons (eOwnGet 6 (eVar 8)) (aNil)))
def L_ends_4 : SM :=
  sSeq (sAsg 6 (sDctN)) (
    sSeq (sIf (bVal (eBin opEq (eBin opIx (eVar 5) (eC (.int 0))) (eC (.str "raise")))) (sSetD 6 (eBin opGet (eVar 1) (eBin opIx (eVar 5) (eC (.int 1)))) (eBin opIx (eVar 5) (eC (.int 2)))) (sNx)) (
    sSeq (sFor (iSeq (asD (callD m_named [.dat (eVar 5), .dat (eVar 2)]))) (gN 7) (L_ends_2)) (
    sApp 3 (lcF (eLc [8] (iSeq (eCallB opSortedD (aCons (eVar 6) (aNil)))) (gN 8) (bYes) (C_ends_3))))))
def b_ends : SM :=
  sSeq (sAsg 1 (callD m_numbers_of [.dat (eBin opIx (eVar 0) (eC (.int 0)))])) (
  sSeq (sAsg 2 (callD m_numbers_of [.dat (eBin opIx (eVar 0) (eC (.int 1)))])) (
  sSeq (sAsg 3 (sLst (aNil))) (
  sSeq (sFor (iSeq (eBin opIx (eVar 0) (eC (.int 1)))) (gT [gN 4, gN 5]) (L_ends_4)) (
  sRet (sDat (eVar 3))))))
def m_ends : List SV → RE SV := fnD [false] 10 b_ends
def C_Guide_init_1 : EM D :=
  eVar 3
def L_Guide_init_2 : SM :=
  sSetDF 1 0 "numbers" (eBin opIx (eVar 5) (eC (.int 0))) (eVar 4)
def L_Guide_init_3 : SM :=
  sSetDF 1 0 "limbs" (eBin opIx (eVar 6) (eC (.int 0))) (eVar 4)
def b_Guide_init : SM :=
  sSeq (sFldS 1 0 "forms" (sDat (lcF (eLc [2, 3] (iSeq (eBin opIx (eVar 1) (eC (.int 1)))) (gT [gN 2, gN 3]) (bYes) (C_Guide_init_1))))) (
  sSeq (sFldS 1 0 "numbers" (sDctN)) (
  sSeq (sFor (iEnumD (aCons (eBin opIx (eVar 1) (eC (.int 1))) (aNil))) (gT [gN 4, gN 5]) (L_Guide_init_2)) (
  sSeq (sFldS 1 0 "limbs" (sDctN)) (
  sSeq (sFor (iEnumD (aCons (eBin opIx (eVar 1) (eC (.int 0))) (aNil))) (gT [gN 4, gN 6]) (L_Guide_init_3)) (
  sSeq (sFldS 1 0 "lengths" (callD m_lengths [.dat (eVar 1)])) (
  sFldS 1 0 "ends" (callD m_ends [.dat (eVar 1)])))))))
def m_Guide_init : List SV → RE SV := fnD [true, false] 7 b_Guide_init
def b_Guide_look_at : SM :=
  sSeq (sIf (bOr (bVal (eBin opLt (eVar 1) (eC (.int 0)))) (bVal (eBin opGt (eVar 1) (eBin opIx (eUn (opFld 1 "lengths") (eVar 0)) (eUn unNeg (eC (.int 1))))))) (sNever) (sNx)) (
  sRet (sDat (eBin opEq (eVar 1) (eBin opIx (eUn (opFld 1 "lengths") (eVar 0)) (eUn unNeg (eC (.int 1)))))))
def m_Guide_look_at : List SV → RE SV := fnD [false, false] 2 b_Guide_look_at
def L_Guide_words_1 (Φ_Guide_words : List SV → RE SV) : SM :=
  sSeq (sAsg 4 (sDat (eBin opGet (eUn (opFld 1 "numbers") (eVar 0)) (eVar 6)))) (
    sSeq (sIf (bVal (eBin opGe (eVar 2) (eC (.int 0)))) (sExt 5 (asD (methV 1 "words" 0 Φ_Guide_words [.dat (eVar 4), .dat (eVar 2)]))) (sNx)) (
    sIf (bVal (eBin opEq (eBin opIx (eVar 3) (eC (.int 0))) (eC (.str "row")))) (sAsg 2 (sDat (eBin opSub (eVar 2) (eBin opIx (eUn (opFld 1 "lengths") (eVar 0)) (eVar 4))))) (sNx)))
def b_Guide_words (Φ_Guide_words : List SV → RE SV) : SM :=
  sSeq (sAsg 3 (sDat (eBin opIx (eUn (opFld 1 "forms") (eVar 0)) (eVar 1)))) (
  sSeq (sIf (bOr (bVal (eBin opGe (eVar 2) (eBin opIx (eUn (opFld 1 "lengths") (eVar 0)) (eVar 1)))) (bOr (bVal (eBin opEq (eBin opIx (eVar 3) (eC (.int 0))) (eC (.str "raise")))) (bVal (eBin opEq (eBin opIx (eVar 3) (eC (.int 0))) (eC (.str "hold")))))) (sRet (sDat (eLst (aNil)))) (sNx)) (
  sSeq (sIf (bVal (eBin opEq (eBin opIx (eVar 3) (eC (.int 0))) (eC (.str "ring")))) (sRet (sDat (eIf (bVal (eBin opEq (eVar 2) (eC (.int 0)))) (eLst (aCons (eBin opIx (eVar 3) (eC (.int 1))) (aNil))) (eLst (aNil))))) (sNx)) (
  sSeq (sIf (bVal (eBin opEq (eBin opIx (eVar 3) (eC (.int 0))) (eC (.str "again")))) (sSeq (sAsg 4 (sDat (eBin opGet (eUn (opFld 1 "numbers") (eVar 0)) (eBin opIx (eVar 3) (eC (.int 2)))))) (
    sRet (methV 1 "words" 0 Φ_Guide_words [.dat (eVar 4), .dat (eBin opMod (eVar 2) (eBin opIx (eUn (opFld 1 "lengths") (eVar 0)) (eVar 4)))]))) (sNx)) (
  sSeq (sAsg 5 (sLst (aNil))) (
  sSeq (sFor (iSeq (eBin opIx (eVar 3) (eC (.int 1)))) (gN 6) (L_Guide_words_1 Φ_Guide_words)) (
  sRet (sDat (eVar 5))))))))
def m_Guide_words : Nat → List SV → RE SV
  | 0 => fun _ => .stuck
  | n + 1 => fnD [false, false, false] 7 (b_Guide_words (m_Guide_words n))
def b_rings : SM :=
  sSeq (sAsg 2 (sDat (asD (newD 1 m_Guide_init [.dat (eVar 0)])))) (
  sSeq (sIf (bVal (asD (methV 1 "look_at" 2 m_Guide_look_at [.dat (eVar 1)]))) (sRet (sDat (eLst (aNil)))) (sNx)) (
  sRet (methV 1 "words" 2 (m_Guide_words 70) [.dat (eBin opSub (eCallB opLen (aCons (eBin opIx (eVar 0) (eC (.int 1))) (aNil))) (eC (.int 1))), .dat (eVar 1)])))
def m_rings : List SV → RE SV := fnD [false, false] 3 b_rings
def b_turn_of : SM :=
  sSeq (sIf (bVal (eBin opLt (eVar 1) (eC (.int 0)))) (sNever) (sNx)) (
  sRet (sDat (eCallB opDivmod (aCons (eVar 1) (aCons (eBin opIx (asD (callD m_lengths [.dat (eVar 0)])) (eUn unNeg (eC (.int 1)))) (aNil))))))
def m_turn_of : List SV → RE SV := fnD [false, false] 2 b_turn_of
def b_rings_ever : SM :=
  sRet (callD m_rings [.dat (eVar 0), .dat (eBin opIx (asD (callD m_turn_of [.dat (eVar 0), .dat (eVar 1)])) (eC (.int 1)))])
def m_rings_ever : List SV → RE SV := fnD [false, false] 2 b_rings_ever
end
end DL.Law

namespace DL.Law
open PySem L2 DL
noncomputable section
def b_x_law_cell_at : SM :=
  sSeq (sIf (bVal (eBin opLt (eVar 1) (eCallB opLen (aCons (eVar 0) (aNil))))) (sRet (sDat (eBin opIx (eVar 0) (eVar 1)))) (sNx)) (
  sRet (sDat (eC (.int 0))))
def m_x_law_cell_at : List SV → RE SV := fnD [false, false] 2 b_x_law_cell_at
def L_x_law_small_1 : SM :=
  sSeq (sAsg 5 (sDat (eBin opAdd (eBin opFdiv (eVar 0) (eBin opMul (eC (.int 3)) (eBin opAdd (eVar 4) (eC (.int 1))))) (eBin opMul (eVar 4) (eVar 4))))) (
    sSeq (sAsg 6 (sDat (eBin opAdd (eC (.int 1)) (eBin opMod (eBin opFdiv (eVar 5) (eC (.int 3))) (eC (.int 4)))))) (
    sSeq (sAsg 7 (sDat (eTup (aCons (eC (.str "ring")) (aCons (eBin opIx (eLst (aCons (eC (.str "bell")) (aCons (eC (.str "gong")) (aNil)))) (eBin opMod (eBin opFdiv (eVar 5) (eC (.int 12))) (eC (.int 2)))) (aCons (eVar 6) (aNil))))))) (
    sSeq (sIf (bVal (eBin opEq (eBin opMod (eVar 5) (eC (.int 3))) (eC (.int 1)))) (sAsg 7 (sDat (eTup (aCons (eC (.str "hold")) (aCons (eVar 6) (aNil)))))) (sNx)) (
    sSeq (sIf (bVal (eBin opEq (eBin opMod (eVar 5) (eC (.int 3))) (eC (.int 2)))) (sAsg 7 (sDat (eTup (aCons (eC (.str "raise")) (aCons (eC (.str "arm")) (aCons (eBin opMod (eBin opFdiv (eVar 5) (eC (.int 24))) (eC (.int 9))) (aCons (eVar 6) (aNil)))))))) (sNx)) (
    sSeq (sApp 2 (eBin opIx (eC (.str "abcdefgh")) (eVar 4))) (
    sSeq (sApp 1 (eTup (aCons (eOwnIx 2 (eUn unNeg (eC (.int 1)))) (aCons (eVar 7) (aNil))))) (
    sAsg 3 (sDat (eBin opAdd (eVar 3) (eVar 6))))))))))
def b_x_law_small : SM :=
  sSeq (sAsg 1 (sLst (aNil))) (
  sSeq (sAsg 2 (sLst (aNil))) (
  sSeq (sAsg 3 (sDat (eC (.int 0)))) (
  sSeq (sFor (iRange (aCons (eBin opAdd (eC (.int 3)) (eBin opMod (eVar 0) (eC (.int 3)))) (aNil))) (gN 4) (L_x_law_small_1)) (
  sSeq (sApp 1 (eTup (aCons (eC (.str "play")) (aCons (eTup (aCons (eC (.str "row")) (aCons (eCallB opTuple (aCons (eVar 2) (aNil))) (aNil)))) (aNil))))) (
  sRet (sDat (eTup (aCons (eTup (aCons (eLst (aCons (eTup (aCons (eC (.str "arm")) (aCons (eC (.int 1)) (aNil)))) (aNil))) (aCons (eVar 1) (aNil)))) (aCons (eVar 3) (aNil))))))))))
def m_x_law_small : List SV → RE SV := fnD [false] 8 b_x_law_small
def C_x_law_first_1 : EM D :=
  eBin opInS (eBin opIx (eVar 1) (eVar 6)) (asD (callD m_rings_ever [.dat (eBin opIx (eVar 0) (eVar 6)), .dat (eVar 7)]))
def L_x_law_first_2 : SM :=
  sSeq (sApp 4 (lcF (eLc [7] (iRange (aCons (eBin opIx (eVar 2) (eVar 6)) (aNil))) (gN 7) (bYes) (C_x_law_first_1)))) (
    sAsg 5 (sDat (eBin opMul (eVar 5) (eBin opIx (eVar 2) (eVar 6)))))
def C_x_law_first_3 : EM D :=
  eBin opIx (eOwnIx 4 (eVar 6)) (eBin opMod (eVar 7) (eBin opIx (eVar 2) (eVar 6)))
def L_x_law_first_4 : SM :=
  sIf (bVal (eCallB opAll (aCons (lcF (eLc [6] (iRange (aCons (eCallB opLen (aCons (eVar 0) (aNil))) (aNil))) (gN 6) (bYes) (C_x_law_first_3))) (aNil)))) (sRet (sDat (eVar 7))) (sNx)
def b_x_law_first : SM :=
  sSeq (sAsg 4 (sLst (aNil))) (
  sSeq (sAsg 5 (sDat (eC (.int 1)))) (
  sSeq (sFor (iRange (aCons (eCallB opLen (aCons (eVar 0) (aNil))) (aNil))) (gN 6) (L_x_law_first_2)) (
  sSeq (sFor (iRange2 (aCons (eVar 3) (aCons (eBin opAdd (eVar 3) (eVar 5)) (aNil)))) (gN 7) (L_x_law_first_4)) (
  sRet (sDat (eC .non))))))
def m_x_law_first : List SV → RE SV := fnD [false, false, false, false] 8 b_x_law_first
def L_law_1 : SM :=
  sSeq (sAsgT (gT [gN 5, gN 6]) (asD (callD m_x_law_small [.dat (eBin opMod (asD (callD m_x_law_cell_at [.dat (eVar 0), .dat (eBin opAdd (eC (.int 1)) (eVar 4))])) (eBin opPow (eC (.int 10)) (eC (.int 9))))]))) (
    sSeq (sApp 1 (eVar 5)) (
    sSeq (sApp 2 (eVar 6)) (
    sApp 3 (eBin opIx (eLst (aCons (eC (.str "bell")) (aCons (eC (.str "gong")) (aNil)))) (eBin opMod (asD (callD m_x_law_cell_at [.dat (eVar 0), .dat (eBin opAdd (eC (.int 4)) (eVar 4))])) (eC (.int 2)))))))
def L_law_2 : SM :=
  sSeq (sAsg 8 (sDat (eBin opMod (eVar 7) (eC (.int 51))))) (
    sSeq (sAsg 9 (sDat (eLst (aCons (eCallB opList (aCons (eVar 1) (aNil))) (aCons (eCallB opList (aCons (eVar 3) (aNil))) (aNil)))))) (
    sSeq (sAsg 10 (callD m_x_law_first [.dat (eVar 1), .dat (eVar 3), .dat (eVar 2), .dat (eVar 8)])) (
    sSeq (sAsg 11 (callD m_meeting [.dat (eBin opIx (eVar 9) (eC (.int 0))), .dat (eBin opIx (eVar 9) (eC (.int 1))), .dat (eVar 8)])) (
    sSeq (sIf (bOr (bAnd (bVal (eBin opIsN (eVar 10) (eC .non))) (bVal (eBin opNotN (eVar 11) (eC .non)))) (bAnd (bVal (eBin opNotN (eVar 10) (eC .non))) (bOr (bNot (bVal (eIsB "int" (eVar 11)))) (bVal (eBin opNe (eVar 11) (eVar 10)))))) (sRet (sDat (eC (.bl false)))) (sNx)) (
    sIf (bQ (bVal (eBin opNe (eVar 9) (eLst (aCons (eVar 1) (aCons (eVar 3) (aNil))))))) (sRet (sDat (eC (.bl false)))) (sNx))))))
def b_law : SM :=
  sSeq (sAsg 1 (sLst (aNil))) (
  sSeq (sAsg 2 (sLst (aNil))) (
  sSeq (sAsg 3 (sLst (aNil))) (
  sSeq (sFor (iRange (aCons (eBin opAdd (eC (.int 2)) (eBin opMod (asD (callD m_x_law_cell_at [.dat (eVar 0), .dat (eC (.int 0))])) (eC (.int 2)))) (aNil))) (gN 4) (L_law_1)) (
  sSeq (sFor (iSeq (eBin opAdd (eLst (aCons (eC (.int 0)) (aNil))) (eSl (eVar 0) (oYes (eC (.int 7))) (oYes (eC (.int 9)))))) (gN 7) (L_law_2)) (
  sSeq (sAsg 12 (callD m_meeting [.dat (eSl (eVar 1) (oNo) (oYes (eC (.int 1)))), .dat (eSl (eVar 3) (oNo) (oYes (eC (.int 1)))), .dat (eC (.int 3))])) (
  sRet (sDat (eBin opEq (asD (callD m_meeting [.dat (eLst (aCons (eOwnIx 1 (eC (.int 0))) (aCons (eOwnIx 1 (eC (.int 0))) (aNil)))), .dat (eLst (aCons (eOwnIx 3 (eC (.int 0))) (aCons (eOwnIx 3 (eC (.int 0))) (aNil)))), .dat (eC (.int 3))])) (eVar 12)))))))))
def m_law : List SV → RE SV := fnD [false] 13 b_law
end
end DL.Law

namespace DL.Law
open PySem L2 DL
def topS (i : Nat) : PySem.Stmt := PySem.Challenge.pw_camplay_k47_small_books_meet.main.body.getD i (.Pass ⟨0, 0, 0, 0⟩)
abbrev s_x_law_cell_at : PySem.Stmt := (topS 38)
abbrev s_x_law_small : PySem.Stmt := (topS 39)
abbrev s_numbers_of : PySem.Stmt := (topS 10)
abbrev s_named : PySem.Stmt := (topS 11)
abbrev s_moved : PySem.Stmt := (topS 12)
abbrev s_look_at_side : PySem.Stmt := (topS 14)
abbrev s_length_of : PySem.Stmt := (topS 13)
abbrev s_lengths : PySem.Stmt := (topS 15)
abbrev s_ends : PySem.Stmt := (topS 16)
abbrev s_Guide_init : PySem.Stmt := (inClass (topS 32) 0)
abbrev s_Guide_look_at : PySem.Stmt := (inClass (topS 32) 1)
abbrev s_Guide_words : PySem.Stmt := (inClass (topS 32) 6)
abbrev s_rings : PySem.Stmt := (topS 33)
abbrev s_turn_of : PySem.Stmt := (topS 35)
abbrev s_rings_ever : PySem.Stmt := (topS 36)
abbrev s_x_law_first : PySem.Stmt := (topS 40)
abbrev s_look_at_beat : PySem.Stmt := (topS 19)
abbrev s_Rings_part_rung : PySem.Stmt := (inClass (topS 20) 1)
abbrev s_Rings_ahead : PySem.Stmt := (inClass (topS 20) 2)
abbrev s_inner_parts : PySem.Stmt := (topS 18)
abbrev s_Rings_init : PySem.Stmt := (inClass (topS 20) 0)
abbrev s_ring_count : PySem.Stmt := (topS 21)
abbrev s_first_beyond : PySem.Stmt := (topS 23)
abbrev s_ring_beat : PySem.Stmt := (topS 24)
abbrev s_beats_of : PySem.Stmt := (topS 29)
abbrev s_whole_steps : PySem.Stmt := (topS 27)
abbrev s_joined : PySem.Stmt := (topS 28)
abbrev s_meeting : PySem.Stmt := (topS 30)
abbrev s_law : PySem.Stmt := (topS 41)
structure Fs (K : PySem.W.Frag) (mg : Str → Option Value) where
  f_x_law_cell_at : Addr
  d_x_law_cell_at : FuncData
  f_x_law_small : Addr
  d_x_law_small : FuncData
  f_numbers_of : Addr
  d_numbers_of : FuncData
  f_named : Addr
  d_named : FuncData
  f_moved : Addr
  d_moved : FuncData
  f_look_at_side : Addr
  d_look_at_side : FuncData
  f_length_of : Addr
  d_length_of : FuncData
  f_lengths : Addr
  d_lengths : FuncData
  f_ends : Addr
  d_ends : FuncData
  f_Guide_init : Addr
  d_Guide_init : FuncData
  f_Guide_look_at : Addr
  d_Guide_look_at : FuncData
  f_Guide_words : Addr
  d_Guide_words : FuncData
  f_rings : Addr
  d_rings : FuncData
  f_turn_of : Addr
  d_turn_of : FuncData
  f_rings_ever : Addr
  d_rings_ever : FuncData
  f_x_law_first : Addr
  d_x_law_first : FuncData
  f_look_at_beat : Addr
  d_look_at_beat : FuncData
  f_Rings_part_rung : Addr
  d_Rings_part_rung : FuncData
  f_Rings_ahead : Addr
  d_Rings_ahead : FuncData
  f_inner_parts : Addr
  d_inner_parts : FuncData
  f_Rings_init : Addr
  d_Rings_init : FuncData
  f_ring_count : Addr
  d_ring_count : FuncData
  f_first_beyond : Addr
  d_first_beyond : FuncData
  f_ring_beat : Addr
  d_ring_beat : FuncData
  f_beats_of : Addr
  d_beats_of : FuncData
  f_whole_steps : Addr
  d_whole_steps : FuncData
  f_joined : Addr
  d_joined : FuncData
  f_meeting : Addr
  d_meeting : FuncData
  f_law : Addr
  d_law : FuncData
  a_Rings : Addr
  a_Guide : Addr
  F_x_law_cell_at : FunD K "_law_cell_at" "_law_cell_at" (defArgs s_x_law_cell_at) (defBody s_x_law_cell_at) (defScope s_x_law_cell_at) [] [] f_x_law_cell_at d_x_law_cell_at
  b_x_law_cell_at : Binds K d_x_law_cell_at ["script", "k"] []
  m_x_law_cell_at : mg "_law_cell_at" = some (.ref f_x_law_cell_at)
  F_x_law_small : FunD K "_law_small" "_law_small" (defArgs s_x_law_small) (defBody s_x_law_small) (defScope s_x_law_small) [] [] f_x_law_small d_x_law_small
  b_x_law_small : Binds K d_x_law_small ["cell"] []
  m_x_law_small : mg "_law_small" = some (.ref f_x_law_small)
  F_numbers_of : FunD K "numbers_of" "numbers_of" (defArgs s_numbers_of) (defBody s_numbers_of) (defScope s_numbers_of) [] [] f_numbers_of d_numbers_of
  b_numbers_of : Binds K d_numbers_of ["rows"] []
  m_numbers_of : mg "numbers_of" = some (.ref f_numbers_of)
  F_named : FunD K "named" "named" (defArgs s_named) (defBody s_named) (defScope s_named) [] [] f_named d_named
  b_named : Binds K d_named ["form", "numbers"] []
  m_named : mg "named" = some (.ref f_named)
  F_moved : FunD K "moved" "moved" (defArgs s_moved) (defBody s_moved) (defScope s_moved) [] [] f_moved d_moved
  b_moved : Binds K d_moved ["book"] []
  m_moved : mg "moved" = some (.ref f_moved)
  F_look_at_side : FunD K "look_at_side" "look_at_side" (defArgs s_look_at_side) (defBody s_look_at_side) (defScope s_look_at_side) [] [] f_look_at_side d_look_at_side
  b_look_at_side : Binds K d_look_at_side ["book", "number", "limbs"] []
  m_look_at_side : mg "look_at_side" = some (.ref f_look_at_side)
  F_length_of : FunD K "length_of" "length_of" (defArgs s_length_of) (defBody s_length_of) (defScope s_length_of) [] [] f_length_of d_length_of
  b_length_of : Binds K d_length_of ["form", "below"] []
  m_length_of : mg "length_of" = some (.ref f_length_of)
  F_lengths : FunD K "lengths" "lengths" (defArgs s_lengths) (defBody s_lengths) (defScope s_lengths) [] [] f_lengths d_lengths
  b_lengths : Binds K d_lengths ["book"] []
  m_lengths : mg "lengths" = some (.ref f_lengths)
  F_ends : FunD K "ends" "ends" (defArgs s_ends) (defBody s_ends) (defScope s_ends) [] [] f_ends d_ends
  b_ends : Binds K d_ends ["book"] []
  m_ends : mg "ends" = some (.ref f_ends)
  F_Guide_init : FunD K "__init__" "Guide.__init__" (defArgs s_Guide_init) (defBody s_Guide_init) (defScope s_Guide_init) [] [] f_Guide_init d_Guide_init
  b_Guide_init : Binds K d_Guide_init ["self", "book"] []
  F_Guide_look_at : FunD K "look_at" "Guide.look_at" (defArgs s_Guide_look_at) (defBody s_Guide_look_at) (defScope s_Guide_look_at) [] [] f_Guide_look_at d_Guide_look_at
  b_Guide_look_at : Binds K d_Guide_look_at ["self", "beat"] []
  F_Guide_words : FunD K "words" "Guide.words" (defArgs s_Guide_words) (defBody s_Guide_words) (defScope s_Guide_words) [] [] f_Guide_words d_Guide_words
  b_Guide_words : Binds K d_Guide_words ["self", "number", "beat"] []
  F_rings : FunD K "rings" "rings" (defArgs s_rings) (defBody s_rings) (defScope s_rings) [] [] f_rings d_rings
  b_rings : Binds K d_rings ["book", "beat"] []
  m_rings : mg "rings" = some (.ref f_rings)
  F_turn_of : FunD K "turn_of" "turn_of" (defArgs s_turn_of) (defBody s_turn_of) (defScope s_turn_of) [] [] f_turn_of d_turn_of
  b_turn_of : Binds K d_turn_of ["book", "beat"] []
  m_turn_of : mg "turn_of" = some (.ref f_turn_of)
  F_rings_ever : FunD K "rings_ever" "rings_ever" (defArgs s_rings_ever) (defBody s_rings_ever) (defScope s_rings_ever) [] [] f_rings_ever d_rings_ever
  b_rings_ever : Binds K d_rings_ever ["book", "beat"] []
  m_rings_ever : mg "rings_ever" = some (.ref f_rings_ever)
  F_x_law_first : FunD K "_law_first" "_law_first" (defArgs s_x_law_first) (defBody s_x_law_first) (defScope s_x_law_first) [] [] f_x_law_first d_x_law_first
  b_x_law_first : Binds K d_x_law_first ["books", "words", "longs", "beat"] []
  m_x_law_first : mg "_law_first" = some (.ref f_x_law_first)
  F_look_at_beat : FunD K "look_at_beat" "look_at_beat" (defArgs s_look_at_beat) (defBody s_look_at_beat) (defScope s_look_at_beat) [] [] f_look_at_beat d_look_at_beat
  b_look_at_beat : Binds K d_look_at_beat ["beat", "last"] []
  m_look_at_beat : mg "look_at_beat" = some (.ref f_look_at_beat)
  F_Rings_part_rung : FunD K "part_rung" "Rings.part_rung" (defArgs s_Rings_part_rung) (defBody s_Rings_part_rung) (defScope s_Rings_part_rung) [] [] f_Rings_part_rung d_Rings_part_rung
  b_Rings_part_rung : Binds K d_Rings_part_rung ["self", "k", "many"] []
  F_Rings_ahead : FunD K "ahead" "Rings.ahead" (defArgs s_Rings_ahead) (defBody s_Rings_ahead) (defScope s_Rings_ahead) [] [] f_Rings_ahead d_Rings_ahead
  b_Rings_ahead : Binds K d_Rings_ahead ["self", "beat"] []
  F_inner_parts : FunD K "inner_parts" "inner_parts" (defArgs s_inner_parts) (defBody s_inner_parts) (defScope s_inner_parts) [] [] f_inner_parts d_inner_parts
  b_inner_parts : Binds K d_inner_parts ["book"] []
  m_inner_parts : mg "inner_parts" = some (.ref f_inner_parts)
  F_Rings_init : FunD K "__init__" "Rings.__init__" (defArgs s_Rings_init) (defBody s_Rings_init) (defScope s_Rings_init) [] [] f_Rings_init d_Rings_init
  b_Rings_init : Binds K d_Rings_init ["self", "book", "word"] []
  F_ring_count : FunD K "ring_count" "ring_count" (defArgs s_ring_count) (defBody s_ring_count) (defScope s_ring_count) [] [] f_ring_count d_ring_count
  b_ring_count : Binds K d_ring_count ["book", "word", "beat"] []
  m_ring_count : mg "ring_count" = some (.ref f_ring_count)
  F_first_beyond : FunD K "first_beyond" "first_beyond" (defArgs s_first_beyond) (defBody s_first_beyond) (defScope s_first_beyond) [] [] f_first_beyond d_first_beyond
  b_first_beyond : Binds K d_first_beyond ["counted", "number", "low", "high"] []
  m_first_beyond : mg "first_beyond" = some (.ref f_first_beyond)
  F_ring_beat : FunD K "ring_beat" "ring_beat" (defArgs s_ring_beat) (defBody s_ring_beat) (defScope s_ring_beat) [V.int 0] [] f_ring_beat d_ring_beat
  b_ring_beat : Binds K d_ring_beat ["book", "word", "number"] []
  m_ring_beat : mg "ring_beat" = some (.ref f_ring_beat)
  F_beats_of : FunD K "beats_of" "beats_of" (defArgs s_beats_of) (defBody s_beats_of) (defScope s_beats_of) [] [] f_beats_of d_beats_of
  b_beats_of : Binds K d_beats_of ["book", "word"] []
  m_beats_of : mg "beats_of" = some (.ref f_beats_of)
  F_whole_steps : FunD K "whole_steps" "whole_steps" (defArgs s_whole_steps) (defBody s_whole_steps) (defScope s_whole_steps) [] [] f_whole_steps d_whole_steps
  b_whole_steps : Binds K d_whole_steps ["one", "other"] []
  m_whole_steps : mg "whole_steps" = some (.ref f_whole_steps)
  F_joined : FunD K "joined" "joined" (defArgs s_joined) (defBody s_joined) (defScope s_joined) [] [] f_joined d_joined
  b_joined : Binds K d_joined ["beat", "turn", "other", "other_turn"] []
  m_joined : mg "joined" = some (.ref f_joined)
  F_meeting : FunD K "meeting" "meeting" (defArgs s_meeting) (defBody s_meeting) (defScope s_meeting) [V.int 0] [] f_meeting d_meeting
  b_meeting : Binds K d_meeting ["books", "words", "beat"] []
  m_meeting : mg "meeting" = some (.ref f_meeting)
  F_law : FunD K "law" "law" (defArgs s_law) (defBody s_law) (defScope s_law) [] [] f_law d_law
  b_law : Binds K d_law ["script"] []
  m_law : mg "law" = some (.ref f_law)
  c_Rings : Cls K a_Rings
  k_Rings : Mk K a_Rings f_Rings_init
  m_Rings : mg "Rings" = some (.ref a_Rings)
  c_Guide : Cls K a_Guide
  k_Guide : Mk K a_Guide f_Guide_init
  m_Guide : mg "Guide" = some (.ref a_Guide)
  n_Guide_ends : NoAttr K a_Guide "ends"
  n_Guide_forms : NoAttr K a_Guide "forms"
  n_Guide_lengths : NoAttr K a_Guide "lengths"
  n_Guide_limbs : NoAttr K a_Guide "limbs"
  n_Guide_numbers : NoAttr K a_Guide "numbers"
  n_Rings_counts : NoAttr K a_Rings "counts"
  n_Rings_forms : NoAttr K a_Rings "forms"
  n_Rings_long : NoAttr K a_Rings "long"
  n_Rings_named : NoAttr K a_Rings "named"
  h_Guide_look_at : Meth K a_Guide "look_at" f_Guide_look_at
  h_Guide_words : Meth K a_Guide "words" f_Guide_words
  h_Rings_ahead : Meth K a_Rings "ahead" f_Rings_ahead
  h_Rings_part_rung : Meth K a_Rings "part_rung" f_Rings_part_rung
  g_all : mg "all" = none
  g_divmod : mg "divmod" = none
  g_enumerate : mg "enumerate" = none
  g_int : mg "int" = none
  g_isinstance : mg "isinstance" = none
  g_len : mg "len" = none
  g_list : mg "list" = none
  g_max : mg "max" = none
  g_range : mg "range" = none
  g_set : mg "set" = none
  g_sorted : mg "sorted" = none
  g_sum : mg "sum" = none
  g_tuple : mg "tuple" = none
  g_zip : mg "zip" = none
  t_LONGEST : Tok
  g_LONGEST : mg "LONGEST" = some (.int 1000000000000000000000000000000000000000000000000000000000000 t_LONGEST)
  t_MOST : Tok
  g_MOST : mg "MOST" = some (.int 12 t_MOST)
def Fs.kap {K : PySem.W.Frag} {mg : Str → Option Value} (T : Fs K mg) : Nat → Addr
  | 0 => T.a_Rings
  | 1 => T.a_Guide
  | _ => 0
section
variable {P : Program} {w : World} {K : PySem.W.Frag} {mg : Str → Option Value} {base : Heap}
theorem sc_x_law_cell_at : FnScope ["script", "k"] ["script", "k"] (defScope s_x_law_cell_at) := ⟨rfl, rfl, rfl, by decide +kernel, rfl, by decide +kernel, by decide +kernel⟩
theorem ok_x_law_cell_at (T : Fs K mg) : FnOk P w K mg base (L2.CX P w) 1 T.f_x_law_cell_at T.d_x_law_cell_at ["script", "k"] (spD K T.kap m_x_law_cell_at) := by
  refine fn_okD (N := ["script", "k"]) (modes := [false, false]) (body := b_x_law_cell_at) [] T.F_x_law_cell_at sc_x_law_cell_at rfl (by decide) (pins_ok (by decide)) fun cdv A outer s H E hr tk hp => ?_
  have hN := sc_x_law_cell_at.nd
  unfold b_x_law_cell_at
  exact (dss_cons (d_if (dt_cmp od_lt de_var (de_callB cd_len T.g_len rfl (da_cons de_var da_nil))) (dss_one (d_ret (ds_dat (de_ix de_var de_var)))) dss_nil) 
  (dss_one (d_ret (ds_dat de_int))))
theorem sc_x_law_small : FnScope ["cell", "parts", "names", "long", "k", "number", "beats", "form"] ["cell"] (defScope s_x_law_small) := ⟨rfl, rfl, rfl, by decide +kernel, rfl, by decide +kernel, by decide +kernel⟩
theorem ok_x_law_small (T : Fs K mg) : FnOk P w K mg base (L2.CX P w) 1 T.f_x_law_small T.d_x_law_small ["cell"] (spD K T.kap m_x_law_small) := by
  refine fn_okD (N := ["cell", "parts", "names", "long", "k", "number", "beats", "form"]) (modes := [false]) (body := b_x_law_small) [] T.F_x_law_small sc_x_law_small rfl (by decide) (pins_ok (by decide)) fun cdv A outer s H E hr tk hp => ?_
  have hN := sc_x_law_small.nd
  unfold b_x_law_small L_x_law_small_1
  exact (dss_cons (d_asg hN (ds_lst da_nil)) 
  (dss_cons (d_asg hN (ds_lst da_nil)) 
  (dss_cons (d_asg hN (ds_dat de_int)) 
  (dss_cons (d_for hp rfl (di_range1 T.g_range (da_cons (de_bin od_add de_int (de_bin od_mod de_var de_int)) da_nil)) (dg_name hN) (dss_cons (d_asg hN (ds_dat (de_bin od_add (de_bin od_fdiv de_var (de_bin od_mul de_int (de_bin od_add de_var de_int))) (de_bin od_mul de_var de_var)))) 
    (dss_cons (d_asg hN (ds_dat (de_bin od_add de_int (de_bin od_mod (de_bin od_fdiv de_var de_int) de_int)))) 
    (dss_cons (d_asg hN (ds_dat (de_tup (da_cons de_str (da_cons (de_ix (de_lst (da_cons de_str (da_cons de_str da_nil))) (de_bin od_mod (de_bin od_fdiv de_var de_int) de_int)) (da_cons de_var da_nil)))))) 
    (dss_cons (d_if (dt_cmp (od_eq hr.units) (de_bin od_mod de_var de_int) de_int) (dss_one (d_asg hN (ds_dat (de_tup (da_cons de_str (da_cons de_var da_nil)))))) dss_nil) 
    (dss_cons (d_if (dt_cmp (od_eq hr.units) (de_bin od_mod de_var de_int) de_int) (dss_one (d_asg hN (ds_dat (de_tup (da_cons de_str (da_cons de_str (da_cons (de_bin od_mod (de_bin od_fdiv de_var de_int) de_int) (da_cons de_var da_nil)))))))) dss_nil) 
    (dss_cons (d_app (de_ix de_str de_var)) 
    (dss_cons (d_app (de_tup (da_cons (de_ownIx (de_neg de_int)) (da_cons de_var da_nil)))) 
    (dss_one (d_asg hN (ds_dat (de_bin od_add de_var de_var)))))))))))) 
  (dss_cons (d_app (de_tup (da_cons de_str (da_cons (de_tup (da_cons de_str (da_cons (de_callTy cd_tuple T.g_tuple rfl (da_cons de_var da_nil)) da_nil))) da_nil)))) 
  (dss_one (d_ret (ds_dat (de_tup (da_cons (de_tup (da_cons (de_lst (da_cons (de_tup (da_cons de_str (da_cons de_int da_nil))) da_nil)) (da_cons de_var da_nil))) (da_cons de_var da_nil)))))))))))
theorem sc_numbers_of : FnScope ["rows", "numbers", "number", "row"] ["rows"] (defScope s_numbers_of) := ⟨rfl, rfl, rfl, by decide +kernel, rfl, by decide +kernel, by decide +kernel⟩
theorem ok_numbers_of (T : Fs K mg) : FnOk P w K mg base (L2.CX P w) 1 T.f_numbers_of T.d_numbers_of ["rows"] (spD K T.kap m_numbers_of) := by
  refine fn_okD (N := ["rows", "numbers", "number", "row"]) (modes := [false]) (body := b_numbers_of) [] T.F_numbers_of sc_numbers_of rfl (by decide) (pins_ok (by decide)) fun cdv A outer s H E hr tk hp => ?_
  have hN := sc_numbers_of.nd
  unfold b_numbers_of L_numbers_of_1
  exact (dss_cons (d_asg hN ds_dctN) 
  (dss_cons (d_for hp rfl (di_enum T.g_enumerate (da_cons de_var da_nil)) (dg_tup rfl (dgs_cons (dg_name hN) (dgs_cons (dg_name hN) dgs_nil))) (dss_one (d_setD (hu_of hr) de_var (de_ix de_var de_int)))) 
  (dss_one (d_ret (ds_dat de_var)))))
theorem sc_named : FnScope ["form", "numbers", "name"] ["form", "numbers"] (defScope s_named) := ⟨rfl, rfl, rfl, by decide +kernel, rfl, by decide +kernel, by decide +kernel⟩
theorem ok_named (T : Fs K mg) : FnOk P w K mg base (L2.CX P w) 1 T.f_named T.d_named ["form", "numbers"] (spD K T.kap m_named) := by
  refine fn_okD (N := ["form", "numbers", "name"]) (modes := [false, false]) (body := b_named) [] T.F_named sc_named rfl (by decide) (pins_ok (by decide)) fun cdv A outer s H E hr tk hp => ?_
  have hN := sc_named.nd
  unfold b_named C_named_1
  exact (dss_cons (d_if (dt_w (dw_or (dt_cmp (od_eq hr.units) (de_ix de_var de_int) de_str) (dw_or1 (dt_cmp (od_eq hr.units) (de_ix de_var de_int) de_str)))) (dss_one (d_ret (ds_dat (de_lcF (de_lcL (own := [("name", 2)]) rfl hN (di_seq (de_ix de_var de_int)) (blkOk_by rfl) own_name tgk_name (fun _ _ _ _ _ => (dg_name (κ := T.kap) (P := []) hN).pg) (fun _ _ _ _ _ => dts_nil) (fun _ _ _ _ _ => (de_get (hu_of hr) de_var de_var))))))) dss_nil) 
  (dss_cons (d_if (dt_cmp (od_eq hr.units) (de_ix de_var de_int) de_str) (dss_one (d_ret (ds_dat (de_lst (da_cons (de_get (hu_of hr) de_var (de_ix de_var de_int)) da_nil))))) dss_nil) 
  (dss_one (d_ret (ds_dat (de_lst da_nil))))))
theorem sc_moved : FnScope ["book", "hands", "numbers", "told", "name", "form", "limbs", "number"] ["book"] (defScope s_moved) := ⟨rfl, rfl, rfl, by decide +kernel, rfl, by decide +kernel, by decide +kernel⟩
theorem ok_moved (T : Fs K mg) : FnOk P w K mg base (L2.CX P w) 2 T.f_moved T.d_moved ["book"] (spD K T.kap m_moved) := by
  refine fn_okD (N := ["book", "hands", "numbers", "told", "name", "form", "limbs", "number"]) (modes := [false]) (body := b_moved) [] T.F_moved sc_moved rfl (by decide) (pins_ok (by decide)) fun cdv A outer s H E hr tk hp => ?_
  have hN := sc_moved.nd
  unfold b_moved L_moved_2 L_moved_1
  exact (dss_cons (d_asg hN (de_call (ok_numbers_of T) (hr.mono (by decide)) T.m_numbers_of T.F_numbers_of.kp T.b_numbers_of tk (dv_dat (de_ix de_var de_int) dv_nil))) 
  (dss_cons (d_asg hN (de_call (ok_numbers_of T) (hr.mono (by decide)) T.m_numbers_of T.F_numbers_of.kp T.b_numbers_of tk (dv_dat (de_ix de_var de_int) dv_nil))) 
  (dss_cons (d_asg hN (ds_lst da_nil)) 
  (dss_cons (d_for hp rfl (di_seq (de_ix de_var de_int)) (dg_tup rfl (dgs_cons (dg_name hN) (dgs_cons (dg_name hN) dgs_nil))) (dss_cons (d_asg hN (ds_lst da_nil)) 
    (dss_cons (d_if (dt_cmp (od_eq hr.units) (de_ix de_var de_int) de_str) (dss_one (d_app (de_get (hu_of hr) de_var (de_ix de_var de_int)))) dss_nil) 
    (dss_cons (d_for hp rfl (di_seq (de_asD (de_call (ok_named T) (hr.mono (by decide)) T.m_named T.F_named.kp T.b_named tk (dv_dat de_var (dv_dat de_var dv_nil))))) (dg_name hN) (dss_one (d_ext (de_ownIx de_var)))) 
    (dss_one (d_app (de_sortU rfl T.g_sorted T.g_set de_var))))))) 
  (dss_one (d_ret (ds_dat de_var)))))))
theorem sc_look_at_side : FnScope ["book", "number", "limbs", "limb", "some"] ["book", "number", "limbs"] (defScope s_look_at_side) := ⟨rfl, rfl, rfl, by decide +kernel, rfl, by decide +kernel, by decide +kernel⟩
theorem ok_look_at_side (T : Fs K mg) : FnOk P w K mg base (L2.CX P w) 1 T.f_look_at_side T.d_look_at_side ["book", "number", "limbs"] (spD K T.kap m_look_at_side) := by
  refine fn_okD (N := ["book", "number", "limbs", "limb", "some"]) (modes := [false, false, false]) (body := b_look_at_side) [] T.F_look_at_side sc_look_at_side rfl (by decide) (pins_ok (by decide)) fun cdv A outer s H E hr tk hp => ?_
  have hN := sc_look_at_side.nd
  unfold b_look_at_side L_look_at_side_3 Q_look_at_side_2 C_look_at_side_1
  exact (dss_cons (d_if (dt_cmp (od_inS (hr65 hr)) (de_lst da_nil) de_var) (dss_one d_never) dss_nil) 
  (dss_one (d_for hp rfl (di_range1 T.g_range (da_cons (de_callB cd_len T.g_len rfl (da_cons (de_ix de_var de_int) da_nil)) da_nil)) (dg_name hN) (dss_one (d_if (dt_cmp od_gt (de_callB cd_len T.g_len rfl (da_cons (de_lcF (de_lcL (own := [("some", 4)]) rfl hN (di_seq de_var) (blkOk_by rfl) own_name tgk_name (fun _ _ _ _ _ => (dg_name (κ := T.kap) (P := []) hN).pg) (fun _ _ _ _ _ => (dts_one (dt_cmp (od_inS (hr65 hr)) de_var de_var))) (fun _ _ _ _ _ => de_var))) da_nil)) de_int) (dss_one d_never) dss_nil)))))
theorem sc_length_of : FnScope ["form", "below"] ["form", "below"] (defScope s_length_of) := ⟨rfl, rfl, rfl, by decide +kernel, rfl, by decide +kernel, by decide +kernel⟩
theorem ok_length_of (T : Fs K mg) : FnOk P w K mg base (L2.CX P w) 1 T.f_length_of T.d_length_of ["form", "below"] (spD K T.kap m_length_of) := by
  refine fn_okD (N := ["form", "below"]) (modes := [false, false]) (body := b_length_of) [] T.F_length_of sc_length_of rfl (by decide) (pins_ok (by decide)) fun cdv A outer s H E hr tk hp => ?_
  have hN := sc_length_of.nd
  unfold b_length_of
  exact (dss_cons (d_if (dt_cmp (od_eq hr.units) (de_ix de_var de_int) de_str) (dss_one (d_ret (ds_dat (de_callB (cd_sum rfl) T.g_sum rfl (da_cons de_var da_nil))))) dss_nil) 
  (dss_cons (d_if (dt_cmp (od_eq hr.units) (de_ix de_var de_int) de_str) (dss_one (d_ret (ds_dat (de_callB (cd_max rfl) T.g_max rfl (da_cons de_var da_nil))))) dss_nil) 
  (dss_cons (d_if (dt_cmp (od_eq hr.units) (de_ix de_var de_int) de_str) (dss_one (d_ret (ds_dat (de_bin od_mul (de_ix de_var de_int) (de_ix de_var de_int))))) dss_nil) 
  (dss_one (d_ret (ds_dat (de_ix de_var (de_neg de_int))))))))
theorem sc_lengths : FnScope ["book", "numbers", "limbs", "told", "number", "part", "below", "one"] ["book"] (defScope s_lengths) := ⟨rfl, rfl, rfl, by decide +kernel, rfl, by decide +kernel, by decide +kernel⟩
theorem ok_lengths (T : Fs K mg) : FnOk P w K mg base (L2.CX P w) 3 T.f_lengths T.d_lengths ["book"] (spD K T.kap m_lengths) := by
  refine fn_okD (N := ["book", "numbers", "limbs", "told", "number", "part", "below", "one"]) (modes := [false]) (body := b_lengths) [] T.F_lengths sc_lengths rfl (by decide) (pins_ok (by decide)) fun cdv A outer s H E hr tk hp => ?_
  have hN := sc_lengths.nd
  unfold b_lengths L_lengths_3 C_lengths_2 C_lengths_1
  exact (dss_cons (d_asg hN (de_call (ok_numbers_of T) (hr.mono (by decide)) T.m_numbers_of T.F_numbers_of.kp T.b_numbers_of tk (dv_dat (de_ix de_var de_int) dv_nil))) 
  (dss_cons (d_asg hN (de_call (ok_moved T) (hr.mono (by decide)) T.m_moved T.F_moved.kp T.b_moved tk (dv_dat de_var dv_nil))) 
  (dss_cons (d_asg hN (ds_lst da_nil)) 
  (dss_cons (d_for hp rfl (di_enum T.g_enumerate (da_cons (de_ix de_var de_int) da_nil)) (dg_tup rfl (dgs_cons (dg_name hN) (dgs_cons (dg_name hN) dgs_nil))) (dss_cons (d_asg hN (de_call (ok_named T) (hr.mono (by decide)) T.m_named T.F_named.kp T.b_named tk (dv_dat (de_ix de_var de_int) (dv_dat de_var dv_nil)))) 
    (dss_cons (d_if (dt_cmp (od_eq hr.units) (de_ix (de_ix de_var de_int) de_int) de_str) (dss_one (d_drop (de_asD (de_call (ok_look_at_side T) (hr.mono (by decide)) T.m_look_at_side T.F_look_at_side.kp T.b_look_at_side tk (dv_dat de_var (dv_dat de_var (dv_dat (de_lcF (de_lcL (own := [("one", 7)]) rfl hN (di_seq de_var) (blkOk_by rfl) own_name tgk_name (fun _ _ _ _ _ => (dg_name (κ := T.kap) (P := []) hN).pg) (fun _ _ _ _ _ => dts_nil) (fun _ _ _ _ _ => (de_ix de_var de_var)))) dv_nil))))))) dss_nil) 
    (dss_cons (d_app (de_asD (de_call (ok_length_of T) (hr.mono (by decide)) T.m_length_of T.F_length_of.kp T.b_length_of tk (dv_dat (de_ix de_var de_int) (dv_dat (de_lcF (de_lcL (own := [("one", 7)]) rfl hN (di_seq de_var) (blkOk_by rfl) own_name tgk_name (fun _ _ _ _ _ => (dg_name (κ := T.kap) (P := []) hN).pg) (fun _ _ _ _ _ => dts_nil) (fun _ _ _ _ _ => (de_ownIx de_var)))) dv_nil))))) 
    (dss_one (d_if (dt_cmp od_gt (de_ownIx (de_neg de_int)) (de_gint T.g_LONGEST)) (dss_one d_never) dss_nil)))))) 
  (dss_one (d_ret (ds_dat de_var)))))))
theorem sc_ends : FnScope ["book", "hands", "numbers", "told", "name", "form", "left", "number", "limb", "height"] ["book"] (defScope s_ends) := ⟨rfl, rfl, rfl, by decide +kernel, rfl, by decide +kernel, by decide +kernel⟩
theorem ok_ends (T : Fs K mg) : FnOk P w K mg base (L2.CX P w) 2 T.f_ends T.d_ends ["book"] (spD K T.kap m_ends) := by
  refine fn_okD (N := ["book", "hands", "numbers", "told", "name", "form", "left", "number", "limb", "height"]) (modes := [false]) (body := b_ends) [] T.F_ends sc_ends rfl (by decide) (pins_ok (by decide)) fun cdv A outer s H E hr tk hp => ?_
  have hN := sc_ends.nd
  unfold b_ends L_ends_4 C_ends_3 L_ends_2 L_ends_1
  exact (dss_cons (d_asg hN (de_call (ok_numbers_of T) (hr.mono (by decide)) T.m_numbers_of T.F_numbers_of.kp T.b_numbers_of tk (dv_dat (de_ix de_var de_int) dv_nil))) 
  (dss_cons (d_asg hN (de_call (ok_numbers_of T) (hr.mono (by decide)) T.m_numbers_of T.F_numbers_of.kp T.b_numbers_of tk (dv_dat (de_ix de_var de_int) dv_nil))) 
  (dss_cons (d_asg hN (ds_lst da_nil)) 
  (dss_cons (d_for hp rfl (di_seq (de_ix de_var de_int)) (dg_tup rfl (dgs_cons (dg_name hN) (dgs_cons (dg_name hN) dgs_nil))) (dss_cons (d_asg hN ds_dctN) 
    (dss_cons (d_if (dt_cmp (od_eq hr.units) (de_ix de_var de_int) de_str) (dss_one (d_setD (hu_of hr) (de_ix de_var de_int) (de_get (hu_of hr) de_var (de_ix de_var de_int)))) dss_nil) 
    (dss_cons (d_for hp rfl (di_seq (de_asD (de_call (ok_named T) (hr.mono (by decide)) T.m_named T.F_named.kp T.b_named tk (dv_dat de_var (dv_dat de_var dv_nil))))) (dg_name hN) (dss_one (d_for hp rfl (di_seq (de_ownIx de_var)) (dg_tup rfl (dgs_cons (dg_name hN) (dgs_cons (dg_name hN) dgs_nil))) (dss_one (d_setD (hu_of hr) de_var de_var))))) 
    (dss_one (d_app (de_lcF (de_lcL (own := [("limb", 8)]) rfl hN (di_seq (de_callB (cd_sortedD rfl) T.g_sorted rfl (da_cons de_var da_nil))) (blkOk_by rfl) own_name tgk_name (fun _ _ _ _ _ => (dg_name (κ := T.kap) (P := []) hN).pg) (fun _ _ _ _ _ => dts_nil) (fun _ _ _ _ _ => (de_tup (da_cons de_var (da_cons (de_ownGet (hu_of hr) de_var) da_nil)))))))))))) 
  (dss_one (d_ret (ds_dat de_var)))))))
theorem sc_Guide_init : FnScope ["self", "book", "name", "form", "number", "part", "limb"] ["self", "book"] (defScope s_Guide_init) := ⟨rfl, rfl, rfl, by decide +kernel, rfl, by decide +kernel, by decide +kernel⟩
theorem ok_Guide_init (T : Fs K mg) : FnOk P w K mg base (L2.CX P w) 4 T.f_Guide_init T.d_Guide_init ["self", "book"] (spD K T.kap m_Guide_init) := by
  refine fn_okD (N := ["self", "book", "name", "form", "number", "part", "limb"]) (modes := [true, false]) (body := b_Guide_init) [0] T.F_Guide_init sc_Guide_init rfl (by decide) (pins_ok (by decide)) fun cdv A outer s H E hr tk hp => ?_
  have hN := sc_Guide_init.nd
  unfold b_Guide_init L_Guide_init_3 L_Guide_init_2 C_Guide_init_1
  exact (dss_cons (d_fld T.c_Guide T.n_Guide_forms (ds_dat (de_lcF (de_lcL (own := [("name", 2), ("form", 3)]) rfl hN (di_seq (de_ix de_var de_int)) (blkOk_by rfl) own_tup tgk_tup (fun _ _ _ _ _ => (dg_tup (κ := T.kap) (P := []) rfl (dgs_cons (dg_name hN) (dgs_cons (dg_name hN) dgs_nil))).pg) (fun _ _ _ _ _ => dts_nil) (fun _ _ _ _ _ => de_var))))) 
  (dss_cons (d_fld T.c_Guide T.n_Guide_numbers ds_dctN) 
  (dss_cons (d_for hp rfl (di_enum T.g_enumerate (da_cons (de_ix de_var de_int) da_nil)) (dg_tup rfl (dgs_cons (dg_name hN) (dgs_cons (dg_name hN) dgs_nil))) (dss_one (d_setDF (hu_of hr) T.c_Guide T.n_Guide_numbers de_var (de_ix de_var de_int)))) 
  (dss_cons (d_fld T.c_Guide T.n_Guide_limbs ds_dctN) 
  (dss_cons (d_for hp rfl (di_enum T.g_enumerate (da_cons (de_ix de_var de_int) da_nil)) (dg_tup rfl (dgs_cons (dg_name hN) (dgs_cons (dg_name hN) dgs_nil))) (dss_one (d_setDF (hu_of hr) T.c_Guide T.n_Guide_limbs de_var (de_ix de_var de_int)))) 
  (dss_cons (d_fld T.c_Guide T.n_Guide_lengths (de_call (ok_lengths T) (hr.mono (by decide)) T.m_lengths T.F_lengths.kp T.b_lengths tk (dv_dat de_var dv_nil))) 
  (dss_one (d_fld T.c_Guide T.n_Guide_ends (de_call (ok_ends T) (hr.mono (by decide)) T.m_ends T.F_ends.kp T.b_ends tk (dv_dat de_var dv_nil))))))))))
theorem sc_Guide_look_at : FnScope ["self", "beat"] ["self", "beat"] (defScope s_Guide_look_at) := ⟨rfl, rfl, rfl, by decide +kernel, rfl, by decide +kernel, by decide +kernel⟩
theorem ok_Guide_look_at (T : Fs K mg) : FnOk P w K mg base (L2.CX P w) 1 T.f_Guide_look_at T.d_Guide_look_at ["self", "beat"] (spD K T.kap m_Guide_look_at) := by
  refine fn_okD (N := ["self", "beat"]) (modes := [false, false]) (body := b_Guide_look_at) [] T.F_Guide_look_at sc_Guide_look_at rfl (by decide) (pins_ok (by decide)) fun cdv A outer s H E hr tk hp => ?_
  have hN := sc_Guide_look_at.nd
  unfold b_Guide_look_at
  exact (dss_cons (d_if (dt_w (dw_or (dt_cmp od_lt de_var de_int) (dw_or1 (dt_cmp od_gt de_var (de_ix (de_fld de_var T.c_Guide T.n_Guide_lengths) (de_neg de_int)))))) (dss_one d_never) dss_nil) 
  (dss_one (d_ret (ds_dat (de_cmp (od_eq hr.units) de_var (de_ix (de_fld de_var T.c_Guide T.n_Guide_lengths) (de_neg de_int)))))))
theorem sc_Guide_words : FnScope ["self", "number", "beat", "form", "inner", "found", "name"] ["self", "number", "beat"] (defScope s_Guide_words) := ⟨rfl, rfl, rfl, by decide +kernel, rfl, by decide +kernel, by decide +kernel⟩
theorem ok_Guide_words (T : Fs K mg) : ∀ n : Nat, FnOk P w K mg base (L2.CX P w) (0 + n) T.f_Guide_words T.d_Guide_words ["self", "number", "beat"] (spD K T.kap (m_Guide_words n))
  | 0 => fn_stuck
  | n + 1 => by
    have G_Guide_words := ok_Guide_words T n
    refine ?_
    · refine fn_okD (N := ["self", "number", "beat", "form", "inner", "found", "name"]) (modes := [false, false, false]) (body := b_Guide_words (m_Guide_words n)) [] T.F_Guide_words sc_Guide_words rfl (by decide) (pins_ok (by decide)) fun cdv A outer s H E hr tk hp => ?_
      have hN := sc_Guide_words.nd
      unfold b_Guide_words L_Guide_words_1
      exact (dss_cons (d_asg hN (ds_dat (de_ix (de_fld de_var T.c_Guide T.n_Guide_forms) de_var))) 
  (dss_cons (d_if (dt_w (dw_or (dt_cmp od_ge de_var (de_ix (de_fld de_var T.c_Guide T.n_Guide_lengths) de_var)) (dw_or (dt_cmp (od_eq hr.units) (de_ix de_var de_int) de_str) (dw_or1 (dt_cmp (od_eq hr.units) (de_ix de_var de_int) de_str))))) (dss_one (d_ret (ds_dat (de_lst da_nil)))) dss_nil) 
  (dss_cons (d_if (dt_cmp (od_eq hr.units) (de_ix de_var de_int) de_str) (dss_one (d_ret (ds_dat (de_if (dt_cmp (od_eq hr.units) de_var de_int) (de_lst (da_cons (de_ix de_var de_int) da_nil)) (de_lst da_nil))))) dss_nil) 
  (dss_cons (d_if (dt_cmp (od_eq hr.units) (de_ix de_var de_int) de_str) (dss_cons (d_asg hN (ds_dat (de_get (hu_of hr) (de_fld de_var T.c_Guide T.n_Guide_numbers) (de_ix de_var de_int)))) 
    (dss_one (d_ret (de_methV T.c_Guide T.h_Guide_words G_Guide_words (hr.mono (by first | omega | exact Nat.le_refl _ | exact Nat.le_trans (by decide) (Nat.le_add_right _ _))) T.b_Guide_words tk (dv_dat de_var (dv_dat (de_bin od_mod de_var (de_ix (de_fld de_var T.c_Guide T.n_Guide_lengths) de_var)) dv_nil)))))) dss_nil) 
  (dss_cons (d_asg hN (ds_lst da_nil)) 
  (dss_cons (d_for hp rfl (di_seq (de_ix de_var de_int)) (dg_name hN) (dss_cons (d_asg hN (ds_dat (de_get (hu_of hr) (de_fld de_var T.c_Guide T.n_Guide_numbers) de_var))) 
    (dss_cons (d_if (dt_cmp od_ge de_var de_int) (dss_one (d_ext (de_asD (de_methV T.c_Guide T.h_Guide_words G_Guide_words (hr.mono (by first | omega | exact Nat.le_refl _ | exact Nat.le_trans (by decide) (Nat.le_add_right _ _))) T.b_Guide_words tk (dv_dat de_var (dv_dat de_var dv_nil)))))) dss_nil) 
    (dss_one (d_if (dt_cmp (od_eq hr.units) (de_ix de_var de_int) de_str) (dss_one (d_asg hN (ds_dat (de_bin od_sub de_var (de_ix (de_fld de_var T.c_Guide T.n_Guide_lengths) de_var))))) dss_nil))))) 
  (dss_one (d_ret (ds_dat de_var)))))))))
theorem sc_rings : FnScope ["book", "beat", "guide"] ["book", "beat"] (defScope s_rings) := ⟨rfl, rfl, rfl, by decide +kernel, rfl, by decide +kernel, by decide +kernel⟩
theorem ok_rings (T : Fs K mg) : FnOk P w K mg base (L2.CX P w) 71 T.f_rings T.d_rings ["book", "beat"] (spD K T.kap m_rings) := by
  refine fn_okD (N := ["book", "beat", "guide"]) (modes := [false, false]) (body := b_rings) [] T.F_rings sc_rings rfl (by decide) (pins_ok (by decide)) fun cdv A outer s H E hr tk hp => ?_
  have hN := sc_rings.nd
  unfold b_rings
  exact (dss_cons (d_asg hN (ds_dat (de_asD (de_new T.k_Guide (ok_Guide_init T) (hr.mono (by decide)) T.m_Guide T.b_Guide_init tk (dv_dat de_var dv_nil))))) 
  (dss_cons (d_if (dt_val (de_asD (de_methV T.c_Guide T.h_Guide_look_at (ok_Guide_look_at T) (hr.mono (by decide)) T.b_Guide_look_at tk (dv_dat de_var dv_nil)))) (dss_one (d_ret (ds_dat (de_lst da_nil)))) dss_nil) 
  (dss_one (d_ret (de_methV T.c_Guide T.h_Guide_words (ok_Guide_words T 70) (hr.mono (by decide)) T.b_Guide_words tk (dv_dat (de_bin od_sub (de_callB cd_len T.g_len rfl (da_cons (de_ix de_var de_int) da_nil)) de_int) (dv_dat de_var dv_nil)))))))
theorem sc_turn_of : FnScope ["book", "beat"] ["book", "beat"] (defScope s_turn_of) := ⟨rfl, rfl, rfl, by decide +kernel, rfl, by decide +kernel, by decide +kernel⟩
theorem ok_turn_of (T : Fs K mg) : FnOk P w K mg base (L2.CX P w) 4 T.f_turn_of T.d_turn_of ["book", "beat"] (spD K T.kap m_turn_of) := by
  refine fn_okD (N := ["book", "beat"]) (modes := [false, false]) (body := b_turn_of) [] T.F_turn_of sc_turn_of rfl (by decide) (pins_ok (by decide)) fun cdv A outer s H E hr tk hp => ?_
  have hN := sc_turn_of.nd
  unfold b_turn_of
  exact (dss_cons (d_if (dt_cmp od_lt de_var de_int) (dss_one d_never) dss_nil) 
  (dss_one (d_ret (ds_dat (de_callB cd_divmod T.g_divmod rfl (da_cons de_var (da_cons (de_ix (de_asD (de_call (ok_lengths T) (hr.mono (by decide)) T.m_lengths T.F_lengths.kp T.b_lengths tk (dv_dat de_var dv_nil))) (de_neg de_int)) da_nil)))))))
theorem sc_rings_ever : FnScope ["book", "beat"] ["book", "beat"] (defScope s_rings_ever) := ⟨rfl, rfl, rfl, by decide +kernel, rfl, by decide +kernel, by decide +kernel⟩
theorem ok_rings_ever (T : Fs K mg) : FnOk P w K mg base (L2.CX P w) 72 T.f_rings_ever T.d_rings_ever ["book", "beat"] (spD K T.kap m_rings_ever) := by
  refine fn_okD (N := ["book", "beat"]) (modes := [false, false]) (body := b_rings_ever) [] T.F_rings_ever sc_rings_ever rfl (by decide) (pins_ok (by decide)) fun cdv A outer s H E hr tk hp => ?_
  have hN := sc_rings_ever.nd
  unfold b_rings_ever
  exact (dss_one (d_ret (de_call (ok_rings T) (hr.mono (by decide)) T.m_rings T.F_rings.kp T.b_rings tk (dv_dat de_var (dv_dat (de_ix (de_asD (de_call (ok_turn_of T) (hr.mono (by decide)) T.m_turn_of T.F_turn_of.kp T.b_turn_of tk (dv_dat de_var (dv_dat de_var dv_nil)))) de_int) dv_nil)))))
theorem sc_x_law_first : FnScope ["books", "words", "longs", "beat", "seen", "whole", "k", "one"] ["books", "words", "longs", "beat"] (defScope s_x_law_first) := ⟨rfl, rfl, rfl, by decide +kernel, rfl, by decide +kernel, by decide +kernel⟩
theorem ok_x_law_first (T : Fs K mg) : FnOk P w K mg base (L2.CX P w) 73 T.f_x_law_first T.d_x_law_first ["books", "words", "longs", "beat"] (spD K T.kap m_x_law_first) := by
  refine fn_okD (N := ["books", "words", "longs", "beat", "seen", "whole", "k", "one"]) (modes := [false, false, false, false]) (body := b_x_law_first) [] T.F_x_law_first sc_x_law_first rfl (by decide) (pins_ok (by decide)) fun cdv A outer s H E hr tk hp => ?_
  have hN := sc_x_law_first.nd
  unfold b_x_law_first L_x_law_first_4 C_x_law_first_3 L_x_law_first_2 C_x_law_first_1
  exact (dss_cons (d_asg hN (ds_lst da_nil)) 
  (dss_cons (d_asg hN (ds_dat de_int)) 
  (dss_cons (d_for hp rfl (di_range1 T.g_range (da_cons (de_callB cd_len T.g_len rfl (da_cons de_var da_nil)) da_nil)) (dg_name hN) (dss_cons (d_app (de_lcF (de_lcL (own := [("one", 7)]) rfl hN (di_range1 T.g_range (da_cons (de_ix de_var de_var) da_nil)) (blkOk_by rfl) own_name tgk_name (fun _ _ _ _ _ => (dg_name (κ := T.kap) (P := []) hN).pg) (fun _ _ _ _ _ => dts_nil) (fun _ _ _ _ _ => (de_cmp (od_inS (hr65 hr)) (de_ix de_var de_var) (de_asD (de_call (ok_rings_ever T) (hr.mono (by decide)) T.m_rings_ever T.F_rings_ever.kp T.b_rings_ever takes0 (dv_dat (de_ix de_var de_var) (dv_dat de_var dv_nil))))))))) 
    (dss_one (d_asg hN (ds_dat (de_bin od_mul de_var (de_ix de_var de_var))))))) 
  (dss_cons (d_for hp rfl (di_range2 T.g_range (da_cons de_var (da_cons (de_bin od_add de_var de_var) da_nil))) (dg_name hN) (dss_one (d_if (dt_val (de_callB (cd_all rfl) T.g_all rfl (da_cons (de_lcF (de_lcL (own := [("k", 6)]) rfl hN (di_range1 T.g_range (da_cons (de_callB cd_len T.g_len rfl (da_cons de_var da_nil)) da_nil)) (blkOk_by rfl) own_name tgk_name (fun _ _ _ _ _ => (dg_name (κ := T.kap) (P := []) hN).pg) (fun _ _ _ _ _ => dts_nil) (fun _ _ _ _ _ => (de_ix (de_ownIx de_var) (de_bin od_mod de_var (de_ix de_var de_var)))))) da_nil))) (dss_one (d_ret (ds_dat de_var))) dss_nil))) 
  (dss_one (d_ret (ds_dat de_non)))))))
theorem sc_look_at_beat : FnScope ["beat", "last"] ["beat", "last"] (defScope s_look_at_beat) := ⟨rfl, rfl, rfl, by decide +kernel, rfl, by decide +kernel, by decide +kernel⟩
theorem ok_look_at_beat (T : Fs K mg) : FnOk P w K mg base (L2.CX P w) 1 T.f_look_at_beat T.d_look_at_beat ["beat", "last"] (spD K T.kap m_look_at_beat) := by
  refine fn_okD (N := ["beat", "last"]) (modes := [false, false]) (body := b_look_at_beat) [] T.F_look_at_beat sc_look_at_beat rfl (by decide) (pins_ok (by decide)) fun cdv A outer s H E hr tk hp => ?_
  have hN := sc_look_at_beat.nd
  unfold b_look_at_beat
  exact (dss_one (d_if (dt_w (dw_or (dt_cmp od_lt de_var de_int) (dw_or1 (dt_cmp od_gt de_var de_var)))) (dss_one d_never) dss_nil))
theorem sc_Rings_part_rung : FnScope ["self", "k", "many", "turns", "rest", "told", "one"] ["self", "k", "many"] (defScope s_Rings_part_rung) := ⟨rfl, rfl, rfl, by decide +kernel, rfl, by decide +kernel, by decide +kernel⟩
theorem ok_Rings_part_rung (T : Fs K mg) : ∀ n : Nat, FnOk P w K mg base (L2.CX P w) (0 + n) T.f_Rings_part_rung T.d_Rings_part_rung ["self", "k", "many"] (spD K T.kap (m_Rings_part_rung n))
  | 0 => fn_stuck
  | n + 1 => by
    have G_Rings_part_rung := ok_Rings_part_rung T n
    refine ?_
    · refine fn_okD (N := ["self", "k", "many", "turns", "rest", "told", "one"]) (modes := [false, false, false]) (body := b_Rings_part_rung (m_Rings_part_rung n)) [] T.F_Rings_part_rung sc_Rings_part_rung rfl (by decide) (pins_ok (by decide)) fun cdv A outer s H E hr tk hp => ?_
      have hN := sc_Rings_part_rung.nd
      unfold b_Rings_part_rung L_Rings_part_rung_1
      exact (dss_cons (d_if (dt_w (dw_or (dt_cmp od_ge de_var (de_ix (de_fld de_var T.c_Rings T.n_Rings_long) de_var)) (dw_or (dt_cmp (od_eq hr.units) de_var de_int) (dw_or1 (dt_cmp (od_eq hr.units) (de_ix (de_fld de_var T.c_Rings T.n_Rings_counts) de_var) de_int))))) (dss_one (d_ret (ds_dat (de_bin od_mul (de_ix (de_fld de_var T.c_Rings T.n_Rings_counts) de_var) (de_callTy cd_int T.g_int rfl (da_cons (de_cmp od_gt de_var de_int) da_nil)))))) dss_nil) 
  (dss_cons (d_if (dt_cmp (od_eq hr.units) (de_ix (de_ix (de_fld de_var T.c_Rings T.n_Rings_forms) de_var) de_int) de_str) (dss_cons (d_asgT (de_callB cd_divmod T.g_divmod rfl (da_cons de_var (da_cons (de_ix (de_fld de_var T.c_Rings T.n_Rings_long) (de_ix (de_ix (de_fld de_var T.c_Rings T.n_Rings_named) de_var) de_int)) da_nil))) (dg_tup rfl (dgs_cons (dg_name hN) (dgs_cons (dg_name hN) dgs_nil)))) 
    (dss_one (d_ret (ds_dat (de_bin od_add (de_bin od_mul de_var (de_ix (de_fld de_var T.c_Rings T.n_Rings_counts) (de_ix (de_ix (de_fld de_var T.c_Rings T.n_Rings_named) de_var) de_int))) (de_asD (de_methV T.c_Rings T.h_Rings_part_rung G_Rings_part_rung (hr.mono (by first | omega | exact Nat.le_refl _ | exact Nat.le_trans (by decide) (Nat.le_add_right _ _))) T.b_Rings_part_rung tk (dv_dat (de_ix (de_ix (de_fld de_var T.c_Rings T.n_Rings_named) de_var) de_int) (dv_dat de_var dv_nil))))))))) dss_nil) 
  (dss_cons (d_asg hN (ds_dat (de_callTy cd_int T.g_int rfl (da_cons (de_cmp (od_eq hr.units) (de_ix (de_ix (de_fld de_var T.c_Rings T.n_Rings_forms) de_var) de_int) de_str) da_nil)))) 
  (dss_cons (d_for hp rfl (di_seq (de_ix (de_fld de_var T.c_Rings T.n_Rings_named) de_var)) (dg_name hN) (dss_cons (d_aug hN oi_add (de_asD (de_methV T.c_Rings T.h_Rings_part_rung G_Rings_part_rung (hr.mono (by first | omega | exact Nat.le_refl _ | exact Nat.le_trans (by decide) (Nat.le_add_right _ _))) T.b_Rings_part_rung tk (dv_dat de_var (dv_dat de_var dv_nil))))) 
    (dss_one (d_if (dt_cmp (od_eq hr.units) (de_ix (de_ix (de_fld de_var T.c_Rings T.n_Rings_forms) de_var) de_int) de_str) (dss_one (d_asg hN (ds_dat (de_callB (cd_max rfl) T.g_max rfl (da_cons de_int (da_cons (de_bin od_sub de_var (de_ix (de_fld de_var T.c_Rings T.n_Rings_long) de_var)) da_nil)))))) dss_nil)))) 
  (dss_one (d_ret (ds_dat de_var)))))))
theorem sc_Rings_ahead : FnScope ["self", "beat"] ["self", "beat"] (defScope s_Rings_ahead) := ⟨rfl, rfl, rfl, by decide +kernel, rfl, by decide +kernel, by decide +kernel⟩
theorem ok_Rings_ahead (T : Fs K mg) : FnOk P w K mg base (L2.CX P w) 71 T.f_Rings_ahead T.d_Rings_ahead ["self", "beat"] (spD K T.kap m_Rings_ahead) := by
  refine fn_okD (N := ["self", "beat"]) (modes := [false, false]) (body := b_Rings_ahead) [] T.F_Rings_ahead sc_Rings_ahead rfl (by decide) (pins_ok (by decide)) fun cdv A outer s H E hr tk hp => ?_
  have hN := sc_Rings_ahead.nd
  unfold b_Rings_ahead
  exact (dss_one (d_ret (de_methV T.c_Rings T.h_Rings_part_rung (ok_Rings_part_rung T 70) (hr.mono (by decide)) T.b_Rings_part_rung tk (dv_dat (de_bin od_sub (de_callB cd_len T.g_len rfl (da_cons (de_fld de_var T.c_Rings T.n_Rings_forms) da_nil)) de_int) (dv_dat de_var dv_nil)))))
theorem sc_inner_parts : FnScope ["book", "known", "told", "number", "part", "form", "named", "name"] ["book"] (defScope s_inner_parts) := ⟨rfl, rfl, rfl, by decide +kernel, rfl, by decide +kernel, by decide +kernel⟩
theorem ok_inner_parts (T : Fs K mg) : FnOk P w K mg base (L2.CX P w) 1 T.f_inner_parts T.d_inner_parts ["book"] (spD K T.kap m_inner_parts) := by
  refine fn_okD (N := ["book", "known", "told", "number", "part", "form", "named", "name"]) (modes := [false]) (body := b_inner_parts) [] T.F_inner_parts sc_inner_parts rfl (by decide) (pins_ok (by decide)) fun cdv A outer s H E hr tk hp => ?_
  have hN := sc_inner_parts.nd
  unfold b_inner_parts L_inner_parts_2 C_inner_parts_1
  exact (dss_cons (d_asg hN ds_dctN) 
  (dss_cons (d_asg hN (ds_lst da_nil)) 
  (dss_cons (d_for hp rfl (di_enum T.g_enumerate (da_cons (de_ix de_var de_int) da_nil)) (dg_tup rfl (dgs_cons (dg_name hN) (dgs_cons (dg_name hN) dgs_nil))) (dss_cons (d_asg hN (ds_dat (de_ix de_var de_int))) 
    (dss_cons (d_asg hN (ds_dat (de_lst da_nil))) 
    (dss_cons (d_if (dt_w (dw_or (dt_cmp (od_eq hr.units) (de_ix de_var de_int) de_str) (dw_or1 (dt_cmp (od_eq hr.units) (de_ix de_var de_int) de_str)))) (dss_one (d_setLc (own := [("name", 7)]) rfl hN (di_seq (de_ix de_var de_int)) (blkOk_by rfl) own_name tgk_name (fun _ _ _ _ _ => (dg_name (κ := T.kap) (P := []) hN).pg) (fun _ _ _ _ _ => dts_nil) (fun _ _ _ _ _ => (de_ownGet (hu_of hr) de_var)))) dss_nil) 
    (dss_cons (d_if (dt_cmp (od_eq hr.units) (de_ix de_var de_int) de_str) (dss_one (d_asg hN (ds_dat (de_lst (da_cons (de_ownGet (hu_of hr) (de_ix de_var de_int)) da_nil))))) dss_nil) 
    (dss_cons (d_app de_var) 
    (dss_one (d_setD (hu_of hr) de_var (de_ix de_var de_int))))))))) 
  (dss_one (d_ret (ds_dat de_var))))))
theorem sc_Rings_init : FnScope ["self", "book", "word", "part", "k", "told", "one"] ["self", "book", "word"] (defScope s_Rings_init) := ⟨rfl, rfl, rfl, by decide +kernel, rfl, by decide +kernel, by decide +kernel⟩
theorem ok_Rings_init (T : Fs K mg) : FnOk P w K mg base (L2.CX P w) 4 T.f_Rings_init T.d_Rings_init ["self", "book", "word"] (spD K T.kap m_Rings_init) := by
  refine fn_okD (N := ["self", "book", "word", "part", "k", "told", "one"]) (modes := [true, false, false]) (body := b_Rings_init) [0] T.F_Rings_init sc_Rings_init rfl (by decide) (pins_ok (by decide)) fun cdv A outer s H E hr tk hp => ?_
  have hN := sc_Rings_init.nd
  unfold b_Rings_init L_Rings_init_3 C_Rings_init_2 C_Rings_init_1
  exact (dss_cons (d_fld T.c_Rings T.n_Rings_forms (ds_dat (de_lcF (de_lcL (own := [("part", 3)]) rfl hN (di_seq (de_ix de_var de_int)) (blkOk_by rfl) own_name tgk_name (fun _ _ _ _ _ => (dg_name (κ := T.kap) (P := []) hN).pg) (fun _ _ _ _ _ => dts_nil) (fun _ _ _ _ _ => (de_ix de_var de_int)))))) 
  (dss_cons (d_fld T.c_Rings T.n_Rings_named (de_call (ok_inner_parts T) (hr.mono (by decide)) T.m_inner_parts T.F_inner_parts.kp T.b_inner_parts tk (dv_dat de_var dv_nil))) 
  (dss_cons (d_fld T.c_Rings T.n_Rings_long (de_call (ok_lengths T) (hr.mono (by decide)) T.m_lengths T.F_lengths.kp T.b_lengths tk (dv_dat de_var dv_nil))) 
  (dss_cons (d_fld T.c_Rings T.n_Rings_counts (ds_lst da_nil)) 
  (dss_one (d_for hp rfl (di_range1 T.g_range (da_cons (de_callB cd_len T.g_len rfl (da_cons (de_self T.c_Rings T.n_Rings_forms) da_nil)) da_nil)) (dg_name hN) (dss_cons (d_asg hN (ds_dat (de_callB (cd_sum rfl) T.g_sum rfl (da_cons (de_lcF (de_lcL (own := [("one", 6)]) rfl hN (di_seq (de_selfIx T.c_Rings T.n_Rings_named de_var)) (blkOk_by rfl) own_name tgk_name (fun _ _ _ _ _ => (dg_name (κ := T.kap) (P := []) hN).pg) (fun _ _ _ _ _ => dts_nil) (fun _ _ _ _ _ => (de_selfIx T.c_Rings T.n_Rings_counts de_var)))) da_nil)))) 
    (dss_cons (d_if (dt_cmp (od_eq hr.units) (de_ix (de_selfIx T.c_Rings T.n_Rings_forms de_var) de_int) de_str) (dss_one (d_asg hN (ds_dat (de_callTy cd_int T.g_int rfl (da_cons (de_cmp (od_eq hr.units) (de_ix (de_selfIx T.c_Rings T.n_Rings_forms de_var) de_int) de_var) da_nil))))) dss_nil) 
    (dss_cons (d_if (dt_cmp (od_eq hr.units) (de_ix (de_selfIx T.c_Rings T.n_Rings_forms de_var) de_int) de_str) (dss_one (d_asg hN (ds_dat (de_bin od_mul de_var (de_ix (de_selfIx T.c_Rings T.n_Rings_forms de_var) de_int))))) dss_nil) 
    (dss_one (d_appF T.c_Rings T.n_Rings_counts de_var)))))))))))
theorem sc_ring_count : FnScope ["book", "word", "beat"] ["book", "word", "beat"] (defScope s_ring_count) := ⟨rfl, rfl, rfl, by decide +kernel, rfl, by decide +kernel, by decide +kernel⟩
theorem ok_ring_count (T : Fs K mg) : FnOk P w K mg base (L2.CX P w) 72 T.f_ring_count T.d_ring_count ["book", "word", "beat"] (spD K T.kap m_ring_count) := by
  refine fn_okD (N := ["book", "word", "beat"]) (modes := [false, false, false]) (body := b_ring_count) [] T.F_ring_count sc_ring_count rfl (by decide) (pins_ok (by decide)) fun cdv A outer s H E hr tk hp => ?_
  have hN := sc_ring_count.nd
  unfold b_ring_count
  exact (dss_cons (d_drop (de_asD (de_call (ok_look_at_beat T) (hr.mono (by decide)) T.m_look_at_beat T.F_look_at_beat.kp T.b_look_at_beat tk (dv_dat de_var (dv_dat (de_bin od_add (de_ix (de_asD (de_call (ok_lengths T) (hr.mono (by decide)) T.m_lengths T.F_lengths.kp T.b_lengths tk (dv_dat de_var dv_nil))) (de_neg de_int)) de_int) dv_nil))))) 
  (dss_one (d_ret (de_methE (de_asD (de_new T.k_Rings (ok_Rings_init T) (hr.mono (by decide)) T.m_Rings T.b_Rings_init tk (dv_dat de_var (dv_dat de_var dv_nil)))) T.c_Rings T.h_Rings_ahead (ok_Rings_ahead T) (hr.mono (by decide)) T.b_Rings_ahead tk (dv_dat de_var dv_nil)))))
theorem sc_first_beyond : FnScope ["counted", "number", "low", "high", "middle"] ["counted", "number", "low", "high"] (defScope s_first_beyond) := ⟨rfl, rfl, rfl, by decide +kernel, rfl, by decide +kernel, by decide +kernel⟩
theorem ok_first_beyond (T : Fs K mg) : FnOk P w K mg base (L2.CX P w) 72 T.f_first_beyond T.d_first_beyond ["counted", "number", "low", "high"] (spD K T.kap m_first_beyond) := by
  refine fn_okD (N := ["counted", "number", "low", "high", "middle"]) (modes := [false, false, false, false]) (body := b_first_beyond) [] T.F_first_beyond sc_first_beyond rfl (by decide) (pins_ok (by decide)) fun cdv A outer s H E hr tk hp => ?_
  have hN := sc_first_beyond.nd
  unfold b_first_beyond
  exact (dss_cons (d_while 400 hp (dt_cmp od_lt de_var de_var) (dss_cons (d_asg hN (ds_dat (de_bin od_fdiv (de_bin od_add de_var de_var) de_int))) 
    (dss_one (d_if (dt_cmp od_gt (de_asD (de_methV T.c_Rings T.h_Rings_ahead (ok_Rings_ahead T) (hr.mono (by decide)) T.b_Rings_ahead tk (dv_dat (de_bin od_add de_var de_int) dv_nil))) de_var) (dss_one (d_asg hN (ds_dat de_var))) (dss_one (d_asg hN (ds_dat (de_bin od_add de_var de_int)))))))) 
  (dss_one (d_ret (ds_dat de_var))))
theorem sc_ring_beat : FnScope ["book", "word", "number", "last", "counted"] ["book", "word", "number"] (defScope s_ring_beat) := ⟨rfl, rfl, rfl, by decide +kernel, rfl, by decide +kernel, by decide +kernel⟩
theorem ok_ring_beat (T : Fs K mg) : FnOk P w K mg base (L2.CX P w) 73 T.f_ring_beat T.d_ring_beat ["book", "word", "number"] (spD K T.kap m_ring_beat) := by
  refine fn_okD (N := ["book", "word", "number", "last", "counted"]) (modes := [false, false, false]) (body := b_ring_beat) [] T.F_ring_beat sc_ring_beat rfl (by decide) (pins_ok (by decide)) fun cdv A outer s H E hr tk hp => ?_
  have hN := sc_ring_beat.nd
  unfold b_ring_beat
  exact (dss_cons (d_asg hN (ds_dat (de_ix (de_asD (de_call (ok_lengths T) (hr.mono (by decide)) T.m_lengths T.F_lengths.kp T.b_lengths tk (dv_dat de_var dv_nil))) (de_neg de_int)))) 
  (dss_cons (d_asg hN (ds_dat (de_asD (de_new T.k_Rings (ok_Rings_init T) (hr.mono (by decide)) T.m_Rings T.b_Rings_init tk (dv_dat de_var (dv_dat de_var dv_nil)))))) 
  (dss_cons (d_if (dt_cmp od_le (de_asD (de_methV T.c_Rings T.h_Rings_ahead (ok_Rings_ahead T) (hr.mono (by decide)) T.b_Rings_ahead tk (dv_dat (de_bin od_add de_var de_int) dv_nil))) de_var) (dss_one (d_ret (ds_dat de_non))) dss_nil) 
  (dss_one (d_ret (de_call (ok_first_beyond T) (hr.mono (by decide)) T.m_first_beyond T.F_first_beyond.kp T.b_first_beyond tk (dv_dat de_var (dv_dat de_var (dv_dat de_int (dv_dat de_var dv_nil))))))))))
theorem sc_beats_of : FnScope ["book", "word", "many", "found", "number", "beat"] ["book", "word"] (defScope s_beats_of) := ⟨rfl, rfl, rfl, by decide +kernel, rfl, by decide +kernel, by decide +kernel⟩
theorem ok_beats_of (T : Fs K mg) : FnOk P w K mg base (L2.CX P w) 74 T.f_beats_of T.d_beats_of ["book", "word"] (spD K T.kap m_beats_of) := by
  refine fn_okD (N := ["book", "word", "many", "found", "number", "beat"]) (modes := [false, false]) (body := b_beats_of) [] T.F_beats_of sc_beats_of rfl (by decide) (pins_ok (by decide)) fun cdv A outer s H E hr tk hp => ?_
  have hN := sc_beats_of.nd
  unfold b_beats_of
  exact (dss_cons (d_asg hN (de_call (ok_ring_count T) (hr.mono (by decide)) T.m_ring_count T.F_ring_count.kp T.b_ring_count tk (dv_dat de_var (dv_dat de_var (dv_dat (de_ix (de_asD (de_call (ok_lengths T) (hr.mono (by decide)) T.m_lengths T.F_lengths.kp T.b_lengths tk (dv_dat de_var dv_nil))) (de_neg de_int)) dv_nil))))) 
  (dss_cons (d_if (dt_cmp od_gt de_var (de_gint T.g_MOST)) (dss_one d_never) dss_nil) 
  (dss_cons (d_asg hN (ds_lst da_nil)) 
  (dss_cons (d_for hp rfl (di_range1 T.g_range (da_cons de_var da_nil)) (dg_name hN) (dss_cons (d_asg hN (de_call (ok_ring_beat T) (hr.mono (by decide)) T.m_ring_beat T.F_ring_beat.kp T.b_ring_beat tk (dv_dat de_var (dv_dat de_var (dv_dat de_var dv_nil))))) 
    (dss_one (d_if (dt_q (dt_cmp (od_notInS (hr65 hr)) de_var de_var)) (dss_one (d_app de_var)) dss_nil)))) 
  (dss_one (d_ret (ds_dat de_var)))))))
theorem sc_whole_steps : FnScope ["one", "other", "times", "later", "share", "rest"] ["one", "other"] (defScope s_whole_steps) := ⟨rfl, rfl, rfl, by decide +kernel, rfl, by decide +kernel, by decide +kernel⟩
theorem ok_whole_steps (T : Fs K mg) : FnOk P w K mg base (L2.CX P w) 1 T.f_whole_steps T.d_whole_steps ["one", "other"] (spD K T.kap m_whole_steps) := by
  refine fn_okD (N := ["one", "other", "times", "later", "share", "rest"]) (modes := [false, false]) (body := b_whole_steps) [] T.F_whole_steps sc_whole_steps rfl (by decide) (pins_ok (by decide)) fun cdv A outer s H E hr tk hp => ?_
  have hN := sc_whole_steps.nd
  unfold b_whole_steps
  exact (dss_cons (d_asg hN (ds_dat de_int)) 
  (dss_cons (d_asg hN (ds_dat de_int)) 
  (dss_cons (d_while 400 hp (dt_cmp od_gt de_var de_int) (dss_cons (d_asgT (de_callB cd_divmod T.g_divmod rfl (da_cons de_var (da_cons de_var da_nil))) (dg_tup rfl (dgs_cons (dg_name hN) (dgs_cons (dg_name hN) dgs_nil)))) 
    (dss_cons (d_par rfl hN (da_cons de_var (da_cons de_var da_nil))) 
    (dss_one (d_par rfl hN (da_cons de_var (da_cons (de_bin od_sub de_var (de_bin od_mul de_var de_var)) da_nil))))))) 
  (dss_one (d_ret (ds_dat (de_tup (da_cons de_var (da_cons de_var da_nil)))))))))
theorem sc_joined : FnScope ["beat", "turn", "other", "other_turn", "common", "times", "share", "whole"] ["beat", "turn", "other", "other_turn"] (defScope s_joined) := ⟨rfl, rfl, rfl, by decide +kernel, rfl, by decide +kernel, by decide +kernel⟩
theorem ok_joined (T : Fs K mg) : FnOk P w K mg base (L2.CX P w) 2 T.f_joined T.d_joined ["beat", "turn", "other", "other_turn"] (spD K T.kap m_joined) := by
  refine fn_okD (N := ["beat", "turn", "other", "other_turn", "common", "times", "share", "whole"]) (modes := [false, false, false, false]) (body := b_joined) [] T.F_joined sc_joined rfl (by decide) (pins_ok (by decide)) fun cdv A outer s H E hr tk hp => ?_
  have hN := sc_joined.nd
  unfold b_joined
  exact (dss_cons (d_asgT (de_asD (de_call (ok_whole_steps T) (hr.mono (by decide)) T.m_whole_steps T.F_whole_steps.kp T.b_whole_steps tk (dv_dat de_var (dv_dat de_var dv_nil)))) (dg_tup rfl (dgs_cons (dg_name hN) (dgs_cons (dg_name hN) dgs_nil)))) 
  (dss_cons (d_if (dt_cmp (od_ne hr.units) (de_bin od_mod (de_bin od_sub de_var de_var) de_var) de_int) (dss_one (d_ret (ds_dat de_non))) dss_nil) 
  (dss_cons (d_asg hN (ds_dat (de_bin od_mod (de_bin od_mul (de_bin od_fdiv (de_bin od_sub de_var de_var) de_var) de_var) (de_bin od_fdiv de_var de_var)))) 
  (dss_cons (d_asg hN (ds_dat (de_bin od_mul de_var (de_bin od_fdiv de_var de_var)))) 
  (dss_one (d_ret (ds_dat (de_tup (da_cons (de_bin od_mod (de_bin od_add de_var (de_bin od_mul de_var de_var)) de_var) (da_cons de_var da_nil))))))))))
theorem sc_meeting : FnScope ["books", "words", "beat", "rung", "book", "word", "rows", "some", "long", "both", "first", "whole", "other", "row", "found", "here"] ["books", "words", "beat"] (defScope s_meeting) := ⟨rfl, rfl, rfl, by decide +kernel, rfl, by decide +kernel, by decide +kernel⟩
theorem ok_meeting (T : Fs K mg) : FnOk P w K mg base (L2.CX P w) 75 T.f_meeting T.d_meeting ["books", "words", "beat"] (spD K T.kap m_meeting) := by
  refine fn_okD (N := ["books", "words", "beat", "rung", "book", "word", "rows", "some", "long", "both", "first", "whole", "other", "row", "found", "here"]) (modes := [false, false, false]) (body := b_meeting) [] T.F_meeting sc_meeting rfl (by decide) (pins_ok (by decide)) fun cdv A outer s H E hr tk hp => ?_
  have hN := sc_meeting.nd
  unfold b_meeting
  exact (dss_cons (d_setLc (own := [("book", 4), ("word", 5)]) rfl hN (di_zip T.g_zip (da_cons de_var (da_cons de_var da_nil))) (blkOk_by rfl) own_tup tgk_tup (fun _ _ _ _ _ => (dg_tup (κ := T.kap) (P := []) rfl (dgs_cons (dg_name hN) (dgs_cons (dg_name hN) dgs_nil))).pg) (fun _ _ _ _ _ => dts_nil) (fun _ _ _ _ _ => (de_asD (de_call (ok_beats_of T) (hr.mono (by decide)) T.m_beats_of T.F_beats_of.kp T.b_beats_of takes0 (dv_dat de_var (dv_dat de_var dv_nil)))))) 
  (dss_cons (d_asg hN (ds_dat (de_lst (da_cons (de_tup (da_cons de_int (da_cons de_int da_nil))) da_nil)))) 
  (dss_cons (d_for hp rfl (di_zip T.g_zip (da_cons de_var (da_cons de_var da_nil))) (dg_tup rfl (dgs_cons (dg_name hN) (dgs_cons (dg_name hN) dgs_nil))) (dss_cons (d_asg hN (ds_dat (de_ix (de_asD (de_call (ok_lengths T) (hr.mono (by decide)) T.m_lengths T.F_lengths.kp T.b_lengths tk (dv_dat de_var dv_nil))) (de_neg de_int)))) 
    (dss_cons (d_asg hN (ds_lst da_nil)) 
    (dss_cons (d_for hp rfl (di_seq de_var) (dg_tup rfl (dgs_cons (dg_name hN) (dgs_cons (dg_name hN) dgs_nil))) (dss_one (d_ext (de_lcF (de_lcL (own := [("other", 12)]) rfl hN (di_seq de_var) (blkOk_by rfl) own_name tgk_name (fun _ _ _ _ _ => (dg_name (κ := T.kap) (P := []) hN).pg) (fun _ _ _ _ _ => dts_nil) (fun _ _ _ _ _ => (de_asD (de_call (ok_joined T) (hr.mono (by decide)) T.m_joined T.F_joined.kp T.b_joined takes0 (dv_dat de_var (dv_dat de_var (dv_dat de_var (dv_dat de_var dv_nil)))))))))))) 
    (dss_one (d_setLc (own := [("row", 13)]) rfl hN (di_seq de_var) (blkOk_by rfl) own_name tgk_name (fun _ _ _ _ _ => (dg_name (κ := T.kap) (P := []) hN).pg) (fun _ _ _ _ _ => (dts_one (dt_cmp od_notN de_var de_non))) (fun _ _ _ _ _ => de_var))))))) 
  (dss_cons (d_asg hN (ds_dat de_non)) 
  (dss_cons (d_for hp rfl (di_seq de_var) (dg_tup rfl (dgs_cons (dg_name hN) (dgs_cons (dg_name hN) dgs_nil))) (dss_cons (d_asg hN (ds_dat (de_bin od_add de_var (de_bin od_mul (de_callB (cd_max rfl) T.g_max rfl (da_cons de_int (da_cons (de_bin od_fdiv (de_bin od_sub (de_bin od_add (de_bin od_sub de_var de_var) de_var) de_int) de_var) da_nil))) de_var)))) 
    (dss_one (d_if (dt_w (dw_or (dt_cmp od_isN de_var de_non) (dw_or1 (dt_cmp od_lt de_var de_var)))) (dss_one (d_asg hN (ds_dat de_var))) dss_nil)))) 
  (dss_one (d_ret (ds_dat de_var))))))))
theorem sc_law : FnScope ["script", "books", "longs", "words", "k", "book", "long", "cell", "beat", "handed", "due", "found", "one"] ["script"] (defScope s_law) := ⟨rfl, rfl, rfl, by decide +kernel, rfl, by decide +kernel, by decide +kernel⟩
theorem ok_law (T : Fs K mg) : FnOk P w K mg base (L2.CX P w) 76 T.f_law T.d_law ["script"] (spD K T.kap m_law) := by
  refine fn_okD (N := ["script", "books", "longs", "words", "k", "book", "long", "cell", "beat", "handed", "due", "found", "one"]) (modes := [false]) (body := b_law) [] T.F_law sc_law rfl (by decide) (pins_ok (by decide)) fun cdv A outer s H E hr tk hp => ?_
  have hN := sc_law.nd
  unfold b_law L_law_2 L_law_1
  exact (dss_cons (d_asg hN (ds_lst da_nil)) 
  (dss_cons (d_asg hN (ds_lst da_nil)) 
  (dss_cons (d_asg hN (ds_lst da_nil)) 
  (dss_cons (d_for hp rfl (di_range1 T.g_range (da_cons (de_bin od_add de_int (de_bin od_mod (de_asD (de_call (ok_x_law_cell_at T) (hr.mono (by decide)) T.m_x_law_cell_at T.F_x_law_cell_at.kp T.b_x_law_cell_at tk (dv_dat de_var (dv_dat de_int dv_nil)))) de_int)) da_nil)) (dg_name hN) (dss_cons (d_asgT (de_asD (de_call (ok_x_law_small T) (hr.mono (by decide)) T.m_x_law_small T.F_x_law_small.kp T.b_x_law_small tk (dv_dat (de_bin od_mod (de_asD (de_call (ok_x_law_cell_at T) (hr.mono (by decide)) T.m_x_law_cell_at T.F_x_law_cell_at.kp T.b_x_law_cell_at tk (dv_dat de_var (dv_dat (de_bin od_add de_int de_var) dv_nil)))) (de_bin od_pow de_int de_int)) dv_nil))) (dg_tup rfl (dgs_cons (dg_name hN) (dgs_cons (dg_name hN) dgs_nil)))) 
    (dss_cons (d_app de_var) 
    (dss_cons (d_app de_var) 
    (dss_one (d_app (de_ix (de_lst (da_cons de_str (da_cons de_str da_nil))) (de_bin od_mod (de_asD (de_call (ok_x_law_cell_at T) (hr.mono (by decide)) T.m_x_law_cell_at T.F_x_law_cell_at.kp T.b_x_law_cell_at tk (dv_dat de_var (dv_dat (de_bin od_add de_int de_var) dv_nil)))) de_int)))))))) 
  (dss_cons (d_for hp rfl (di_seq (de_bin od_add (de_lst (da_cons de_int da_nil)) (de_sl de_var (do_some de_int) (do_some de_int)))) (dg_name hN) (dss_cons (d_asg hN (ds_dat (de_bin od_mod de_var de_int))) 
    (dss_cons (d_asg hN (ds_dat (de_lst (da_cons (de_callTy cd_list T.g_list rfl (da_cons de_var da_nil)) (da_cons (de_callTy cd_list T.g_list rfl (da_cons de_var da_nil)) da_nil))))) 
    (dss_cons (d_asg hN (de_call (ok_x_law_first T) (hr.mono (by decide)) T.m_x_law_first T.F_x_law_first.kp T.b_x_law_first tk (dv_dat de_var (dv_dat de_var (dv_dat de_var (dv_dat de_var dv_nil)))))) 
    (dss_cons (d_asg hN (de_call (ok_meeting T) (hr.mono (by decide)) T.m_meeting T.F_meeting.kp T.b_meeting tk (dv_dat (de_ix de_var de_int) (dv_dat (de_ix de_var de_int) (dv_dat de_var dv_nil))))) 
    (dss_cons (d_if (dt_w (dw_or (dt_w (dw_and (dt_cmp od_isN de_var de_non) (dw_and1 (dt_cmp od_notN de_var de_non)))) (dw_or1 (dt_w (dw_and (dt_cmp od_notN de_var de_non) (dw_and1 (dt_w (dw_or (dt_not (dt_val (de_isB T.g_isinstance T.g_int rfl (by decide) de_var))) (dw_or1 (dt_cmp (od_ne hr.units) de_var de_var)))))))))) (dss_one (d_ret (ds_dat de_bl))) dss_nil) 
    (dss_one (d_if (dt_q (dt_cmp (od_ne hr.units) de_var (de_lst (da_cons de_var (da_cons de_var da_nil))))) (dss_one (d_ret (ds_dat de_bl))) dss_nil)))))))) 
  (dss_cons (d_asg hN (de_call (ok_meeting T) (hr.mono (by decide)) T.m_meeting T.F_meeting.kp T.b_meeting tk (dv_dat (de_sl de_var do_none (do_some de_int)) (dv_dat (de_sl de_var do_none (do_some de_int)) (dv_dat de_int dv_nil))))) 
  (dss_one (d_ret (ds_dat (de_cmp (od_eq hr.units) (de_asD (de_call (ok_meeting T) (hr.mono (by decide)) T.m_meeting T.F_meeting.kp T.b_meeting tk (dv_dat (de_lst (da_cons (de_ownIx de_int) (da_cons (de_ownIx de_int) da_nil))) (dv_dat (de_lst (da_cons (de_ownIx de_int) (da_cons (de_ownIx de_int) da_nil))) (dv_dat de_int dv_nil))))) de_var))))))))))
end
end DL.Law

/-! T0: runs of mirrors over lists -/
namespace DL
open PySem L2
theorem lcLoop_filter {α : Type} {vs : List Nat} {g : TM} {t : EM Bool} {f : EM D} (enc : α → D) (p : α → Bool) (F : α → D) {e0 : Slots} : ∀ (xs : List α) (acc : List D) (e : Slots), wipeE e vs = e0 →
    (∀ a ∈ xs, ∃ E, g (enc a) e0 = some E ∧ t E = .ok (p a) E ∧ wipeE E vs = e0 ∧ (p a = true → ∃ E', f E = .ok (F a) E' ∧ wipeE E' vs = e0)) → acc.length + xs.length ≤ 1000000 →
    ∃ e', wipeE e' vs = e0 ∧ lcLoop vs g t f (xs.map enc) acc e = .ok (acc ++ (xs.filter p).map F) e'
  | [], acc, e, hw, _, _ => ⟨e, hw, by simp⟩
  | x :: xs, acc, e, hw, h, hl => by
    obtain ⟨E, h1, h2, h3, h4⟩ := h x (by simp)
    simp only [List.length_cons] at hl
    cases hp : p x with
    | false =>
      obtain ⟨e', w', r⟩ := lcLoop_filter enc p F xs acc E h3 (fun a m => h a (List.mem_cons_of_mem _ m)) (by omega)
      refine ⟨e', w', ?_⟩
      rw [List.map_cons, lcLoop_cons', hw, h1, rLc_some, h2, hp, rTst_f, r]
      simp [hp]
    | true =>
      obtain ⟨E', h5, h6⟩ := h4 hp
      obtain ⟨e', w', r⟩ := lcLoop_filter enc p F xs (acc ++ [F x]) E' h6 (fun a m => h a (List.mem_cons_of_mem _ m)) (by simp; omega)
      refine ⟨e', w', ?_⟩
      have hz : acc.length < sizeLine := by have := sizeLine_eq; omega
      rw [List.map_cons, lcLoop_cons', hw, h1, rLc_some, h2, hp, rTst_t, h5, rAcc_ok, if_pos hz, r]
      simp [hp]
/-- [f for g in it if t], all data -/
theorem eLc_filter {α : Type} {vs : List Nat} {it : EM (List D)} {g : TM} {t : EM Bool} {f : EM D} {e : Slots} (xs : List α) (enc : α → D) (p : α → Bool) (F : α → D) (hit : it e = .ok (xs.map enc) e)
    (h : ∀ a ∈ xs, ∃ E, g (enc a) (wipeE e vs) = some E ∧ t E = .ok (p a) E ∧ wipeE E vs = wipeE e vs ∧ (p a = true → ∃ E', f E = .ok (F a) E' ∧ wipeE E' vs = wipeE e vs)) (hl : xs.length ≤ 1000000) (hno : noOwn e vs = true) (hb : backE e (wipeE e vs) vs = e) :
    eLc vs it g t f e = .ok ((xs.filter p).map F) e := by
  obtain ⟨e', w', r⟩ := lcLoop_filter (vs := vs) (g := g) (t := t) (f := f) enc p F xs [] e rfl h (by simpa using hl)
  rw [eLc_ap, hit, bind_ok, r, rFin_ok, if_pos hno, w', hb, List.nil_append]
/-- [f for g in it], all data -/
theorem eLc_map {α : Type} {vs : List Nat} {it : EM (List D)} {g : TM} {f : EM D} {e : Slots} (xs : List α) (enc : α → D) (F : α → D) (hit : it e = .ok (xs.map enc) e)
    (h : ∀ a ∈ xs, ∃ E E', g (enc a) (wipeE e vs) = some E ∧ f E = .ok (F a) E' ∧ wipeE E vs = wipeE e vs ∧ wipeE E' vs = wipeE e vs) (hl : xs.length ≤ 1000000) (hno : noOwn e vs = true := by rfl) (hb : backE e (wipeE e vs) vs = e := by rfl) :
    eLc vs it g bYes f e = .ok (xs.map F) e := by
  have := eLc_filter (t := bYes) (vs := vs) (g := g) (f := f) xs enc (fun _ => true) F hit (fun a m => by
    obtain ⟨E, E', h1, h2, h3, h4⟩ := h a m
    exact ⟨E, h1, rfl, h3, fun _ => ⟨E', h2, h4⟩⟩) hl hno hb
  rwa [List.filter_eq_self.mpr (fun _ _ => rfl)] at this
theorem set_none_self (e : Slots) (i : Nat) (h : e[i]? = some none) : e.set i none = e := by
  apply List.ext_getElem?
  intro j
  by_cases hj : i = j
  · subst hj
    rw [h, List.getElem?_set_self (List.getElem?_eq_some_iff.mp h).1]
  · rw [List.getElem?_set_ne hj]
/-- [f for i in it if t], all data, i a plain new name -/
theorem eLc_nf {α : Type} {i : Nat} {it : EM (List D)} {t : EM Bool} {f : EM D} {e : Slots} (xs : List α) (enc : α → D) (p : α → Bool) (F : α → D) (hit : it e = .ok (xs.map enc) e) (hi : e[i]? = some none)
    (ht : ∀ a ∈ xs, t (e.set i (some (.dat (enc a)))) = .ok (p a) (e.set i (some (.dat (enc a)))))
    (h : ∀ a ∈ xs, p a = true → f (e.set i (some (.dat (enc a)))) = .ok (F a) (e.set i (some (.dat (enc a))))) (hl : xs.length ≤ 1000000) : eLc [i] it (gN i) t f e = .ok ((xs.filter p).map F) e := by
  have hlt := (List.getElem?_eq_some_iff.mp hi).1
  have hw : wipeE e [i] = e := by simp [set_none_self e i hi]
  refine eLc_filter xs enc p F hit (fun a m => ⟨e.set i (some (.dat (enc a))), ?_, ht a m, ?_, fun hp => ⟨_, h a m hp, ?_⟩⟩) hl ?_ ?_
  · rw [hw]; simp [hlt]
  · simp
  · simp
  · simp [hi]
  · rw [hw]; simp [hi]
/-- .. i a name that data stands at, perhaps -/
theorem eLc_nfx {α : Type} {i : Nat} {it : EM (List D)} {t : EM Bool} {f : EM D} {e : Slots} (xs : List α) (enc : α → D) (p : α → Bool) (F : α → D) (hit : it e = .ok (xs.map enc) e) (x : Option D) (hi : e[i]? = some (x.map .dat))
    (ht : ∀ a ∈ xs, t (e.set i (some (.dat (enc a)))) = .ok (p a) (e.set i (some (.dat (enc a)))))
    (h : ∀ a ∈ xs, p a = true → f (e.set i (some (.dat (enc a)))) = .ok (F a) (e.set i (some (.dat (enc a))))) (hl : xs.length ≤ 1000000) : eLc [i] it (gN i) t f e = .ok ((xs.filter p).map F) e := by
  have hlt := (List.getElem?_eq_some_iff.mp hi).1
  have hw : wipeE e [i] = e.set i none := by simp
  have hself : e.set i (x.map .dat) = e := by
    apply List.ext_getElem?
    intro j
    by_cases hj : i = j
    · subst hj
      rw [hi, List.getElem?_set_self hlt]
    · rw [List.getElem?_set_ne hj]
  refine eLc_filter xs enc p F hit (fun a m => ⟨e.set i (some (.dat (enc a))), ?_, ht a m, ?_, fun hp => ⟨_, h a m hp, ?_⟩⟩) hl ?_ ?_
  · rw [hw]; simp [hlt]
  · simp
  · simp
  · cases x <;> simp [hi]
  · rw [hw]
    cases x with
    | none => simp only [Option.map_none] at hi hself; simp [hi, hself]
    | some d => simp only [Option.map_some] at hi hself; simp [hi, hself]
theorem eLc_nx {α : Type} {i : Nat} {it : EM (List D)} {f : EM D} {e : Slots} (xs : List α) (enc : α → D) (F : α → D) (hit : it e = .ok (xs.map enc) e) (x : Option D) (hi : e[i]? = some (x.map .dat))
    (h : ∀ a ∈ xs, f (e.set i (some (.dat (enc a)))) = .ok (F a) (e.set i (some (.dat (enc a))))) (hl : xs.length ≤ 1000000) : eLc [i] it (gN i) bYes f e = .ok (xs.map F) e := by
  have := eLc_nfx (t := bYes) (f := f) xs enc (fun _ => true) F hit x hi (fun _ _ => rfl) (fun a m _ => h a m) hl
  rwa [List.filter_eq_self.mpr (fun _ _ => rfl)] at this
theorem eLc_n {α : Type} {i : Nat} {it : EM (List D)} {f : EM D} {e : Slots} (xs : List α) (enc : α → D) (F : α → D) (hit : it e = .ok (xs.map enc) e) (hi : e[i]? = some none)
    (h : ∀ a ∈ xs, f (e.set i (some (.dat (enc a)))) = .ok (F a) (e.set i (some (.dat (enc a))))) (hl : xs.length ≤ 1000000) : eLc [i] it (gN i) bYes f e = .ok (xs.map F) e := by
  have := eLc_nf (t := bYes) (f := f) xs enc (fun _ => true) F hit hi (fun _ _ => rfl) (fun a m _ => h a m) hl
  rwa [List.filter_eq_self.mpr (fun _ _ => rfl)] at this
/-- [f for i, j in it], all data -/
theorem eLc_2 {α : Type} {i j : Nat} {it : EM (List D)} {f : EM D} {e : Slots} (xs : List α) (A B : α → D) (F : α → D) (hit : it e = .ok (xs.map fun a => .tup [A a, B a]) e) (hi : e[i]? = some none) (hj : e[j]? = some none)
    (h : ∀ a ∈ xs, f ((e.set i (some (.dat (A a)))).set j (some (.dat (B a)))) = .ok (F a) ((e.set i (some (.dat (A a)))).set j (some (.dat (B a))))) (hl : xs.length ≤ 1000000) (hij : i ≠ j := by decide) : eLc [i, j] it (gT [gN i, gN j]) bYes f e = .ok (xs.map F) e := by
  have hlt := (List.getElem?_eq_some_iff.mp hi).1
  have hlt2 := (List.getElem?_eq_some_iff.mp hj).1
  have hw : wipeE e [i, j] = e := by simp [set_none_self e i hi, set_none_self e j hj]
  refine eLc_map xs _ F hit (fun a m => ⟨(e.set i (some (.dat (A a)))).set j (some (.dat (B a))), _, ?_, h a m, ?_, ?_⟩) hl ?_ ?_
  · rw [hw]; simp [hlt, hlt2]
  · rw [hw]
    simp only [wipeE_cons, wipeE_nil, List.set_set]
    rw [List.set_comm _ _ hij, List.set_set, set_none_self e j hj, set_none_self e i hi]
  · rw [hw]
    simp only [wipeE_cons, wipeE_nil, List.set_set]
    rw [List.set_comm _ _ hij, List.set_set, set_none_self e j hj, set_none_self e i hi]
  · simp [hi, hj]
  · rw [hw]; simp [hi, hj]
/-- a slot that was left behind -/
def oD (x : Option D) : Option SV := x.map .dat
@[simp] theorem oD_some (d : D) : oD (some d) = some (.dat d) := rfl
@[simp] theorem oD_none : oD none = none := rfl
@[simp] theorem viewEnv_oD (x : Option D) (e : Slots) : viewEnv (oD x :: e) = oD x :: viewEnv e := by cases x <;> rfl
@[simp] theorem rNo_oD (x : Option D) : rNo (some (oD x)) = true := by cases x <;> rfl
theorem getD_lt {α : Type} (l : List α) (k : Nat) (d : α) (h : k < l.length) : l.getD k d = l[k] := by
  rw [List.getD_eq_getElem?_getD, List.getElem?_eq_getElem h]; rfl
theorem enumD_from (ds : List D) : enumD ds = (ds.zipIdx 0).map fun p => .tup [.int (p.2 : Nat), p.1] := by
  unfold enumD
  apply List.ext_getElem
  · simp
  · intro i h1 h2
    simp at h1
    simp [h1]
theorem range_nat (n : Nat) : rangeD 0 (n : Nat) = (List.range n).map fun i => .int (i : Nat) := by
  unfold rangeD
  simp
theorem smallI_n (n : Nat) (h : n ≤ 1000) : smallI (n : Nat) := by
  unfold smallI; omega
theorem rRng_n (m : Nat) (h : m ≤ 1000) (e : Slots) : rRng [.int (m : Nat)] e = .ok ((List.range m).map fun i => .int (i : Nat)) e := by
  rw [rRng_1, if_pos (smallI_n m h), range_nat]
  rfl
/-- an index that is there -/
theorem atI_nn {α : Type} (ds : List α) (k : Nat) (h : k < ds.length) : atI ds (k : Int) = some ds[k] := by
  rw [atI_nat, List.getElem?_eq_getElem h]
theorem atI_last {α : Type} (ds : List α) (x : α) : atI (ds ++ [x]) (-1) = some x := by
  rw [atI_neg1 _ (by simp)]
  simp
end DL

/-! T1: plays, as plain trees -/
namespace DL.Law
open PySem L2 DL
/-- a part's form, with numbers of limbs and of parts -/
inductive Fm where
  | raise (l : Nat) (h b : Int) | hold (b : Int) | ring (w : Str) (b : Int) | row (ks : List Nat) | side (ks : List Nat) | again (n : Int) (k : Nat)
/-- a part, unfolded -/
inductive Tr where
  | raise (l : Nat) (h b : Int) | hold (b : Int) | ring (w : Str) (b : Int) | row (ts : List Tr) | side (ts : List Tr) | again (n : Int) (x : Tr)
def tr0 : Tr := .hold 1
def tg (acc : List Tr) (k : Nat) : Tr := acc.getD k tr0
theorem tg_get {acc : List Tr} {k : Nat} (h : k < acc.length) : acc[k]? = some (tg acc k) := by
  rw [tg, List.getD_eq_getElem?_getD, List.getElem?_eq_getElem h]; rfl
theorem tg_app {acc r : List Tr} {k : Nat} (h : k < acc.length) : tg (acc ++ r) k = tg acc k := by
  rw [tg, tg, List.getD_eq_getElem?_getD, List.getD_eq_getElem?_getD, List.getElem?_append_left h]
def mkT (acc : List Tr) : Fm → Tr
  | .raise l h b => .raise l h b
  | .hold b => .hold b
  | .ring w b => .ring w b
  | .row ks => .row (ks.map (tg acc))
  | .side ks => .side (ks.map (tg acc))
  | .again n k => .again n (tg acc k)
def trsA : List Tr → List Fm → List Tr
  | acc, [] => acc
  | acc, f :: fs => trsA (acc ++ [mkT acc f]) fs
def trs (fs : List Fm) : List Tr := trsA [] fs
def Fm.refs : Fm → List Nat
  | .row ks => ks
  | .side ks => ks
  | .again _ k => [k]
  | _ => []
theorem trsA_len : ∀ (fs : List Fm) (acc : List Tr), (trsA acc fs).length = acc.length + fs.length
  | [], acc => by simp [trsA]
  | f :: fs, acc => by rw [trsA, trsA_len fs]; simp; omega
theorem trs_len (fs : List Fm) : (trs fs).length = fs.length := by rw [trs, trsA_len]; simp
theorem trsA_pre : ∀ (fs : List Fm) (acc : List Tr), ∃ r, trsA acc fs = acc ++ r
  | [], acc => ⟨[], by simp [trsA]⟩
  | f :: fs, acc => by
    obtain ⟨r, h⟩ := trsA_pre fs (acc ++ [mkT acc f])
    exact ⟨mkT acc f :: r, by rw [trsA, h]; simp⟩
theorem trsA_append : ∀ (fs gs : List Fm) (acc : List Tr), trsA acc (fs ++ gs) = trsA (trsA acc fs) gs
  | [], gs, acc => rfl
  | f :: fs, gs, acc => by rw [List.cons_append, trsA, trsA, trsA_append fs gs]
theorem trs_snoc (fs : List Fm) (f : Fm) : trs (fs ++ [f]) = trs fs ++ [mkT (trs fs) f] := by rw [trs, trsA_append]; rfl
/-- each part names parts ahead of it -/
def Refs : List Fm → Prop := fun fs => ∀ (i : Nat) (f : Fm), fs[i]? = some f → ∀ k ∈ f.refs, k < i
theorem mkT_congr {acc acc' : List Tr} {f : Fm} (h : ∀ k ∈ f.refs, tg acc k = tg acc' k) : mkT acc f = mkT acc' f := by
  cases f <;> simp only [mkT, Fm.refs] at h ⊢
  · congr 1; exact List.map_congr_left h
  · congr 1; exact List.map_congr_left h
  · congr 1; exact h _ (by simp)
theorem trs_at {fs : List Fm} (hr : Refs fs) {i : Nat} {f : Fm} (h : fs[i]? = some f) : (trs fs)[i]? = some (mkT (trs fs) f) := by
  have hi : i < fs.length := (List.getElem?_eq_some_iff.mp h).1
  have e : fs = fs.take i ++ f :: fs.drop (i + 1) := by
    have := List.getElem?_eq_some_iff.mp h
    obtain ⟨h1, h2⟩ := this
    rw [← h2, ← List.drop_eq_getElem_cons h1, List.take_append_drop]
  have hl : (trs (fs.take i)).length = i := by rw [trs_len, List.length_take]; omega
  obtain ⟨r, hp⟩ := trsA_pre (fs.drop (i + 1)) (trs (fs.take i) ++ [mkT (trs (fs.take i)) f])
  have ee : trs fs = trs (fs.take i) ++ [mkT (trs (fs.take i)) f] ++ r := by
    rw [← hp]
    conv => lhs; rw [e]
    rw [trs, trsA_append, trsA]; rfl
  have hm : mkT (trs (fs.take i)) f = mkT (trs fs) f := mkT_congr fun k hk => by
    have hki := hr i f h k hk
    rw [ee, List.append_assoc, tg_app (by omega)]
  rw [← hm]
  conv => lhs; rw [ee]
  rw [List.getElem?_append_left (by simp [hl]), List.getElem?_append_right (by omega)]
  simp [hl]
/-! ### what is told of a tree -/
mutual
def len : Tr → Int
  | .raise _ _ b => b
  | .hold b => b
  | .ring _ b => b
  | .row ts => lens ts
  | .side ts => maxs ts
  | .again n x => n * len x
def lens : List Tr → Int
  | [] => 0
  | t :: ts => len t + lens ts
def maxs : List Tr → Int
  | [] => 0
  | t :: ts => max (len t) (maxs ts)
end
mutual
/-- where it leaves a limb -/
def en : Tr → Nat → Option Int
  | .raise l h _, i => if i = l then some h else none
  | .hold _, _ => none
  | .ring _ _, _ => none
  | .row ts, i => ens ts i
  | .side ts, i => ens ts i
  | .again _ x, i => en x i
def ens : List Tr → Nat → Option Int
  | [], _ => none
  | t :: ts, i => (ens ts i).or (en t i)
end
def mv (t : Tr) (i : Nat) : Bool := (en t i).isSome
/-- .. the limb that stood at h -/
def lv (t : Tr) (i : Nat) (h : Int) : Int := (en t i).getD h
def ramp (s g b j : Int) : Int := s + (g - s) * j / b
mutual
/-- the height of limb i at a beat, that stood at h -/
def ht : Tr → Nat → Int → Int → Int
  | .raise l g n, i, b, h => if i = l then ramp h g n b else h
  | .hold _, _, _, h => h
  | .ring _ _, _, _, h => h
  | .row ts, i, b, h => htR ts i b h
  | .side ts, i, b, h => htS ts i b h
  | .again _ x, i, b, h => ht x i (b % len x) (if b / len x > 0 then lv x i h else h)
def htR : List Tr → Nat → Int → Int → Int
  | [], _, _, h => h
  | t :: ts, i, b, h => if b < len t then ht t i b h else htR ts i (b - len t) (lv t i h)
def htS : List Tr → Nat → Int → Int → Int
  | [], _, _, h => h
  | t :: ts, i, b, h => htS ts i b (if b < len t then ht t i b h else lv t i h)
end
mutual
/-- the words rung at a beat -/
def wd : Tr → Int → List Str
  | .raise _ _ _, _ => []
  | .hold _, _ => []
  | .ring w n, b => if n ≤ b then [] else if b = 0 then [w] else []
  | .row ts, b => if lens ts ≤ b then [] else wdR ts b
  | .side ts, b => if maxs ts ≤ b then [] else wdS ts b
  | .again n x, b => if n * len x ≤ b then [] else wd x (b % len x)
def wdR : List Tr → Int → List Str
  | [], _ => []
  | t :: ts, b => (if 0 ≤ b then wd t b else []) ++ wdR ts (b - len t)
def wdS : List Tr → Int → List Str
  | [], _ => []
  | t :: ts, b => wd t b ++ wdS ts b
end
/-- moved limbs, in order -/
def mvL (nl : Nat) (t : Tr) : List Nat := (List.range nl).filter (mv t)
def enL (nl : Nat) (t : Tr) : List (Nat × Int) := (List.range nl).filterMap fun i => (en t i).map fun h => (i, h)
/-! ### books -/
structure Bk where
  hs : List (Str × Int)
  ps : List (Str × Fm)
namespace Bk
def hn (b : Bk) : List Str := b.hs.map (·.1)
def pn (b : Bk) : List Str := b.ps.map (·.1)
def fs (b : Bk) : List Fm := b.ps.map (·.2)
def ts (b : Bk) : List Tr := trs b.fs
def t (b : Bk) (k : Nat) : Tr := tg b.ts k
def nl (b : Bk) : Nat := b.hs.length
end Bk
def nmD (ns : List Str) (k : Nat) : D := .str (ns.getD k ⟨#[]⟩)
def Fm.toD (hn pn : List Str) : Fm → D
  | .raise l h b => .tup [.str "raise", nmD hn l, .int h, .int b]
  | .hold b => .tup [.str "hold", .int b]
  | .ring w b => .tup [.str "ring", .str w, .int b]
  | .row ks => .tup [.str "row", .tup (ks.map (nmD pn))]
  | .side ks => .tup [.str "side", .tup (ks.map (nmD pn))]
  | .again n k => .tup [.str "again", .int n, nmD pn k]
def limbD (l : Str × Int) : D := .tup [.str l.1, .int l.2]
def partD (hn pn : List Str) (p : Str × Fm) : D := .tup [.str p.1, p.2.toD hn pn]
def Bk.toD (b : Bk) : D := .tup [.lst (b.hs.map limbD), .lst (b.ps.map (partD b.hn b.pn))]
end DL.Law

/-! T2: looks: numbers, names -/
namespace DL.Law
open PySem L2 DL
theorem setK_new {κ' β : Type} [DecidableEq κ'] {kvs : List (κ' × β)} {k : κ'} {v : β} (h : ∀ p ∈ kvs, p.1 ≠ k) : setK kvs k v = kvs ++ [(k, v)] := by
  unfold setK
  rw [if_neg]
  simp only [List.any_eq_true, decide_eq_true_eq, not_exists, not_and]
  exact fun p m => h p m
def numFrom (k : Nat) (ns : List Str) : List (Key × D) := (ns.zipIdx k).map fun p => (.inr p.1, .int (p.2 : Nat))
def numD (ns : List Str) : D := .dct (numFrom 0 ns)
theorem numFrom_cons (k : Nat) (n : Str) (ns : List Str) : numFrom k (n :: ns) = (.inr n, .int (k : Nat)) :: numFrom (k + 1) ns := rfl
theorem numbers_loop (R : D) : ∀ (rows : List (Str × List D)) (k : Nat) (acc : List (Key × D)) (x y : Option SV), acc.length + rows.length ≤ 1000 → (rows.map (·.1)).Nodup → (∀ p ∈ acc, ∀ r ∈ rows, p.1 ≠ .inr r.1) →
    ∃ x' y', loopD (gT [gN 2, gN 3]) L_numbers_of_1 ((((rows.map fun r => D.tup (.str r.1 :: r.2)).zipIdx k).map fun p => .tup [.int (p.2 : Nat), p.1])) [some (.dat R), some (.own (.lf (.dct acc))), x, y] =
      .ok .nx [some (.dat R), some (.own (.lf (.dct (acc ++ numFrom k (rows.map (·.1)))))), x', y']
  | [], k, acc, x, y, _, _, _ => ⟨x, y, by simp [numFrom]⟩
  | r :: rows, k, acc, x, y, hl, hn, ha => by
    simp only [List.length_cons] at hl
    simp only [List.map_cons, List.nodup_cons] at hn
    obtain ⟨x', y', ih⟩ := numbers_loop R rows (k + 1) (acc ++ [(.inr r.1, .int (k : Nat))]) (some (.dat (.int (k : Nat)))) (some (.dat (.tup (.str r.1 :: r.2)))) (by simp; omega) hn.2 (fun p m s ms => by
      rcases List.mem_append.mp m with m | m
      · exact ha p m s (List.mem_cons_of_mem _ ms)
      · simp at m; subst m
        intro e
        exact hn.1 (List.mem_map.mpr ⟨s, ms, (Sum.inr.inj e).symm⟩))
    refine ⟨x', y', ?_⟩
    rw [List.map_cons, List.map_cons, numFrom_cons, show ∀ (a : Key × D) (l m : List (Key × D)), l ++ a :: m = (l ++ [a]) ++ m by simp, ← ih]
    have hz : acc.length < sizeLine := by have := sizeLine_eq; omega
    have hs : setK acc (.inr r.1) (.int (k : Nat)) = acc ++ [(.inr r.1, .int (k : Nat))] := setK_new fun p m => ha p m r (by simp)
    simp [L_numbers_of_1, hz, hs]
theorem numbers_of (rows : List (Str × List D)) (hl : rows.length ≤ 1000) (hn : (rows.map (·.1)).Nodup) : m_numbers_of [.dat (.lst (rows.map fun r => D.tup (.str r.1 :: r.2)))] = .ok (.dat (numD (rows.map (·.1)))) [none] := by
  unfold m_numbers_of b_numbers_of
  rw [fnD_ap _ _ _ _ rfl]
  obtain ⟨x', y', h⟩ := numbers_loop (.lst (rows.map fun r => D.tup (.str r.1 :: r.2))) rows 0 [] none none (by simpa using hl) hn (by simp)
  rw [← enumD_from] at h
  simp [h, numD]
theorem numbers_limbs (hs : List (Str × Int)) (hl : hs.length ≤ 1000) (hn : (hs.map (·.1)).Nodup) : m_numbers_of [.dat (.lst (hs.map limbD))] = .ok (.dat (numD (hs.map (·.1)))) [none] := by
  have := numbers_of (hs.map fun l => (l.1, [.int l.2])) (by simpa using hl) (by rw [List.map_map]; exact hn)
  rw [List.map_map, List.map_map] at this
  exact this
theorem numbers_parts (hn pn : List Str) (ps : List (Str × Fm)) (hl : ps.length ≤ 1000) (hd : (ps.map (·.1)).Nodup) : m_numbers_of [.dat (.lst (ps.map (partD hn pn)))] = .ok (.dat (numD (ps.map (·.1)))) [none] := by
  have := numbers_of (ps.map fun l => (l.1, [l.2.toD hn pn])) (by simpa using hl) (by rw [List.map_map]; exact hd)
  rw [List.map_map, List.map_map] at this
  exact this
theorem getK_num : ∀ (ns : List Str) (j k : Nat), ns.Nodup → k < ns.length → getK (numFrom j ns) (.inr (ns.getD k ⟨#[]⟩)) = some (.int ((j + k : Nat) : Int))
  | [], _, _, _, h => by simp at h
  | n :: ns, j, 0, _, _ => by simp [numFrom_cons]
  | n :: ns, j, k + 1, hd, h => by
    simp only [List.nodup_cons] at hd
    rw [numFrom_cons, getK_cons]
    have : ns.getD k ⟨#[]⟩ ∈ ns := by
      rw [getD_lt _ _ _ (by simpa using h)]
      exact List.getElem_mem _
    have hne : ¬ (Sum.inr n : Key) = .inr ((n :: ns).getD (k + 1) ⟨#[]⟩) := by
      simp only [List.getD_cons_succ]
      intro e; cases e; exact hd.1 this
    rw [if_neg hne, List.getD_cons_succ, getK_num ns (j + 1) k hd.2 (by simpa using h)]
    simp; omega
theorem opGet_num {ns : List Str} {k : Nat} (hd : ns.Nodup) (h : k < ns.length) : opGet (numD ns) (nmD ns k) = some (.int (k : Int)) := by
  show (keyOf (nmD ns k)).bind (getK (numFrom 0 ns)) = _
  have := getK_num ns 0 k hd h
  simp only [nmD, keyOf, Option.bind_some]
  rw [this]; simp
/-- the numbers of the parts named -/
theorem named_row {hn pn : List Str} (hd : pn.Nodup) (ks : List Nat) (hk : ∀ k ∈ ks, k < pn.length) (hl : ks.length ≤ 1000) (s : Bool) : m_named [.dat ((if s then Fm.row ks else Fm.side ks).toD hn pn), .dat (numD pn)] = .ok (.dat (.lst (ks.map fun k => .int (k : Nat)))) [none, none] := by
  unfold m_named b_named
  rw [fnD_ap _ _ _ _ rfl]
  have hc : ∀ w : String, eLc [2] (iSeq (eBin opIx (eVar 0) (eC (.int 1)))) (gN 2) bYes C_named_1 [some (.dat (.tup [.str w, .tup (ks.map (nmD pn))])), some (.dat (numD pn)), none] = .ok (ks.map fun k => .int (k : Nat)) [some (.dat (.tup [.str w, .tup (ks.map (nmD pn))])), some (.dat (numD pn)), none] := fun w =>
    eLc_n ks (nmD pn) (fun k => .int (k : Nat)) (by simp) rfl (fun k m => by simp [C_named_1, opGet_num hd (hk k m)]) (by omega)
  cases s
  · simp [-eLc_ap, Fm.toD, hc]
  · simp [-eLc_ap, Fm.toD, hc]
end DL.Law

/-! T0b: equality of plain data -/
namespace DL
open PySem L2
mutual
/-- plain data without truths, of a depth -/
def Pl : Nat → D → Bool
  | _, .non => true
  | _, .int _ => true
  | _, .str x => PyData.strOk x
  | n + 1, .tup xs => Pls n xs
  | n + 1, .lst xs => Pls n xs
  | _, _ => false
def Pls : Nat → List D → Bool
  | _, [] => true
  | n, x :: r => Pl n x && Pls n r
end
theorem Pls_iff {n : Nat} : ∀ {xs : List D}, Pls n xs = true ↔ ∀ x ∈ xs, Pl n x = true
  | [] => by simp [Pls]
  | x :: r => by simp [Pls, Pls_iff (xs := r)]
theorem Pls_map {α : Type} {n : Nat} {xs : List α} {f : α → D} (h : ∀ x ∈ xs, Pl n (f x) = true) : Pls n (xs.map f) = true := by
  rw [Pls_iff]
  intro x hx
  obtain ⟨a, m, rfl⟩ := List.mem_map.mp hx
  exact h a m
mutual
theorem Pl.pyOk : ∀ (n : Nat) (d : D), Pl n d = true → d.pyOk = true
  | _, .non, _ => rfl
  | _, .int _, _ => rfl
  | _, .str x, _ => rfl
  | n + 1, .tup xs, h => by simp only [D.pyOk]; exact Pls.pyOk n xs (by simpa [Pl] using h)
  | n + 1, .lst xs, h => by simp only [D.pyOk]; exact Pls.pyOk n xs (by simpa [Pl] using h)
  | 0, .tup xs, h => by simp [Pl] at h
  | 0, .lst xs, h => by simp [Pl] at h
  | _, .bl _, h => by simp [Pl] at h
  | _, .any, h => by simp [Pl] at h
  | _, .scr _, h => by simp [Pl] at h
  | _, .dct _, h => by simp [Pl] at h
  | _, .obj _ _, h => by simp [Pl] at h
theorem Pls.pyOk : ∀ (n : Nat) (d : List D), Pls n d = true → D.pyOks d = true
  | _, [], _ => rfl
  | n, x :: r, h => by
    simp only [Pls, Bool.and_eq_true] at h
    simp only [D.pyOks, Bool.and_eq_true]
    exact ⟨Pl.pyOk n x h.1, Pls.pyOk n r h.2⟩
end
mutual
theorem Pl.lay : ∀ (n : Nat) (d : D), Pl n d = true → d.py.canLay0 = true ∧ d.py.depth ≤ n
  | _, .non, _ => by simp [D.py, PyData.canLay0, PyData.depth]
  | _, .int _, _ => by simp [D.py, PyData.canLay0, PyData.depth]
  | _, .str x, h => by simpa [D.py, PyData.canLay0, PyData.depth, Pl] using h
  | n + 1, .tup xs, h => by
    have := Pls.lay n xs (by simpa [Pl] using h)
    simp only [D.py, PyData.canLay0, PyData.depth]
    exact ⟨this.1, by omega⟩
  | n + 1, .lst xs, h => by
    have := Pls.lay n xs (by simpa [Pl] using h)
    simp only [D.py, PyData.canLay0, PyData.depth]
    exact ⟨this.1, by omega⟩
  | 0, .tup xs, h => by simp [Pl] at h
  | 0, .lst xs, h => by simp [Pl] at h
  | _, .bl _, h => by simp [Pl] at h
  | _, .any, h => by simp [Pl] at h
  | _, .scr _, h => by simp [Pl] at h
  | _, .dct _, h => by simp [Pl] at h
  | _, .obj _ _, h => by simp [Pl] at h
theorem Pls.lay : ∀ (n : Nat) (d : List D), Pls n d = true → PyData.canLayAll0 (D.pys d) = true ∧ PyData.depthAll (D.pys d) ≤ n
  | _, [], _ => by simp [D.pys, PyData.canLayAll0, PyData.depthAll]
  | n, x :: r, h => by
    simp only [Pls, Bool.and_eq_true] at h
    have h1 := Pl.lay n x h.1
    have h2 := Pls.lay n r h.2
    simp only [D.pys, PyData.canLayAll0, PyData.depthAll, Bool.and_eq_true]
    exact ⟨⟨h1.1, h2.1⟩, by omega⟩
end
theorem Pl.shaped {n : Nat} {d : D} (h : Pl n d = true) (hn : n ≤ 64) : SeqAt.shaped d.py = true := by
  have := Pl.lay n d h
  unfold SeqAt.shaped
  simp only [Bool.and_eq_true, decide_eq_true_eq]
  exact ⟨this.1, by omega⟩
mutual
theorem Pl.eqv : ∀ (n : Nat) (x y : D), Pl n x = true → Pl n y = true → (PyData.eqv x.py y.py = true ↔ x = y)
  | n, .non, y, _, hy => by cases n <;> cases y <;> simp [Pl, D.py, PyData.eqv] at hy ⊢
  | n, .int i, y, _, hy => by cases n <;> cases y <;> simp [Pl, D.py, PyData.eqv] at hy ⊢
  | n, .str i, y, _, hy => by cases n <;> cases y <;> simp [Pl, D.py, PyData.eqv] at hy ⊢
  | n + 1, .tup xs, y, h, hy => by
    cases y <;> simp only [Pl] at h hy <;> try (cases hy)
    · simp [D.py, PyData.eqv]
    · simp [D.py, PyData.eqv]
    · simp [D.py, PyData.eqv]
    · simp only [D.py, PyData.eqv]; rw [Pls.eqv n _ _ h hy]; simp
    · simp [D.py, PyData.eqv]
  | n + 1, .lst xs, y, h, hy => by
    cases y <;> simp only [Pl] at h hy <;> try (cases hy)
    · simp [D.py, PyData.eqv]
    · simp [D.py, PyData.eqv]
    · simp [D.py, PyData.eqv]
    · simp [D.py, PyData.eqv]
    · simp only [D.py, PyData.eqv]; rw [Pls.eqv n _ _ h hy]; simp
  | 0, .tup xs, _, h, _ => by simp [Pl] at h
  | 0, .lst xs, _, h, _ => by simp [Pl] at h
  | _, .bl _, _, h, _ => by simp [Pl] at h
  | _, .any, _, h, _ => by simp [Pl] at h
  | _, .scr _, _, h, _ => by simp [Pl] at h
  | _, .dct _, _, h, _ => by simp [Pl] at h
  | _, .obj _ _, _, h, _ => by simp [Pl] at h
theorem Pls.eqv : ∀ (n : Nat) (x y : List D), Pls n x = true → Pls n y = true → (PyData.eqvAll (D.pys x) (D.pys y) = true ↔ x = y)
  | _, [], [], _, _ => by simp [D.pys, PyData.eqvAll]
  | _, [], y :: ys, _, _ => by simp [D.pys, PyData.eqvAll]
  | _, x :: xs, [], _, _ => by simp [D.pys, PyData.eqvAll]
  | n, x :: xs, y :: ys, h, hy => by
    simp only [Pls, Bool.and_eq_true] at h hy
    simp only [D.pys, PyData.eqvAll, Bool.and_eq_true]
    rw [Pl.eqv n x y h.1 hy.1, Pls.eqv n xs ys h.2 hy.2]
    simp
end
theorem eqOk_pl {n : Nat} {x y : D} (hx : Pl n x = true) (hy : Pl n y = true) (hn : n ≤ 64) : eqOk x y = true := by
  unfold eqOk
  simp only [Bool.and_eq_true]
  exact ⟨⟨⟨Pl.pyOk n x hx, Pl.pyOk n y hy⟩, Pl.shaped hx hn⟩, Pl.shaped hy hn⟩
theorem opEq_pl {n : Nat} {x y : D} (hx : Pl n x = true) (hy : Pl n y = true) (hn : n ≤ 64) {b : Bool} (hb : b = true ↔ x = y) : opEq x y = some (.bl b) := by
  unfold opEq
  rw [if_pos (eqOk_pl hx hy hn)]
  have := Pl.eqv n x y hx hy
  rw [← hb] at this
  rw [Bool.eq_iff_iff.mpr this]
theorem opNe_pl {n : Nat} {x y : D} (hx : Pl n x = true) (hy : Pl n y = true) (hn : n ≤ 64) {b : Bool} (hb : b = true ↔ x = y) : opNe x y = some (.bl (!b)) := by
  unfold opNe
  rw [if_pos (eqOk_pl hx hy hn)]
  have := Pl.eqv n x y hx hy
  rw [← hb] at this
  rw [Bool.eq_iff_iff.mpr this]
theorem opEq_self {n : Nat} {x : D} (hx : Pl n x = true) (hn : n ≤ 64) : opEq x x = some (.bl true) := opEq_pl hx hx hn (by simp)
theorem opNe_self {n : Nat} {x : D} (hx : Pl n x = true) (hn : n ≤ 64) : opNe x x = some (.bl false) := opNe_pl hx hx hn (b := true) (by simp)
theorem Pl.mono : ∀ {n m : Nat} {d : D}, n ≤ m → Pl n d = true → Pl m d = true := by
  suffices ∀ (n m : Nat), n ≤ m → (∀ d, Pl n d = true → Pl m d = true) ∧ (∀ ds, Pls n ds = true → Pls m ds = true) from fun {n m d} h => (this n m h).1 d
  intro n
  induction n with
  | zero =>
    intro m _
    have h1 : ∀ d, Pl 0 d = true → Pl m d = true := fun d h => by cases m <;> cases d <;> simp [Pl] at h ⊢ <;> exact h
    exact ⟨h1, fun ds h => Pls_iff.mpr fun x hx => h1 x (Pls_iff.mp h x hx)⟩
  | succ n ih =>
    intro m hm
    obtain ⟨m, rfl⟩ : ∃ k, m = k + 1 := ⟨m - 1, by omega⟩
    have ih := ih m (by omega)
    have h1 : ∀ d, Pl (n + 1) d = true → Pl (m + 1) d = true := fun d h => by
      cases d <;> simp only [Pl] at h ⊢ <;> first | exact h | exact ih.2 _ h | trivial
    exact ⟨h1, fun ds h => Pls_iff.mpr fun x hx => h1 x (Pls_iff.mp h x hx)⟩
/-- x in [..] -/
theorem opInS_pl {n : Nat} {x : D} {ds : List D} (hx : Pl (n + 1) x = true) (hd : Pls n ds = true) (hn : n < 64) {b : Bool} (hb : b = true ↔ x ∈ ds) : opInS x (.lst ds) = some (.bl b) := by
  have hl : Pl (n + 1) (.lst ds) = true := by simpa [Pl] using hd
  show (if eqOk x (.lst ds) = true then _ else _) = _
  rw [if_pos (eqOk_pl hx hl (by omega))]
  congr 2
  rw [Bool.eq_iff_iff, hb, List.any_eq_true]
  constructor
  · rintro ⟨z, m, e⟩
    rw [Pl.eqv (n + 1) z x (Pl.mono (by omega) (Pls_iff.mp hd z m)) hx] at e
    exact e ▸ m
  · intro m
    exact ⟨x, m, (Pl.eqv (n + 1) x x hx hx).mpr rfl⟩
theorem Pls_ints (n : Nat) (ns : List Int) : Pls n (ns.map D.int) = true := Pls_map fun _ _ => by cases n <;> rfl
theorem intsOf_mapF {α : Type} (f : α → Int) (ns : List α) : intsOf (ns.map fun a => D.int (f a)) = some (ns.map f) := by
  rw [show (ns.map fun a => D.int (f a)) = (ns.map f).map D.int by rw [List.map_map]; rfl, intsOf_map]
end DL

/-! T3: looks: limbs moved, lengths -/
namespace DL.Law
open PySem L2 DL
def natsD (l : List Nat) : D := .lst (l.map fun i => .int (i : Nat))
def mvD (nl : Nat) (t : Tr) : D := natsD (mvL nl t)
@[simp] theorem rExt_mv (i nl : Nat) (t : Tr) (e : Slots) (ds : List D) : rExt i (mvD nl t) e (some (some (.own (.lf (.lst ds))))) = if ds.length + (mvL nl t).length ≤ sizeLine then .ok .nx (e.set i (some (.own (.lf (.lst (ds ++ (mvL nl t).map fun i => .int (i : Nat))))))) else .stuck := by
  rw [mvD, natsD, rExt_o, List.length_map]
theorem named_any {hn pn : List Str} (hd : pn.Nodup) (f : Fm) (hk : ∀ k ∈ f.refs, k < pn.length) (hl : f.refs.length ≤ 1000) : m_named [.dat (f.toD hn pn), .dat (numD pn)] = .ok (.dat (natsD f.refs)) [none, none] := by
  cases f with
  | row ks => exact named_row hd ks hk hl true
  | side ks => exact named_row hd ks hk hl false
  | again n k =>
    unfold m_named b_named
    rw [fnD_ap _ _ _ _ rfl]
    simp [Fm.toD, Fm.refs, natsD, opGet_num hd (hk k (by simp [Fm.refs]))]
  | _ =>
    unfold m_named b_named
    rw [fnD_ap _ _ _ _ rfl]
    simp [Fm.toD, Fm.refs, natsD]
theorem mem_mvL {nl : Nat} {t : Tr} {i : Nat} : i ∈ mvL nl t ↔ i < nl ∧ mv t i = true := by simp [mvL]
theorem mvs_any : ∀ (ts : List Tr) (i : Nat), (ens ts i).isSome = ts.any fun t => mv t i
  | [], i => by simp [ens]
  | t :: ts, i => by
    rw [ens, List.any_cons, ← mvs_any ts i, mv]
    cases ens ts i <;> cases en t i <;> rfl
theorem mv_row (ts : List Tr) (i : Nat) : mv (.row ts) i = ts.any fun t => mv t i := by rw [mv, en, mvs_any]
theorem mv_side (ts : List Tr) (i : Nat) : mv (.side ts) i = ts.any fun t => mv t i := by rw [mv, en, mvs_any]
/-- what sorted(set(..)) gives -/
theorem sortU_range {nl : Nat} {ns : List Nat} (p : Nat → Bool) (h : ∀ i, i ∈ ns ↔ i < nl ∧ p i = true) : sortU (ns.map fun i : Nat => (i : Int)) = ((List.range nl).filter p).map fun i : Nat => (i : Int) := by
  refine strict_unique (pw_sortU _) ?_ fun k => ?_
  · rw [List.pairwise_map]
    exact (List.pairwise_lt_range.filter p).imp fun h => by omega
  · rw [mem_sortU]
    constructor
    · intro hk
      obtain ⟨i, m, rfl⟩ := List.mem_map.mp hk
      exact List.mem_map.mpr ⟨i, by simpa using (h i).mp m, rfl⟩
    · intro hk
      obtain ⟨i, m, rfl⟩ := List.mem_map.mp hk
      exact List.mem_map.mpr ⟨i, (h i).mpr (by simpa using m), rfl⟩
theorem sortU_D {nl : Nat} {ns : List Nat} (p : Nat → Bool) (h : ∀ i, i ∈ ns ↔ i < nl ∧ p i = true) (hl : ns.length < 64) : opSortU (natsD ns) = some (natsD ((List.range nl).filter p)) := by
  have e : natsD ns = .lst ((ns.map fun i : Nat => (i : Int)).map D.int) := by rw [List.map_map]; rfl
  rw [e, opSortU_l, intsOf_map, Option.bind_some, if_pos (by simpa using hl), sortU_range p h, List.map_map]
  rfl
theorem moved_in (bk hd nm nam frm : D) (nl : Nat) (acc : List Tr) : ∀ (ks : List Nat) (cur : List Nat) (x7 : Option SV), (∀ k ∈ ks, k < acc.length) → cur.length + ks.length * nl ≤ 1000 →
    ∃ x7', loopD (gN 7) L_moved_1 (ks.map fun k => .int (k : Nat)) [some (.dat bk), some (.dat hd), some (.dat nm), some (.own (.lf (.lst (acc.map (mvD nl))))), some (.dat nam), some (.dat frm), some (.own (.lf (.lst (cur.map fun i => .int (i : Nat))))), x7] =
      .ok .nx [some (.dat bk), some (.dat hd), some (.dat nm), some (.own (.lf (.lst (acc.map (mvD nl))))), some (.dat nam), some (.dat frm), some (.own (.lf (.lst ((cur ++ ks.flatMap fun k => mvL nl (tg acc k)).map fun i => .int (i : Nat))))), x7']
  | [], cur, x7, _, _ => ⟨x7, by simp⟩
  | k :: ks, cur, x7, hk, hl => by
    have hk0 : k < acc.length := hk k (by simp)
    have hm : (mvL nl (tg acc k)).length ≤ nl := by
      have := List.length_filter_le (mv (tg acc k)) (List.range nl)
      simpa [mvL] using this
    rw [List.length_cons, Nat.add_mul] at hl
    obtain ⟨x7', ih⟩ := moved_in bk hd nm nam frm nl acc ks (cur ++ mvL nl (tg acc k)) (some (.dat (.int (k : Nat)))) (fun j m => hk j (List.mem_cons_of_mem _ m)) (by simp; omega)
    refine ⟨x7', ?_⟩
    have hg := tg_get hk0
    have hz : cur.length + (mvL nl (tg acc k)).length ≤ sizeLine := by have := sizeLine_eq; omega
    rw [List.flatMap_cons, ← List.append_assoc, ← ih]
    simp [L_moved_1, atI_nat, hg, hz]
/-- what a form says of limbs and parts ahead -/
structure FmOk (nl n : Nat) (f : Fm) : Prop where
  refs : ∀ k ∈ f.refs, k < n
  few : f.refs.length * nl < 63
  fewR : f.refs.length < 63
  lim : ∀ l h b, f = .raise l h b → l < nl
theorem moved_step {hn pn : List Str} (hdn : hn.Nodup) (hdp : pn.Nodup) (bk nam : D) (acc : List Tr) (f : Fm) (x6 x7 : Option SV) (ok : FmOk hn.length acc.length f) (hp : acc.length < pn.length) (hl : acc.length ≤ 1000) :
    ∃ x6' x7', L_moved_2 [some (.dat bk), some (.dat (numD hn)), some (.dat (numD pn)), some (.own (.lf (.lst (acc.map (mvD hn.length))))), some (.dat nam), some (.dat (f.toD hn pn)), x6, x7] =
      .ok .nx [some (.dat bk), some (.dat (numD hn)), some (.dat (numD pn)), some (.own (.lf (.lst ((acc ++ [mkT acc f]).map (mvD hn.length))))), some (.dat nam), some (.dat (f.toD hn pn)), x6', x7'] := by
  have hz : acc.length < sizeLine := by have := sizeLine_eq; omega
  have hnm := named_any (hn := hn) hdp f (fun k m => Nat.lt_trans (ok.refs k m) hp) (by have := ok.fewR; omega)
  have key : ∀ (cur : List Nat) (hcur : cur.length ≤ 1) (hmem : ∀ i, i ∈ (cur ++ f.refs.flatMap fun k => mvL hn.length (tg acc k)) ↔ i < hn.length ∧ mv (mkT acc f) i = true),
      ∃ x7', (loopD (gN 7) L_moved_1 (f.refs.map fun k => .int (k : Nat)) [some (.dat bk), some (.dat (numD hn)), some (.dat (numD pn)), some (.own (.lf (.lst (acc.map (mvD hn.length))))), some (.dat nam), some (.dat (f.toD hn pn)), some (.own (.lf (.lst (cur.map fun i => .int (i : Nat))))), x7]) =
        .ok .nx [some (.dat bk), some (.dat (numD hn)), some (.dat (numD pn)), some (.own (.lf (.lst (acc.map (mvD hn.length))))), some (.dat nam), some (.dat (f.toD hn pn)), some (.own (.lf (.lst ((cur ++ f.refs.flatMap fun k => mvL hn.length (tg acc k)).map fun i => .int (i : Nat))))), x7'] ∧
        opSortU (natsD (cur ++ f.refs.flatMap fun k => mvL hn.length (tg acc k))) = some (mvD hn.length (mkT acc f)) := by
    intro cur hcur hmem
    have hfew := ok.few
    obtain ⟨x7', h⟩ := moved_in bk (numD hn) (numD pn) nam (f.toD hn pn) hn.length acc f.refs cur x7 ok.refs (by omega)
    refine ⟨x7', h, sortU_D _ hmem ?_⟩
    have : (f.refs.flatMap fun k => mvL hn.length (tg acc k)).length ≤ f.refs.length * hn.length := by
      have : ∀ (ks : List Nat), (ks.flatMap fun k => mvL hn.length (tg acc k)).length ≤ ks.length * hn.length := by
        intro ks
        induction ks with
        | nil => simp
        | cons a r ih =>
          have := List.length_filter_le (mv (tg acc a)) (List.range hn.length)
          rw [List.flatMap_cons, List.length_append, List.length_cons, Nat.add_mul]
          have e : (mvL hn.length (tg acc a)).length ≤ hn.length := by simpa [mvL] using this
          omega
      exact this _
    rw [List.length_append]
    omega
  cases f with
  | raise l h b =>
    have hll := ok.lim l h b rfl
    obtain ⟨x7', h1, h2⟩ := key [l] (by simp) (fun i => by
      simp only [Fm.refs, List.flatMap_nil, List.append_nil, List.mem_singleton, mv, mkT, en]
      constructor
      · rintro rfl; exact ⟨hll, by simp⟩
      · rintro ⟨_, h⟩
        split at h
        · assumption
        · cases h)
    simp only [natsD, Fm.refs, List.map_nil, List.flatMap_nil, List.append_nil, Fm.toD, List.map_cons] at h1 h2 hnm
    have hg := opGet_num hdn hll
    refine ⟨some (.dat (.lst [.int (l : Nat)])), x7, ?_⟩
    simp [Fm.toD, L_moved_2, hnm, h2, hg, hz]
  | again n k =>
    obtain ⟨x7', h1, h2⟩ := key [] (by simp) (fun i => by simp [Fm.refs, mem_mvL, mv, mkT, en])
    simp only [natsD, List.nil_append, Fm.toD, List.map_nil] at h1 h2 hnm
    refine ⟨some (.dat (.lst ((Fm.refs (Fm.again n k)).flatMap (fun k => mvL hn.length (tg acc k)) |>.map fun i => .int (i : Nat)))), x7', ?_⟩
    generalize Fm.refs (Fm.again n k) = rs at h1 h2 hnm ⊢
    simp only [L_moved_2]
    simp [Fm.toD, hnm]
    simp at h1 h2
    simp [h1, h2, hz]
  | row ks =>
    obtain ⟨x7', h1, h2⟩ := key [] (by simp) (fun i => by simp [Fm.refs, mem_mvL, mv_row, mkT]; exact ⟨fun ⟨a, b, c, d⟩ => ⟨c, a, b, d⟩, fun ⟨c, a, b, d⟩ => ⟨a, b, c, d⟩⟩)
    simp only [natsD, List.nil_append, Fm.toD, List.map_nil] at h1 h2 hnm
    refine ⟨some (.dat (.lst ((Fm.refs (Fm.row ks)).flatMap (fun k => mvL hn.length (tg acc k)) |>.map fun i => .int (i : Nat)))), x7', ?_⟩
    generalize Fm.refs (Fm.row ks) = rs at h1 h2 hnm ⊢
    simp only [L_moved_2]
    simp [Fm.toD, hnm]
    simp at h1 h2
    simp [h1, h2, hz]
  | side ks =>
    obtain ⟨x7', h1, h2⟩ := key [] (by simp) (fun i => by simp [Fm.refs, mem_mvL, mv_side, mkT]; exact ⟨fun ⟨a, b, c, d⟩ => ⟨c, a, b, d⟩, fun ⟨c, a, b, d⟩ => ⟨a, b, c, d⟩⟩)
    simp only [natsD, List.nil_append, Fm.toD, List.map_nil] at h1 h2 hnm
    refine ⟨some (.dat (.lst ((Fm.refs (Fm.side ks)).flatMap (fun k => mvL hn.length (tg acc k)) |>.map fun i => .int (i : Nat)))), x7', ?_⟩
    generalize Fm.refs (Fm.side ks) = rs at h1 h2 hnm ⊢
    simp only [L_moved_2]
    simp [Fm.toD, hnm]
    simp at h1 h2
    simp [h1, h2, hz]
  | hold b =>
    obtain ⟨x7', h1, h2⟩ := key [] (by simp) (fun i => by simp [Fm.refs, mv, mkT, en])
    simp only [natsD, List.nil_append, Fm.toD, List.map_nil] at h1 h2 hnm
    refine ⟨some (.dat (.lst ((Fm.refs (Fm.hold b)).flatMap (fun k => mvL hn.length (tg acc k)) |>.map fun i => .int (i : Nat)))), x7', ?_⟩
    generalize Fm.refs (Fm.hold b) = rs at h1 h2 hnm ⊢
    simp only [L_moved_2]
    simp [Fm.toD, hnm]
    simp at h1 h2
    simp [h1, h2, hz]
  | ring w b =>
    obtain ⟨x7', h1, h2⟩ := key [] (by simp) (fun i => by simp [Fm.refs, mv, mkT, en])
    simp only [natsD, List.nil_append, Fm.toD, List.map_nil] at h1 h2 hnm
    refine ⟨some (.dat (.lst ((Fm.refs (Fm.ring w b)).flatMap (fun k => mvL hn.length (tg acc k)) |>.map fun i => .int (i : Nat)))), x7', ?_⟩
    generalize Fm.refs (Fm.ring w b) = rs at h1 h2 hnm ⊢
    simp only [L_moved_2]
    simp [Fm.toD, hnm]
    simp at h1 h2
    simp [h1, h2, hz]
end DL.Law

/-! T4: looks: moved whole, length of a form -/
namespace DL.Law
open PySem L2 DL
/-- the forms, one by one -/
def FmsOk (nl : Nat) : Nat → List Fm → Prop
  | _, [] => True
  | n, f :: fs => FmOk nl n f ∧ FmsOk nl (n + 1) fs
theorem moved_loop {hn pn : List Str} (hdn : hn.Nodup) (hdp : pn.Nodup) (bk : D) (hpl : pn.length ≤ 1000) : ∀ (ps : List (Str × Fm)) (acc : List Tr) (x4 x5 x6 x7 : Option SV), FmsOk hn.length acc.length (ps.map (·.2)) → acc.length + ps.length ≤ pn.length →
    ∃ x4' x5' x6' x7', loopD (gT [gN 4, gN 5]) L_moved_2 (ps.map (partD hn pn)) [some (.dat bk), some (.dat (numD hn)), some (.dat (numD pn)), some (.own (.lf (.lst (acc.map (mvD hn.length))))), x4, x5, x6, x7] =
      .ok .nx [some (.dat bk), some (.dat (numD hn)), some (.dat (numD pn)), some (.own (.lf (.lst ((trsA acc (ps.map (·.2))).map (mvD hn.length))))), x4', x5', x6', x7']
  | [], acc, x4, x5, x6, x7, _, _ => ⟨x4, x5, x6, x7, by simp [trsA]⟩
  | p :: ps, acc, x4, x5, x6, x7, ok, hl => by
    simp only [List.length_cons] at hl
    simp only [List.map_cons, FmsOk] at ok
    obtain ⟨y6, y7, h⟩ := moved_step hdn hdp bk (.str p.1) acc p.2 x6 x7 ok.1 (by omega) (by omega)
    obtain ⟨x4', x5', x6', x7', ih⟩ := moved_loop hdn hdp bk hpl ps (acc ++ [mkT acc p.2]) (some (.dat (.str p.1))) (some (.dat (p.2.toD hn pn))) y6 y7 (by simpa using ok.2) (by simp; omega)
    refine ⟨x4', x5', x6', x7', ?_⟩
    rw [List.map_cons, List.map_cons, trsA, ← ih]
    simp only [partD, loop_cons, gT_tup, gTs_cons, gTs_nil, gN_ap]
    simp [-List.map_append, h]
theorem moved (b : Bk) (hdn : b.hn.Nodup) (hdp : b.pn.Nodup) (hl : b.hs.length ≤ 1000) (hpl : b.ps.length ≤ 1000) (ok : FmsOk b.nl 0 b.fs) : m_moved [.dat b.toD] = .ok (.dat (.lst (b.ts.map (mvD b.nl)))) [none] := by
  unfold m_moved b_moved
  rw [fnD_ap _ _ _ _ rfl]
  have h1 := numbers_limbs b.hs hl hdn
  have h2 := numbers_parts b.hn b.pn b.ps hpl hdp
  obtain ⟨x4', x5', x6', x7', h⟩ := moved_loop (hn := b.hn) (pn := b.pn) hdn hdp b.toD (by simpa [Bk.pn] using hpl) b.ps [] none none none none (by rw [Bk.hn, List.length_map]; exact ok) (by simp [Bk.pn])
  have e1 : numD (b.hs.map (·.1)) = numD b.hn := rfl
  have e2 : numD (b.ps.map (·.1)) = numD b.pn := rfl
  have e3 : b.hn.length = b.nl := by simp [Bk.hn, Bk.nl]
  rw [e1] at h1
  rw [e2] at h2
  rw [e3] at h
  have e4 : trsA [] (b.ps.map (·.2)) = b.ts := rfl
  rw [e4] at h
  simp only [Bk.toD] at h ⊢
  simp [h1, h2]
  simp at h
  simp [h]
/-! ### lengths -/
def lenD (t : Tr) : D := .int (len t)
theorem lens_sum : ∀ ts : List Tr, lens ts = (ts.map len).sum
  | [] => rfl
  | t :: ts => by rw [lens, lens_sum ts]; rfl
theorem maxs_max : ∀ (ts : List Tr), ts ≠ [] → (∀ t ∈ ts, 0 ≤ len t) → (ts.map len).max? = some (maxs ts)
  | [], h, _ => absurd rfl h
  | [t], _, h => by
    have := h t (by simp)
    simp [maxs]; omega
  | t :: u :: ts, _, h => by
    have ih := maxs_max (u :: ts) (by simp) fun x m => h x (List.mem_cons_of_mem _ m)
    rw [List.map_cons, List.max?_cons, ih]
    simp [maxs]
theorem length_of (hn pn : List Str) (acc : List Tr) (f : Fm) (hk : ∀ k ∈ f.refs, k < acc.length) (hs : ∀ ks, f = .side ks → ks ≠ []) (hp : ∀ t ∈ acc, 0 ≤ len t) (hm : ∀ n k, f = .again n k → n.natAbs < 2 ^ 64) :
    m_length_of [.dat (f.toD hn pn), .dat (.lst (f.refs.map fun k => lenD (tg acc k)))] = .ok (.dat (lenD (mkT acc f))) [none, none] := by
  unfold m_length_of b_length_of
  rw [fnD_ap _ _ _ _ rfl]
  have hi : ∀ ks : List Nat, intsOf (ks.map fun k => lenD (tg acc k)) = some (ks.map fun k => len (tg acc k)) := fun ks => intsOf_mapF (fun k => len (tg acc k)) ks
  cases f with
  | row ks =>
    simp only [Fm.refs] at *
    show _ = RE.ok (SV.dat (.int (len (mkT acc (.row ks))))) _
    simp [Fm.toD, hi, mkT, len, lens_sum]
    rfl
  | side ks =>
    simp only [Fm.refs] at *
    have h2 := maxs_max (ks.map (tg acc)) (by simpa using hs ks rfl) (by
      intro t m
      obtain ⟨k, mk, rfl⟩ := List.mem_map.mp m
      exact hp _ (List.mem_of_getElem? (tg_get (hk k mk))))
    rw [List.map_map] at h2
    have h3 : (ks.map fun k => len (tg acc k)).max? = some (maxs (ks.map (tg acc))) := h2
    show _ = RE.ok (SV.dat (.int (len (mkT acc (.side ks))))) _
    simp [Fm.toD, opMax, hi, h3, mkT, len]
  | again n k =>
    have := hm n k rfl
    have hmul : mulOk n (len (tg acc k)) = true := by simp [mulOk, this]
    simp [Fm.toD, Fm.refs, mkT, len, lenD, hmul]
  | raise l h b => simp [Fm.toD, Fm.refs, mkT, len, lenD]
  | hold b => simp [Fm.toD, Fm.refs, mkT, len, lenD]
  | ring w b => simp [Fm.toD, Fm.refs, mkT, len, lenD]
end DL.Law

/-! T5: sound books, their lengths -/
namespace DL.Law
open PySem L2 DL
structure SideOk (nl : Nat) (ts : List Tr) : Prop where
  ne : ts ≠ []
  mvs : ∀ t ∈ ts, mvL nl t ≠ []
  one : ∀ i < nl, (ts.filter fun t => mv t i).length ≤ 1
/-- a form that may stand behind the trees acc -/
structure FmS (nl : Nat) (acc : List Tr) (f : Fm) : Prop where
  ok : FmOk nl acc.length f
  top : len (mkT acc f) ≤ 10 ^ 60
  rais : ∀ l h b, f = .raise l h b → 1 ≤ b
  hold : ∀ b, f = .hold b → 1 ≤ b
  ring : ∀ w b, f = .ring w b → 1 ≤ b ∧ PyData.strOk w = true
  row : ∀ ks, f = .row ks → ks ≠ []
  side : ∀ ks, f = .side ks → SideOk nl (ks.map (tg acc))
  again : ∀ n k, f = .again n k → 1 ≤ n ∧ n < 2 ^ 64
def FmsS (nl : Nat) : List Tr → List Fm → Prop
  | _, [] => True
  | acc, f :: fs => FmS nl acc f ∧ FmsS nl (acc ++ [mkT acc f]) fs
structure Bk.S (b : Bk) : Prop where
  hdn : b.hn.Nodup
  hdp : b.pn.Nodup
  hl : b.hs.length ≤ 62
  pl : b.ps.length ≤ 62
  ne : b.ps ≠ []
  fs : FmsS b.nl [] b.fs
  so : ∀ n ∈ b.hn ++ b.pn, PyData.strOk n = true
theorem lens_pos : ∀ (ts : List Tr), (∀ t ∈ ts, 1 ≤ len t) → 0 ≤ lens ts ∧ (ts ≠ [] → 1 ≤ lens ts)
  | [], _ => by simp [lens]
  | t :: ts, h => by
    have := lens_pos ts fun x m => h x (List.mem_cons_of_mem _ m)
    have := h t (by simp)
    rw [lens]
    exact ⟨by omega, fun _ => by omega⟩
theorem maxs_pos : ∀ (ts : List Tr), (∀ t ∈ ts, 1 ≤ len t) → 0 ≤ maxs ts ∧ (ts ≠ [] → 1 ≤ maxs ts)
  | [], _ => by simp [maxs]
  | t :: ts, h => by
    have := maxs_pos ts fun x m => h x (List.mem_cons_of_mem _ m)
    have := h t (by simp)
    rw [maxs]
    exact ⟨by omega, fun _ => by omega⟩
theorem mul_ge_one {a b : Int} (ha : 1 ≤ a) (hb : 1 ≤ b) : 1 ≤ a * b := Int.mul_pos (by omega : 0 < a) (by omega : 0 < b)
theorem FmS.pos {nl : Nat} {acc : List Tr} {f : Fm} (s : FmS nl acc f) (hp : ∀ t ∈ acc, 1 ≤ len t) : 1 ≤ len (mkT acc f) := by
  have hm : ∀ k ∈ f.refs, 1 ≤ len (tg acc k) := fun k m => hp _ (List.mem_of_getElem? (tg_get (s.ok.refs k m)))
  cases f with
  | raise l h b => exact s.rais l h b rfl
  | hold b => exact s.hold b rfl
  | ring w b => exact (s.ring w b rfl).1
  | row ks =>
    simp only [mkT, len]
    refine (lens_pos _ ?_).2 (by simpa using s.row ks rfl)
    intro t m
    obtain ⟨k, mk, rfl⟩ := List.mem_map.mp m
    exact hm k mk
  | side ks =>
    simp only [mkT, len]
    refine (maxs_pos _ ?_).2 (s.side ks rfl).ne
    intro t m
    obtain ⟨k, mk, rfl⟩ := List.mem_map.mp m
    exact hm k mk
  | again n k => exact mul_ge_one (s.again n k rfl).1 (hm k (by simp [Fm.refs]))
theorem FmsS.pos {nl : Nat} : ∀ (fs : List Fm) (acc : List Tr), FmsS nl acc fs → (∀ t ∈ acc, 1 ≤ len t) → ∀ t ∈ trsA acc fs, 1 ≤ len t
  | [], acc, _, h => h
  | f :: fs, acc, s, h => FmsS.pos fs (acc ++ [mkT acc f]) s.2 fun t m => by
    rcases List.mem_append.mp m with m | m
    · exact h t m
    · rw [List.mem_singleton.mp m]; exact s.1.pos h
theorem FmsS.ok {nl : Nat} : ∀ (fs : List Fm) (acc : List Tr), FmsS nl acc fs → FmsOk nl acc.length fs
  | [], _, _ => trivial
  | f :: fs, acc, s => ⟨s.1.ok, by have := FmsS.ok fs _ s.2; simpa using this⟩
/-! ### sides -/
section
variable (A : D) (n : Int) (nl : Nat) (acc : List Tr) (ks : List Nat)
abbrev sdD : D := .lst (ks.map fun k => mvD nl (tg acc k))
theorem side_comp (l : Nat) (hl : l < nl) (hk : ks.length ≤ 1000) : eLc [4] (iSeq (eVar 2)) (gN 4) Q_look_at_side_2 C_look_at_side_1 [some (.dat A), some (.dat (.int n)), some (.dat (sdD nl acc ks)), some (.dat (.int (l : Nat))), none] =
      .ok ((ks.filter fun k => mv (tg acc k) l).map fun k => mvD nl (tg acc k)) [some (.dat A), some (.dat (.int n)), some (.dat (sdD nl acc ks)), some (.dat (.int (l : Nat))), none] :=
    eLc_nf ks (fun k => mvD nl (tg acc k)) (fun k => mv (tg acc k) l) (fun k => mvD nl (tg acc k)) (by simp) rfl (fun k m => by
      have : opInS (.int (l : Nat)) (mvD nl (tg acc k)) = some (.bl (mv (tg acc k) l)) := opInS_pl (n := 0) rfl (Pls_map fun _ _ => rfl) (by omega) (by
        rw [List.mem_map]
        constructor
        · intro hm
          exact ⟨l, mem_mvL.mpr ⟨hl, hm⟩, rfl⟩
        · rintro ⟨i, hi, e⟩
          have : i = l := by have := D.int.inj e; omega
          subst this
          exact (mem_mvL.mp hi).2)
      simp [Q_look_at_side_2, this]) (fun k m _ => by simp [C_look_at_side_1]) (by omega)
theorem side_loop (hk : ks.length ≤ 1000) (h : SideOk nl (ks.map (tg acc))) : ∀ (ls : List Nat) (x : Option SV), (∀ l ∈ ls, l < nl) → ∃ x', loopD (gN 3) L_look_at_side_3 (ls.map fun i => .int (i : Nat)) [some (.dat A), some (.dat (.int n)), some (.dat (sdD nl acc ks)), x, none] =
      .ok .nx [some (.dat A), some (.dat (.int n)), some (.dat (sdD nl acc ks)), x', none]
  | [], x, _ => ⟨x, by simp⟩
  | l :: ls, x, hls => by
    obtain ⟨x', ih⟩ := side_loop hk h ls (some (.dat (.int (l : Nat)))) fun i m => hls i (List.mem_cons_of_mem _ m)
    refine ⟨x', ?_⟩
    have hll := hls l (by simp)
    have h1 := h.one l hll
    rw [List.filter_map, List.length_map] at h1
    have e : (ks.filter ((fun t => mv t l) ∘ tg acc)) = ks.filter fun k => mv (tg acc k) l := rfl
    rw [e] at h1
    have h2 : (decide ((1 : Int) < ((ks.filter fun k => mv (tg acc k) l).length : Nat))) = false := decide_eq_false (by omega)
    rw [List.map_cons, loop_cons, ← ih]
    simp only [L_look_at_side_3, gN_ap, rTgt_some, sIf_ap, bVal_ap, eBin_ap, eCallB_ap, aCons_ap, lcF_ap, List.length_cons, List.length_nil]
    simp [-eLc_ap, side_comp A n nl acc ks l hll hk, h2]
end
theorem side_none (nl : Nat) (acc : List Tr) (ks : List Nat) (h : SideOk nl (ks.map (tg acc))) : opInS (.lst []) (sdD nl acc ks) = some (.bl false) := by
  have hpl : Pls 1 (ks.map fun k => mvD nl (tg acc k)) = true := Pls_map fun k _ => by
    simp only [mvD, natsD, Pl]
    exact Pls_map fun _ _ => rfl
  exact opInS_pl (n := 1) (by simp [Pl, Pls]) hpl (by omega) (by
    simp only [Bool.false_eq_true, false_iff, List.mem_map, not_exists, not_and]
    intro k m e
    refine h.mvs (tg acc k) (List.mem_map.mpr ⟨k, m, rfl⟩) ?_
    simpa [mvD, natsD] using e)
theorem look_side (bk1 : D) (hs : List (Str × Int)) (acc : List Tr) (ks : List Nat) (n : Int) (h : SideOk hs.length (ks.map (tg acc))) (hk : ks.length ≤ 1000) (hh : hs.length ≤ 1000) :
    m_look_at_side [.dat (.tup [.lst (hs.map limbD), bk1]), .dat (.int n), .dat (sdD hs.length acc ks)] = .ok (.dat .non) [none, none, none] := by
  unfold m_look_at_side b_look_at_side
  rw [fnD_ap _ _ _ _ rfl]
  obtain ⟨x', h3⟩ := side_loop (.tup [.lst (hs.map limbD), bk1]) n hs.length acc ks hk h (List.range hs.length) none fun l m => List.mem_range.mp m
  have h0 := side_none hs.length acc ks h
  generalize sdD hs.length acc ks = S at h3 h0 ⊢
  simp [h0, -rRng_1, rRng_n _ hh, h3]
end DL.Law

/-! T6: lengths -/
namespace DL.Law
open PySem L2 DL
theorem natsD_items (l : List Nat) : itemsOf (natsD l) = some (l.map fun i => .int (i : Nat)) := rfl
section
variable (A B : D) (nl : Nat) (acc r : List Tr) (ks : List Nat) (I P : D)
theorem len_comp1 (hk : ∀ k ∈ ks, k < acc.length) (hl : ks.length ≤ 1000) : eLc [7] (iSeq (eVar 6)) (gN 7) bYes C_lengths_1 [some (.dat A), some (.dat B), some (.dat (.lst ((acc ++ r).map (mvD nl)))), some (.own (.lf (.lst (acc.map lenD)))), some (.dat I), some (.dat P), some (.dat (natsD ks)), none] =
    .ok (ks.map fun k => mvD nl (tg acc k)) [some (.dat A), some (.dat B), some (.dat (.lst ((acc ++ r).map (mvD nl)))), some (.own (.lf (.lst (acc.map lenD)))), some (.dat I), some (.dat P), some (.dat (natsD ks)), none] :=
  eLc_n ks (fun k => .int (k : Nat)) (fun k => mvD nl (tg acc k)) (by simp [natsD_items]) rfl (fun k m => by
    have h1 : (acc ++ r)[k]? = some (tg acc k) := by rw [List.getElem?_append_left (hk k m), tg_get (hk k m)]
    simp [C_lengths_1, atI_nat, -List.map_append, List.getElem?_map, h1]) (by omega)
theorem len_comp2 (Q : D) (hk : ∀ k ∈ ks, k < acc.length) (hl : ks.length ≤ 1000) : eLc [7] (iSeq (eVar 6)) (gN 7) bYes C_lengths_2 [some (.dat A), some (.dat B), some (.dat Q), some (.own (.lf (.lst (acc.map lenD)))), some (.dat I), some (.dat P), some (.dat (natsD ks)), none] =
    .ok (ks.map fun k => lenD (tg acc k)) [some (.dat A), some (.dat B), some (.dat Q), some (.own (.lf (.lst (acc.map lenD)))), some (.dat I), some (.dat P), some (.dat (natsD ks)), none] :=
  eLc_n ks (fun k => .int (k : Nat)) (fun k => lenD (tg acc k)) (by simp [natsD_items]) rfl (fun k m => by
    simp [C_lengths_2, atI_nat, List.getElem?_map, tg_get (hk k m)]) (by omega)
end
theorem isSide (hn pn : List Str) (f : Fm) : opIx (f.toD hn pn) (.int 0) = some (.str (match f with | .raise _ _ _ => "raise" | .hold _ => "hold" | .ring _ _ => "ring" | .row _ => "row" | .side _ => "side" | .again _ _ => "again")) := by
  cases f <;> simp [Fm.toD]
theorem FmS.mul {nl : Nat} {acc : List Tr} {f : Fm} (s : FmS nl acc f) : ∀ n k, f = .again n k → n.natAbs < 2 ^ 64 := fun n k e => by
  have := s.again n k e; omega
theorem lengths_step {hn pn : List Str} (hdp : pn.Nodup) (hs : List (Str × Int)) (bk1 : D) (nam : Str) (acc r : List Tr) (f : Fm) (x6 : Option SV) (s : FmS hs.length acc f) (hpos : ∀ t ∈ acc, 1 ≤ len t) (hp : acc.length < pn.length) (hl : acc.length ≤ 1000) (hh : hs.length ≤ 1000) :
    ∃ x6', L_lengths_3 [some (.dat (.tup [.lst (hs.map limbD), bk1])), some (.dat (numD pn)), some (.dat (.lst ((acc ++ r).map (mvD hs.length)))), some (.own (.lf (.lst (acc.map lenD)))), some (.dat (.int (acc.length : Nat))), some (.dat (partD hn pn (nam, f))), x6, none] =
      .ok .nx [some (.dat (.tup [.lst (hs.map limbD), bk1])), some (.dat (numD pn)), some (.dat (.lst ((acc ++ r).map (mvD hs.length)))), some (.own (.lf (.lst ((acc ++ [mkT acc f]).map lenD)))), some (.dat (.int (acc.length : Nat))), some (.dat (partD hn pn (nam, f))), x6', none] := by
  have hz : acc.length < sizeLine := by have := sizeLine_eq; omega
  have few : f.refs.length ≤ 1000 := by have := s.ok.fewR; omega
  have hnm := named_any (hn := hn) hdp f (fun k m => Nat.lt_trans (s.ok.refs k m) hp) few
  have hc1 := len_comp1 (.tup [.lst (hs.map limbD), bk1]) (numD pn) hs.length acc r f.refs (.int (acc.length : Nat)) (partD hn pn (nam, f)) s.ok.refs few
  have hc2 := len_comp2 (.tup [.lst (hs.map limbD), bk1]) (numD pn) acc f.refs (.int (acc.length : Nat)) (partD hn pn (nam, f)) (.lst ((acc ++ r).map (mvD hs.length))) s.ok.refs few
  have hlen := length_of hn pn acc f s.ok.refs (fun ks e h => (s.side ks e).ne (by simp [h])) (fun t m => by have := hpos t m; omega) s.mul
  have htop : ¬ ((10 ^ 60 : Int) < len (mkT acc f)) := by have := s.top; omega
  have hsd := isSide hn pn f
  refine ⟨some (.dat (natsD f.refs)), ?_⟩
  have hls : ∀ ks, f = .side ks → m_look_at_side [.dat (.tup [.lst (hs.map limbD), bk1]), .dat (.int (acc.length : Nat)), .dat (.lst (f.refs.map fun k => mvD hs.length (tg acc k)))] = .ok (.dat .non) [none, none, none] := fun ks e => by
    subst e
    exact look_side bk1 hs acc ks _ (s.side ks rfl) few hh
  have e1 : opIx (partD hn pn (nam, f)) (.int 1) = some (f.toD hn pn) := by simp [partD]
  have n1 : (acc.map lenD ++ [lenD (mkT acc f)]) = (acc ++ [mkT acc f]).map lenD := by simp
  have n2 : atI ((acc ++ [mkT acc f]).map lenD) (-1) = some (lenD (mkT acc f)) := by rw [← n1]; exact atI_last _ _
  generalize partD hn pn (nam, f) = P at *
  generalize Fm.toD hn pn f = T at *
  generalize hM : (List.map (mvD hs.length) (acc ++ r)) = M at *
  generalize (D.tup [.lst (hs.map limbD), bk1]) = A at *
  unfold L_lengths_3
  have tl : ∀ x : Int, ((10 ^ 60 : Int) < x) = (1000000000000000000000000000000000000000000000000000000000000 < x) := fun x => rfl
  rw [tl] at htop
  cases f with
  | side ks =>
    have hls := hls ks rfl
    generalize (Fm.side ks).refs = rs at *
    simp [-eLc_ap, hsd, hnm, e1, hc1, hc2, hlen, hls, hz, -List.map_append, n1, n2]
    simp [lenD, htop]
  | _ =>
    generalize Fm.refs _ = rs at *
    simp [-eLc_ap, hsd, hnm, e1, hc1, hc2, hlen, hz, -List.map_append, n1, n2]
    simp [lenD, htop]
end DL.Law

/-! T7: lengths whole; ends -/
namespace DL.Law
open PySem L2 DL
theorem lengths_loop {hn pn : List Str} (hdp : pn.Nodup) (hs : List (Str × Int)) (bk1 : D) (TS : List Tr) (hpl : pn.length ≤ 1000) (hh : hs.length ≤ 1000) : ∀ (ps : List (Str × Fm)) (acc : List Tr) (x4 x5 x6 : Option SV), trsA acc (ps.map (·.2)) = TS → FmsS hs.length acc (ps.map (·.2)) → (∀ t ∈ acc, 1 ≤ len t) → acc.length + ps.length ≤ pn.length →
    ∃ x4' x5' x6', loopD (gT [gN 4, gN 5]) L_lengths_3 (((ps.map (partD hn pn)).zipIdx acc.length).map fun p => .tup [.int (p.2 : Nat), p.1]) [some (.dat (.tup [.lst (hs.map limbD), bk1])), some (.dat (numD pn)), some (.dat (.lst (TS.map (mvD hs.length)))), some (.own (.lf (.lst (acc.map lenD)))), x4, x5, x6, none] =
      .ok .nx [some (.dat (.tup [.lst (hs.map limbD), bk1])), some (.dat (numD pn)), some (.dat (.lst (TS.map (mvD hs.length)))), some (.own (.lf (.lst (TS.map lenD)))), x4', x5', x6', none]
  | [], acc, x4, x5, x6, e, _, _, _ => ⟨x4, x5, x6, by simp only [List.map_nil, trsA] at e; subst e; simp⟩
  | p :: ps, acc, x4, x5, x6, e, s, hpos, hl => by
    simp only [List.length_cons] at hl
    simp only [List.map_cons, FmsS] at s
    obtain ⟨r, hr⟩ := trsA_pre (ps.map (·.2)) (acc ++ [mkT acc p.2])
    have e' : trsA (acc ++ [mkT acc p.2]) (ps.map (·.2)) = TS := e
    have hTS : TS = acc ++ (mkT acc p.2 :: r) := by rw [← e', hr]; simp
    obtain ⟨y6, h⟩ := lengths_step (hn := hn) hdp hs bk1 p.1 acc (mkT acc p.2 :: r) p.2 x6 s.1 hpos (by omega) (by omega) hh
    rw [← hTS] at h
    obtain ⟨x4', x5', x6', ih⟩ := lengths_loop (hn := hn) hdp hs bk1 TS hpl hh ps (acc ++ [mkT acc p.2]) (some (.dat (.int (acc.length : Nat)))) (some (.dat (partD hn pn (p.1, p.2)))) y6 e' s.2 (fun t m => by
      rcases List.mem_append.mp m with m | m
      · exact hpos t m
      · rw [List.mem_singleton.mp m]; exact s.1.pos hpos) (by simp; omega)
    refine ⟨x4', x5', x6', ?_⟩
    rw [← ih, List.map_cons, List.zipIdx_cons, List.map_cons]
    have ee : (acc ++ [mkT acc p.2]).length = acc.length + 1 := by simp
    rw [ee]
    simp only [loop_cons, gT_tup, gTs_cons, gTs_nil, gN_ap]
    simp [-List.map_append, h]
theorem lengths (b : Bk) (S : b.S) : m_lengths [.dat b.toD] = .ok (.dat (.lst (b.ts.map lenD))) [none] := by
  have hl := S.hl
  have hpl := S.pl
  unfold m_lengths b_lengths
  rw [fnD_ap _ _ _ _ rfl]
  have h1 := moved b S.hdn S.hdp (by omega) (by omega) (FmsS.ok _ _ S.fs)
  have h2 := numbers_parts b.hn b.pn b.ps (by omega) S.hdp
  obtain ⟨x4', x5', x6', h⟩ := lengths_loop (hn := b.hn) (pn := b.pn) S.hdp b.hs (.lst (b.ps.map (partD b.hn b.pn))) b.ts (by simp [Bk.pn]; omega) (by omega) b.ps [] none none none rfl S.fs (by simp) (by simp [Bk.pn])
  have e2 : numD (b.ps.map (·.1)) = numD b.pn := rfl
  rw [e2] at h2
  have e0 : b.nl = b.hs.length := rfl
  rw [e0] at h1
  have eb : (D.tup [.lst (b.hs.map limbD), .lst (b.ps.map (partD b.hn b.pn))]) = b.toD := rfl
  rw [eb] at h
  rw [List.length_nil, ← enumD_from, List.map_nil] at h
  have e1 : opIx b.toD (.int 1) = some (.lst (b.ps.map (partD b.hn b.pn))) := by simp [Bk.toD]
  generalize b.toD = T at *
  simp [h1, h2, e1, h]
/-! ### ends -/
def endD (p : Nat × Int) : D := .tup [.int (p.1 : Nat), .int p.2]
def enD (nl : Nat) (t : Tr) : D := .lst ((enL nl t).map endD)
end DL.Law

/-! T8: ends -/
namespace DL.Law
open PySem L2 DL
/-- an assignment, by numbers -/
def lk (m : List (Nat × Int)) (i : Nat) : Option Int := (m.find? fun p => p.1 == i).map (·.2)
theorem lk_nil (i : Nat) : lk [] i = none := rfl
theorem lk_cons (p : Nat × Int) (m : List (Nat × Int)) (i : Nat) : lk (p :: m) i = if p.1 = i then some p.2 else lk m i := by
  unfold lk
  rw [List.find?_cons]
  by_cases h : p.1 = i
  · simp [h]
  · rw [if_neg h, show (p.1 == i) = false from by simpa using h]
theorem lk_app (m n : List (Nat × Int)) (i : Nat) : lk (m ++ n) i = (lk m i).or (lk n i) := by
  induction m with
  | nil => rfl
  | cons p m ih =>
    rw [List.cons_append, lk_cons, lk_cons, ih]
    split <;> rfl
theorem lk_none {m : List (Nat × Int)} {i : Nat} (h : ∀ p ∈ m, p.1 ≠ i) : lk m i = none := by
  induction m with
  | nil => rfl
  | cons p m ih =>
    rw [lk_cons, if_neg (h p (by simp)), ih fun q hq => h q (List.mem_cons_of_mem _ hq)]
theorem setK_cases (m : List (Nat × Int)) (i : Nat) (h : Int) (hd : (m.map (·.1)).Nodup) : ((setK m i h).map (·.1)).Nodup ∧ (∀ j, j ∈ (setK m i h).map (·.1) ↔ j = i ∨ j ∈ m.map (·.1)) ∧ (∀ j, lk (setK m i h) j = if i = j then some h else lk m j) := by
  by_cases c : ∃ p ∈ m, p.1 = i
  · have hs : setK m i h = m.map fun kv => if kv.1 = i then (kv.1, h) else kv := by
      unfold setK
      rw [if_pos]
      simpa using c
    have hk : (setK m i h).map (·.1) = m.map (·.1) := by
      rw [hs, List.map_map]
      apply List.map_congr_left
      intro p _
      show (if p.1 = i then (p.1, h) else p).1 = p.1
      split <;> rfl
    refine ⟨by rw [hk]; exact hd, fun j => ?_, fun j => ?_⟩
    · rw [hk]
      constructor
      · exact .inr
      · rintro (rfl | h)
        · obtain ⟨p, mp, rfl⟩ := c
          exact List.mem_map.mpr ⟨p, mp, rfl⟩
        · exact h
    · rw [hs]
      clear hs hk hd
      induction m with
      | nil => obtain ⟨p, mp, _⟩ := c; simp at mp
      | cons q m ih =>
        rw [List.map_cons, lk_cons, lk_cons]
        by_cases hq : q.1 = i
        · rw [if_pos hq]
          by_cases hj : i = j
          · rw [if_pos hj, if_pos (by rw [hq]; exact hj)]
          · rw [if_neg hj, if_neg (by rw [hq]; exact hj), if_neg (by rw [hq]; exact hj)]
            by_cases c2 : ∃ p ∈ m, p.1 = i
            · rw [ih c2, if_neg hj]
            · congr 1
              conv => rhs; rw [← List.map_id m]
              apply List.map_congr_left
              intro p mp
              rw [if_neg fun e => c2 ⟨p, mp, e⟩]; rfl
        · have c2 : ∃ p ∈ m, p.1 = i := by
            obtain ⟨p, mp, e⟩ := c
            rcases List.mem_cons.mp mp with rfl | mp
            · exact absurd e hq
            · exact ⟨p, mp, e⟩
          rw [if_neg hq, ih c2]
          by_cases hj : q.1 = j
          · rw [if_pos hj, if_pos hj, if_neg (fun e => hq (hj.trans e.symm))]
          · rw [if_neg hj, if_neg hj]
  · have hs : setK m i h = m ++ [(i, h)] := setK_new fun p mp e => c ⟨p, mp, e⟩
    have hn : i ∉ m.map (·.1) := fun hm => by
      obtain ⟨p, mp, e⟩ := List.mem_map.mp hm
      exact c ⟨p, mp, e⟩
    rw [hs]
    refine ⟨?_, fun j => ?_, fun j => ?_⟩
    · rw [List.map_append, List.map_cons, List.map_nil, List.nodup_append]
      refine ⟨hd, by simp, ?_⟩
      intro a ha b hb
      simp at hb
      subst hb
      intro e; subst e; exact hn ha
    · simp [or_comm]
    · rw [lk_app, lk_cons, lk_nil]
      by_cases hj : i = j
      · subst hj
        rw [if_pos rfl, if_pos rfl, lk_none fun p mp e => c ⟨p, mp, e⟩]; rfl
      · rw [if_neg hj, if_neg hj]
        cases lk m j <;> rfl
/-- .. as a dict of data -/
def encM (m : List (Nat × Int)) : List (Key × D) := m.map fun p => (.inl (p.1 : Nat), .int p.2)
theorem setK_enc (m : List (Nat × Int)) (i : Nat) (h : Int) : setK (encM m) (.inl (i : Nat)) (.int h) = encM (setK m i h) := by
  have key : ∀ p : Nat × Int, ((Sum.inl (p.1 : Int) : Key) = .inl (i : Nat)) ↔ (p.1 = i) := fun p => by
    constructor
    · intro e; have := Sum.inl.inj e; omega
    · rintro rfl; rfl
  unfold setK encM
  rw [List.any_map]
  have e1 : (m.any ((fun kv : Key × D => decide (kv.1 = .inl (i : Nat))) ∘ fun p => (.inl (p.1 : Nat), .int p.2))) = m.any fun kv => decide (kv.1 = i) := by
    congr 1
    funext p
    simp only [Function.comp]
    exact decide_eq_decide.mpr (key p)
  rw [e1]
  split
  · rw [List.map_map, List.map_map]
    apply List.map_congr_left
    intro p _
    simp only [Function.comp]
    by_cases hp : p.1 = i
    · rw [if_pos ((key p).mpr hp), if_pos hp]
    · rw [if_neg (fun e => hp ((key p).mp e)), if_neg hp]
  · simp
theorem getK_enc (m : List (Nat × Int)) (i : Nat) : getK (encM m) (.inl (i : Nat)) = (lk m i).map D.int := by
  induction m with
  | nil => rfl
  | cons p m ih =>
    rw [lk_cons]
    show getK ((.inl (p.1 : Int), .int p.2) :: encM m) _ = _
    rw [getK_cons, ih]
    by_cases h : p.1 = i
    · subst h; simp
    · rw [if_neg h, if_neg (fun e => h (by have := Sum.inl.inj e; omega))]
theorem keyIs_enc (m : List (Nat × Int)) : keyIs (encM m) = some (m.map fun p => (p.1 : Int)) := by
  induction m with
  | nil => rfl
  | cons p m ih =>
    show (keyIs (encM m)).map _ = _
    rw [ih]; rfl
/-- an assignment that says what a limb's end is -/
structure Left (nl : Nat) (m : List (Nat × Int)) (E : Nat → Option Int) : Prop where
  nd : (m.map (·.1)).Nodup
  lt : ∀ j ∈ m.map (·.1), j < nl
  at_ : ∀ i < nl, lk m i = E i
theorem Left.len {nl : Nat} {m : List (Nat × Int)} {E : Nat → Option Int} (h : Left nl m E) : m.length ≤ nl := by
  have := List.Nodup.length_le_of_subset h.nd (l₂ := List.range nl) fun j hj => List.mem_range.mpr (h.lt j hj)
  simpa using this
theorem Left.put {nl : Nat} {m : List (Nat × Int)} {E : Nat → Option Int} (h : Left nl m E) {i : Nat} (hi : i < nl) (x : Int) : Left nl (setK m i x) fun j => if i = j then some x else E j := by
  obtain ⟨h1, h2, h3⟩ := setK_cases m i x h.nd
  refine ⟨h1, fun j hj => ?_, fun j hj => ?_⟩
  · rcases (h2 j).mp hj with rfl | hj
    · exact hi
    · exact h.lt j hj
  · rw [h3, h.at_ j hj]
theorem Left.congr {nl : Nat} {m : List (Nat × Int)} {E E' : Nat → Option Int} (h : Left nl m E) (e : ∀ i < nl, E i = E' i) : Left nl m E' := ⟨h.nd, h.lt, fun i hi => (h.at_ i hi).trans (e i hi)⟩
theorem lk_map : ∀ {m : List (Nat × Int)} {p : Nat × Int}, (m.map (·.1)).Nodup → p ∈ m → lk m p.1 = some p.2
  | q :: m, p, nd, h => by
    rw [lk_cons]
    rcases List.mem_cons.mp h with rfl | h
    · rw [if_pos rfl]
    · simp only [List.map_cons, List.nodup_cons] at nd
      rw [if_neg (fun e => nd.1 (List.mem_map.mpr ⟨p, h, e.symm⟩)), lk_map nd.2 h]
theorem lk_some : ∀ {m : List (Nat × Int)} {i : Nat}, (lk m i).isSome = true ↔ i ∈ m.map (·.1)
  | [], i => by simp [lk_nil]
  | q :: m, i => by
    rw [lk_cons, List.map_cons, List.mem_cons]
    by_cases h : q.1 = i
    · simp [h]
    · rw [if_neg h, lk_some]
      constructor
      · exact .inr
      · rintro (e | e)
        · exact absurd e.symm h
        · exact e
theorem sorted_left {nl : Nat} {m : List (Nat × Int)} {t : Tr} (h : Left nl m (en t)) (hl : nl < 64) : opSortedD [.dct (encM m)] = some (natsD (mvL nl t)) := by
  have hm := h.len
  show (keyIs (encM m)).bind _ = _
  rw [keyIs_enc, Option.bind_some, if_pos (by simp; omega)]
  have p : (((mvL nl t).map fun i : Nat => (i : Int))).Perm (m.map fun p => (p.1 : Int)) := by
    have e : (m.map fun p => (p.1 : Int)) = (m.map (·.1)).map fun i : Nat => (i : Int) := by rw [List.map_map]; rfl
    rw [e]
    refine List.Perm.map _ ?_
    refine (List.perm_ext_iff_of_nodup (List.nodup_range.filter _) h.nd).mpr fun i => ?_
    rw [← lk_some, List.mem_filter, List.mem_range]
    constructor
    · rintro ⟨h1, h2⟩
      rw [h.at_ i h1]; exact h2
    · intro h2
      have h1 := h.lt i (lk_some.mp h2)
      rw [h.at_ i h1] at h2
      exact ⟨h1, h2⟩
  have pw : ((mvL nl t).map fun i : Nat => (i : Int)).Pairwise (· ≤ ·) := by
    rw [List.pairwise_map]
    exact (List.pairwise_lt_range.filter _).imp fun h => by omega
  rw [← sortI_unique p pw, List.map_map]
  rfl
theorem enL_map (nl : Nat) (t : Tr) : enL nl t = (mvL nl t).map fun i => (i, (en t i).getD 0) := by
  unfold enL mvL
  generalize List.range nl = l
  induction l with
  | nil => rfl
  | cons i l ih =>
    rw [List.filterMap_cons, List.filter_cons]
    cases h : en t i with
    | none => simp [mv, h, ih]
    | some x => simp [mv, h, ih]
theorem enL_nd (nl : Nat) (t : Tr) : ((enL nl t).map (·.1)) = mvL nl t := by
  rw [enL_map, List.map_map]
  exact List.map_id _
theorem lk_enL {nl : Nat} {t : Tr} {i : Nat} (hi : i < nl) : lk (enL nl t) i = en t i := by
  cases h : en t i with
  | none =>
    refine lk_none fun p hp e => ?_
    have : p.1 ∈ mvL nl t := by rw [← enL_nd]; exact List.mem_map.mpr ⟨p, hp, rfl⟩
    rw [mem_mvL, e, mv, h] at this
    exact absurd this.2 (by simp)
  | some x =>
    have hm : (i, x) ∈ enL nl t := by
      rw [enL_map]
      exact List.mem_map.mpr ⟨i, mem_mvL.mpr ⟨hi, by rw [mv, h]; rfl⟩, by rw [h]; rfl⟩
    exact lk_map (by rw [enL_nd]; exact List.nodup_range.filter _) hm
end DL.Law

/-! T9: ends, run -/
namespace DL.Law
open PySem L2 DL
section
variable (A B C P Q T : D) (nl : Nat)
abbrev endE (acc : List Tr) (m : List (Nat × Int)) (x7 : D) (x8 x9 : Option D) : Slots := [some (.dat A), some (.dat B), some (.dat C), some (.own (.lf (.lst (acc.map (enD nl))))), some (.dat P), some (.dat T), some (.own (.lf (.dct (encM m)))), some (.dat x7), oD x8, oD x9]
theorem ends_in (acc : List Tr) (x7 : D) : ∀ (q : List (Nat × Int)) (m : List (Nat × Int)) (E : Nat → Option Int) (x8 x9 : Option D), Left nl m E → nl ≤ 62 → (∀ p ∈ q, p.1 < nl) → (q.map (·.1)).Nodup →
    ∃ m' x8' x9', loopD (gT [gN 8, gN 9]) L_ends_1 (q.map endD) (endE A B C P T nl acc m x7 x8 x9) = .ok .nx (endE A B C P T nl acc m' x7 x8' x9') ∧ Left nl m' fun i => (lk q i).or (E i)
  | [], m, E, x8, x9, h, _, _, _ => ⟨m, x8, x9, by simp, h.congr fun i _ => by rw [lk_nil]; rfl⟩
  | p :: q, m, E, x8, x9, h, hl, hq, hn => by
    have hp := hq p (by simp)
    simp only [List.map_cons, List.nodup_cons] at hn
    obtain ⟨m', x8', x9', h1, h2⟩ := ends_in acc x7 q (setK m p.1 p.2) _ (some (.int (p.1 : Nat))) (some (.int p.2)) (h.put hp p.2) hl (fun r hr => hq r (List.mem_cons_of_mem _ hr)) hn.2
    refine ⟨m', x8', x9', ?_, h2.congr fun i hi => ?_⟩
    · rw [List.map_cons, ← h1]
      have hz : (encM m).length < sizeLine := by have := sizeLine_eq; have := h.len; simp [encM]; omega
      simp only [loop_cons, endD, gT_tup, gTs_cons, gTs_nil, gN_ap]
      simp [L_ends_1, hz, setK_enc, endE]
    · rw [lk_cons]
      by_cases e : p.1 = i
      · subst e
        rw [if_pos rfl, if_pos rfl, lk_none fun r hr e2 => hn.1 (List.mem_map.mpr ⟨r, hr, e2⟩)]; rfl
      · rw [if_neg e, if_neg e]
theorem ends_mid (acc : List Tr) : ∀ (ks : List Nat) (m : List (Nat × Int)) (E : Nat → Option Int) (x7 : Option D) (x8 x9 : Option D), Left nl m E → nl ≤ 62 → (∀ k ∈ ks, k < acc.length) →
    ∃ m' x7' x8' x9', loopD (gN 7) L_ends_2 (ks.map fun k => .int (k : Nat)) [some (.dat A), some (.dat B), some (.dat C), some (.own (.lf (.lst (acc.map (enD nl))))), some (.dat P), some (.dat T), some (.own (.lf (.dct (encM m)))), oD x7, oD x8, oD x9] =
      .ok .nx [some (.dat A), some (.dat B), some (.dat C), some (.own (.lf (.lst (acc.map (enD nl))))), some (.dat P), some (.dat T), some (.own (.lf (.dct (encM m')))), oD x7', oD x8', oD x9'] ∧ Left nl m' fun i => (ens (ks.map (tg acc)) i).or (E i)
  | [], m, E, x7, x8, x9, h, _, _ => ⟨m, x7, x8, x9, by simp, h.congr fun i _ => by simp [ens]⟩
  | k :: ks, m, E, x7, x8, x9, h, hl, hk => by
    have hk0 := hk k (by simp)
    obtain ⟨m1, y8, y9, h1, h2⟩ := ends_in A B C P T nl acc (.int (k : Nat)) (enL nl (tg acc k)) m E x8 x9 h hl (fun p hp => by
      have : p.1 ∈ mvL nl (tg acc k) := by rw [← enL_nd]; exact List.mem_map.mpr ⟨p, hp, rfl⟩
      exact (mem_mvL.mp this).1) (by rw [enL_nd]; exact List.nodup_range.filter _)
    obtain ⟨m', x7', x8', x9', h3, h4⟩ := ends_mid acc ks m1 _ (some (.int (k : Nat))) y8 y9 h2 hl fun j hj => hk j (List.mem_cons_of_mem _ hj)
    refine ⟨m', x7', x8', x9', ?_, h4.congr fun i hi => ?_⟩
    · rw [List.map_cons, ← h3]
      simp only [loop_cons, gN_ap]
      unfold endE at h1
      simp [L_ends_2, atI_nat, List.getElem?_map, tg_get hk0, enD, h1]
    · rw [List.map_cons, ens, lk_enL hi]
      cases ens (ks.map (tg acc)) i <;> simp
end
theorem ends_step {hn pn : List Str} (hdn : hn.Nodup) (hdp : pn.Nodup) (A : D) (nam : D) (acc : List Tr) (f : Fm) (x6 : Option SV) (x7 x8 x9 : Option D) (s : FmOk hn.length acc.length f) (hp : acc.length < pn.length) (hl : acc.length ≤ 1000) (hh : hn.length ≤ 62) :
    ∃ x6' x7' x8' x9', L_ends_4 [some (.dat A), some (.dat (numD hn)), some (.dat (numD pn)), some (.own (.lf (.lst (acc.map (enD hn.length))))), some (.dat nam), some (.dat (f.toD hn pn)), x6, oD x7, oD x8, oD x9] =
      .ok .nx [some (.dat A), some (.dat (numD hn)), some (.dat (numD pn)), some (.own (.lf (.lst ((acc ++ [mkT acc f]).map (enD hn.length))))), some (.dat nam), some (.dat (f.toD hn pn)), x6', oD x7', oD x8', oD x9'] := by
  have hz : acc.length < sizeLine := by have := sizeLine_eq; omega
  have few : f.refs.length ≤ 1000 := by have := s.fewR; omega
  have hnm := named_any (hn := hn) hdp f (fun k m => Nat.lt_trans (s.refs k m) hp) few
  have hsd := isSide hn pn f
  -- from an assignment on
  have key : ∀ (m0 : List (Nat × Int)) (E : Nat → Option Int), Left hn.length m0 E → (∀ i < hn.length, (ens (f.refs.map (tg acc)) i).or (E i) = en (mkT acc f) i) → ∃ m' x7' x8' x9',
      loopD (gN 7) L_ends_2 (f.refs.map fun k => .int (k : Nat)) [some (.dat A), some (.dat (numD hn)), some (.dat (numD pn)), some (.own (.lf (.lst (acc.map (enD hn.length))))), some (.dat nam), some (.dat (f.toD hn pn)), some (.own (.lf (.dct (encM m0)))), oD x7, oD x8, oD x9] =
        .ok .nx [some (.dat A), some (.dat (numD hn)), some (.dat (numD pn)), some (.own (.lf (.lst (acc.map (enD hn.length))))), some (.dat nam), some (.dat (f.toD hn pn)), some (.own (.lf (.dct (encM m')))), oD x7', oD x8', oD x9'] ∧
      eLc [8] (iSeq (eCallB opSortedD (aCons (eVar 6) aNil))) (gN 8) bYes C_ends_3 [some (.dat A), some (.dat (numD hn)), some (.dat (numD pn)), some (.own (.lf (.lst (acc.map (enD hn.length))))), some (.dat nam), some (.dat (f.toD hn pn)), some (.own (.lf (.dct (encM m')))), oD x7', oD x8', oD x9'] =
        .ok ((enL hn.length (mkT acc f)).map endD) [some (.dat A), some (.dat (numD hn)), some (.dat (numD pn)), some (.own (.lf (.lst (acc.map (enD hn.length))))), some (.dat nam), some (.dat (f.toD hn pn)), some (.dat (.dct (encM m'))), oD x7', oD x8', oD x9'] := by
    intro m0 E h0 hE
    obtain ⟨m', x7', x8', x9', h1, h2⟩ := ends_mid A (numD hn) (numD pn) nam (f.toD hn pn) hn.length acc f.refs m0 E x7 x8 x9 h0 hh s.refs
    have h3 : Left hn.length m' (en (mkT acc f)) := h2.congr hE
    refine ⟨m', x7', x8', x9', h1, ?_⟩
    have hs := sorted_left h3 (by omega)
    have := eLc_nx (i := 8) (f := C_ends_3) (it := iSeq (eCallB opSortedD (aCons (eVar 6) aNil))) (e := [some (.dat A), some (.dat (numD hn)), some (.dat (numD pn)), some (.own (.lf (.lst (acc.map (enD hn.length))))), some (.dat nam), some (.dat (f.toD hn pn)), some (.dat (.dct (encM m'))), oD x7', oD x8', oD x9'])
      (mvL hn.length (mkT acc f)) (fun i => .int (i : Nat)) (fun i => endD (i, (en (mkT acc f) i).getD 0)) (by simp [hs, natsD_items]) x8' rfl (fun i mi => by
        obtain ⟨hi1, hi2⟩ := mem_mvL.mp mi
        have hg : getK (encM m') (.inl (i : Nat)) = some (.int ((en (mkT acc f) i).getD 0)) := by
          rw [getK_enc, h3.at_ i hi1]
          cases hq : en (mkT acc f) i with
          | none => rw [mv, hq] at hi2; cases hi2
          | some x => rfl
        simp [C_ends_3, hg, endD]) (by
        have := List.length_filter_le (mv (mkT acc f)) (List.range hn.length)
        simp only [mvL, List.length_range] at this ⊢
        omega)
    have e2 : (enL hn.length (mkT acc f)).map endD = (mvL hn.length (mkT acc f)).map fun i => endD (i, (en (mkT acc f) i).getD 0) := by rw [enL_map, List.map_map]; rfl
    rw [e2, ← this, eLc_ap, eLc_ap]
    simp [hs, natsD_items]
  have n1 : (acc.map (enD hn.length) ++ [.lst ((enL hn.length (mkT acc f)).map endD)]) = (acc ++ [mkT acc f]).map (enD hn.length) := by simp [enD]
  unfold L_ends_4
  cases f with
  | raise l h b =>
    have hll := s.lim l h b rfl
    have hg := opGet_num hdn hll
    have h0 : Left hn.length [] fun _ => none := ⟨by simp, by simp, fun i _ => rfl⟩
    obtain ⟨m', x7', x8', x9', h1, h2⟩ := key [(l, h)] (fun i => if l = i then some h else none) ⟨by simp, by simp [hll], fun i _ => by rw [lk_cons]; rfl⟩ (fun i _ => by
      simp only [Fm.refs, List.map_nil, ens, mkT, en]
      by_cases e : l = i
      · subst e; simp
      · rw [if_neg e, if_neg (Ne.symm e)]; rfl)
    refine ⟨some (.dat (.dct (encM m'))), x7', x8', x9', ?_⟩
    have hs0 : setK ([] : List (Key × D)) (.inl (l : Nat)) (.int h) = encM [(l, h)] := rfl
    have e1 : opIx ((Fm.raise l h b).toD hn pn) (.int 1) = some (nmD hn l) := by simp [Fm.toD]
    have e2 : opIx ((Fm.raise l h b).toD hn pn) (.int 2) = some (.int h) := by simp [Fm.toD]
    generalize (Fm.raise l h b).toD hn pn = T at *
    generalize Fm.refs _ = rs at *
    simp [-eLc_ap, hsd, hnm, e1, e2, hg, hs0]
    rw [natsD_items]
    simp [-eLc_ap, h1, h2, hz, enD]
  | _ =>
    have h0 : Left hn.length [] fun _ => none := ⟨by simp, by simp, fun i _ => rfl⟩
    obtain ⟨m', x7', x8', x9', h1, h2⟩ := key [] (fun _ => none) h0 (fun i _ => by simp [Fm.refs, ens, mkT, en])
    refine ⟨some (.dat (.dct (encM m'))), x7', x8', x9', ?_⟩
    have he : encM [] = [] := rfl
    rw [he] at h1
    generalize Fm.toD hn pn _ = T at *
    generalize Fm.refs _ = rs at *
    simp [-eLc_ap, hsd, hnm]
    rw [natsD_items]
    simp [-eLc_ap, h1, h2, hz, enD]
end DL.Law

/-! T10: ends whole; sound trees -/
namespace DL.Law
open PySem L2 DL
theorem ends_loop {hn pn : List Str} (hdn : hn.Nodup) (hdp : pn.Nodup) (bk : D) (hh : hn.length ≤ 62) (hpl : pn.length ≤ 1000) : ∀ (ps : List (Str × Fm)) (acc : List Tr) (x4 x5 x6 : Option SV) (x7 x8 x9 : Option D), FmsOk hn.length acc.length (ps.map (·.2)) → acc.length + ps.length ≤ pn.length →
    ∃ x4' x5' x6' x7' x8' x9', loopD (gT [gN 4, gN 5]) L_ends_4 (ps.map (partD hn pn)) [some (.dat bk), some (.dat (numD hn)), some (.dat (numD pn)), some (.own (.lf (.lst (acc.map (enD hn.length))))), x4, x5, x6, oD x7, oD x8, oD x9] =
      .ok .nx [some (.dat bk), some (.dat (numD hn)), some (.dat (numD pn)), some (.own (.lf (.lst ((trsA acc (ps.map (·.2))).map (enD hn.length))))), x4', x5', x6', oD x7', oD x8', oD x9']
  | [], acc, x4, x5, x6, x7, x8, x9, _, _ => ⟨x4, x5, x6, x7, x8, x9, by simp [trsA]⟩
  | p :: ps, acc, x4, x5, x6, x7, x8, x9, ok, hl => by
    simp only [List.length_cons] at hl
    simp only [List.map_cons, FmsOk] at ok
    obtain ⟨y6, y7, y8, y9, h⟩ := ends_step hdn hdp bk (.str p.1) acc p.2 x6 x7 x8 x9 ok.1 (by omega) (by omega) hh
    obtain ⟨x4', x5', x6', x7', x8', x9', ih⟩ := ends_loop hdn hdp bk hh hpl ps (acc ++ [mkT acc p.2]) (some (.dat (.str p.1))) (some (.dat (p.2.toD hn pn))) y6 y7 y8 y9 (by simpa using ok.2) (by simp; omega)
    refine ⟨x4', x5', x6', x7', x8', x9', ?_⟩
    rw [List.map_cons, List.map_cons, trsA, ← ih]
    simp only [partD, loop_cons, gT_tup, gTs_cons, gTs_nil, gN_ap]
    simp [-List.map_append, h]
def Bk.endsD (b : Bk) : D := .lst (b.ts.map (enD b.nl))
def Bk.lensD (b : Bk) : D := .lst (b.ts.map lenD)
theorem ends_ok (b : Bk) (S : b.S) : m_ends [.dat b.toD] = .ok (.dat b.endsD) [none] := by
  have hl := S.hl
  have hpl := S.pl
  unfold m_ends b_ends
  rw [fnD_ap _ _ _ _ rfl]
  have h1 := numbers_limbs b.hs (by omega) S.hdn
  have h2 := numbers_parts b.hn b.pn b.ps (by omega) S.hdp
  have e3 : b.hn.length = b.nl := by simp [Bk.hn, Bk.nl]
  obtain ⟨x4', x5', x6', x7', x8', x9', h⟩ := ends_loop (hn := b.hn) (pn := b.pn) S.hdn S.hdp b.toD (by rw [e3]; exact hl) (by simp [Bk.pn]; omega) b.ps [] none none none none none none (by rw [e3]; exact FmsS.ok _ _ S.fs) (by simp [Bk.pn])
  have e1 : numD (b.hs.map (·.1)) = numD b.hn := rfl
  have e2 : numD (b.ps.map (·.1)) = numD b.pn := rfl
  rw [e1] at h1
  rw [e2] at h2
  rw [e3] at h
  have e4 : trsA [] (b.ps.map (·.2)) = b.ts := rfl
  rw [e4] at h
  simp only [Bk.toD] at h ⊢
  simp [h1, h2]
  simp at h
  simp [h, Bk.endsD]
theorem lengths_ok (b : Bk) (S : b.S) : m_lengths [.dat b.toD] = .ok (.dat b.lensD) [none] := lengths b S
/-! ### sound trees -/
mutual
def TrS (nl : Nat) : Tr → Prop
  | .raise l _ b => l < nl ∧ 1 ≤ b
  | .hold b => 1 ≤ b
  | .ring w b => 1 ≤ b ∧ PyData.strOk w = true
  | .row ts => ts ≠ [] ∧ TrSs nl ts
  | .side ts => SideOk nl ts ∧ TrSs nl ts
  | .again n x => 1 ≤ n ∧ TrS nl x
def TrSs (nl : Nat) : List Tr → Prop
  | [] => True
  | t :: ts => TrS nl t ∧ TrSs nl ts
end
theorem TrSs_iff {nl : Nat} : ∀ {ts : List Tr}, TrSs nl ts ↔ ∀ t ∈ ts, TrS nl t
  | [] => by simp [TrSs]
  | t :: ts => by simp [TrSs, TrSs_iff (ts := ts)]
theorem FmS.trS {nl : Nat} {acc : List Tr} {f : Fm} (s : FmS nl acc f) (hp : ∀ t ∈ acc, TrS nl t) : TrS nl (mkT acc f) := by
  have hm : ∀ k ∈ f.refs, TrS nl (tg acc k) := fun k m => hp _ (List.mem_of_getElem? (tg_get (s.ok.refs k m)))
  cases f with
  | raise l h b => simp only [mkT, TrS]; exact ⟨s.ok.lim l h b rfl, s.rais l h b rfl⟩
  | hold b => simp only [mkT, TrS]; exact s.hold b rfl
  | ring w b => simp only [mkT, TrS]; exact s.ring w b rfl
  | row ks =>
    simp only [mkT, TrS]
    refine ⟨by simpa using s.row ks rfl, TrSs_iff.mpr fun t m => ?_⟩
    obtain ⟨k, mk, rfl⟩ := List.mem_map.mp m
    exact hm k mk
  | side ks =>
    simp only [mkT, TrS]
    refine ⟨s.side ks rfl, TrSs_iff.mpr fun t m => ?_⟩
    obtain ⟨k, mk, rfl⟩ := List.mem_map.mp m
    exact hm k mk
  | again n k => simp only [mkT, TrS]; exact ⟨(s.again n k rfl).1, hm k (by simp [Fm.refs])⟩
theorem FmsS.trS {nl : Nat} : ∀ (fs : List Fm) (acc : List Tr), FmsS nl acc fs → (∀ t ∈ acc, TrS nl t) → ∀ t ∈ trsA acc fs, TrS nl t
  | [], acc, _, h => h
  | f :: fs, acc, s, h => FmsS.trS fs (acc ++ [mkT acc f]) s.2 fun t m => by
    rcases List.mem_append.mp m with m | m
    · exact h t m
    · rw [List.mem_singleton.mp m]; exact s.1.trS h
mutual
theorem TrS.pos {nl : Nat} : ∀ (t : Tr), TrS nl t → 1 ≤ len t
  | .raise _ _ b, h => by simp only [TrS] at h; simp only [len]; exact h.2
  | .hold b, h => by simp only [TrS] at h; simp only [len]; exact h
  | .ring _ b, h => by simp only [TrS] at h; simp only [len]; exact h.1
  | .row ts, h => by
    simp only [TrS] at h; simp only [len]
    exact (lens_pos ts (TrSs.pos ts h.2)).2 h.1
  | .side ts, h => by
    simp only [TrS] at h; simp only [len]
    exact (maxs_pos ts (TrSs.pos ts h.2)).2 h.1.ne
  | .again n x, h => by
    simp only [TrS] at h; simp only [len]
    exact mul_ge_one h.1 (TrS.pos x h.2)
theorem TrSs.pos {nl : Nat} : ∀ (ts : List Tr), TrSs nl ts → ∀ t ∈ ts, 1 ≤ len t
  | [], _ => by simp
  | t :: ts, h => by
    simp only [TrSs] at h
    have h1 := TrS.pos t h.1
    have h2 := TrSs.pos ts h.2
    intro u m
    rcases List.mem_cons.mp m with e | m
    · rw [e]; exact h1
    · exact h2 u m
end
/-! ### few words at once -/
theorem wd_over (t : Tr) (b : Int) (h : len t ≤ b) : wd t b = [] := by
  cases t <;> simp only [wd, len] at h ⊢ <;> simp [h]
theorem wdR_neg : ∀ (ts : List Tr) (b : Int), b < 0 → (∀ t ∈ ts, 1 ≤ len t) → wdR ts b = []
  | [], _, _, _ => rfl
  | t :: ts, b, h, hp => by
    have := hp t (by simp)
    rw [wdR, if_neg (by omega), wdR_neg ts _ (by omega) fun x m => hp x (List.mem_cons_of_mem _ m)]
    rfl
theorem wdR_cons (t : Tr) (ts : List Tr) (b : Int) (h0 : 0 ≤ b) (hp : ∀ x ∈ t :: ts, 1 ≤ len x) : wdR (t :: ts) b = if b < len t then wd t b else wdR ts (b - len t) := by
  rw [wdR, if_pos h0]
  split
  · rw [wdR_neg ts _ (by omega) fun x m => hp x (List.mem_cons_of_mem _ m), List.append_nil]
  · rw [wd_over t b (by omega), List.nil_append]
theorem filter_len_mono {α : Type} (l : List α) (p q : α → Bool) (h : ∀ a ∈ l, p a = true → q a = true) : (l.filter p).length ≤ (l.filter q).length := by
  induction l with
  | nil => simp
  | cons a l ih =>
    have ih := ih fun b m => h b (List.mem_cons_of_mem _ m)
    have := h a (by simp)
    rw [List.filter_cons, List.filter_cons]
    cases hp : p a <;> cases hq : q a <;> simp_all <;> omega
theorem side_sum (ts : List Tr) : ∀ (l : List Nat), (∀ i ∈ l, (ts.filter fun t => mv t i).length ≤ 1) → (ts.map fun t => (l.filter (mv t)).length).sum ≤ (l.filter fun i => ts.any fun t => mv t i).length
  | [], _ => by
    have : ∀ us : List Tr, (us.map fun t => (([] : List Nat).filter (mv t)).length).sum = 0 := by
      intro us; induction us with
      | nil => rfl
      | cons u us ih => simpa using ih
    rw [this]; simp
  | i :: l, h => by
    have ih := side_sum ts l fun j m => h j (List.mem_cons_of_mem _ m)
    have h1 := h i (by simp)
    have e : ∀ us : List Tr, (us.map fun t => ((i :: l).filter (mv t)).length).sum = (us.filter fun t => mv t i).length + (us.map fun t => (l.filter (mv t)).length).sum := by
      intro us
      induction us with
      | nil => rfl
      | cons u us ih =>
        rw [List.map_cons, List.sum_cons, ih, List.map_cons, List.sum_cons, List.filter_cons, List.filter_cons]
        cases mv u i <;> simp <;> omega
    rw [e, List.filter_cons]
    by_cases ha : (ts.any fun t => mv t i) = true
    · rw [if_pos ha, List.length_cons]; omega
    · rw [if_neg ha]
      have : (ts.filter fun t => mv t i) = [] := by
        rw [List.filter_eq_nil_iff]
        intro t m hm
        exact ha (List.any_eq_true.mpr ⟨t, m, hm⟩)
      rw [this]
      simp; omega
theorem mvL_mono {nl : Nat} {t u : Tr} (h : ∀ i, mv t i = true → mv u i = true) : (mvL nl t).length ≤ (mvL nl u).length := filter_len_mono _ _ _ fun i _ => h i
mutual
theorem wd_len {nl : Nat} : ∀ (t : Tr) (b : Int), 0 ≤ b → TrS nl t → (wd t b).length ≤ max 1 (mvL nl t).length
  | .raise _ _ _, _, _, _ => by simp [wd]
  | .hold _, _, _, _ => by simp [wd]
  | .ring w n, b, _, _ => by
    simp only [wd]
    split
    · simp
    · split
      · simp; omega
      · simp
  | .row ts, b, hb, h => by
    simp only [TrS] at h
    simp only [wd]
    split
    · simp
    · refine Nat.le_trans (wdR_len ts b hb h.2 (mvL nl (.row ts)).length ?_) (Nat.le_refl _)
      intro t m
      exact mvL_mono fun i hi => by rw [mv_row]; exact List.any_eq_true.mpr ⟨t, m, hi⟩
  | .side ts, b, hb, h => by
    simp only [TrS] at h
    simp only [wd]
    split
    · simp
    · have h1 := wdS_len ts b hb h.2 h.1.mvs
      have h2 := side_sum ts (List.range nl) fun i m => h.1.one i (List.mem_range.mp m)
      have e : mvL nl (.side ts) = (List.range nl).filter fun i => ts.any fun t => mv t i := by
        unfold mvL
        congr 1
        funext i
        exact mv_side ts i
      rw [e]
      have e2 : (ts.map fun t => (mvL nl t).length) = ts.map fun t => ((List.range nl).filter (mv t)).length := rfl
      rw [e2] at h1
      omega
  | .again n x, b, hb, h => by
    simp only [TrS] at h
    simp only [wd]
    have hp := TrS.pos x h.2
    split
    · simp
    · exact wd_len x _ (Int.emod_nonneg _ (by omega)) h.2
theorem wdR_len {nl : Nat} : ∀ (ts : List Tr) (b : Int), 0 ≤ b → TrSs nl ts → ∀ m, (∀ t ∈ ts, (mvL nl t).length ≤ m) → (wdR ts b).length ≤ max 1 m
  | [], _, _, _, _, _ => by simp [wdR]
  | t :: ts, b, hb, h, m, hm => by
    have hp := TrSs.pos (t :: ts) h
    simp only [TrSs] at h
    rw [wdR_cons t ts b hb hp]
    split
    · have := wd_len t b hb h.1
      have := hm t (by simp)
      omega
    · exact wdR_len ts _ (by omega) h.2 m fun u mu => hm u (List.mem_cons_of_mem _ mu)
theorem wdS_len {nl : Nat} : ∀ (ts : List Tr) (b : Int), 0 ≤ b → TrSs nl ts → (∀ t ∈ ts, mvL nl t ≠ []) → (wdS ts b).length ≤ (ts.map fun t => (mvL nl t).length).sum
  | [], _, _, _, _ => by simp [wdS]
  | t :: ts, b, hb, h, hm => by
    simp only [TrSs] at h
    have h1 := wd_len t b hb h.1
    have h2 := wdS_len ts b hb h.2 fun u mu => hm u (List.mem_cons_of_mem _ mu)
    have h3 := List.length_pos_iff.mpr (hm t (by simp))
    rw [wdS, List.length_append, List.map_cons, List.sum_cons]
    omega
end
theorem wd_few {nl : Nat} (t : Tr) (b : Int) (h0 : 0 ≤ b) (h : TrS nl t) (hn : nl ≤ 62) : (wd t b).length ≤ 62 := by
  have := wd_len t b h0 h
  have : (mvL nl t).length ≤ nl := by
    have := List.length_filter_le (mv t) (List.range nl)
    simpa [mvL] using this
  omega
end DL.Law

/-! T11: a guide made -/
namespace DL.Law
open PySem L2 DL
theorem guide_loop2 (F : FV) (bk : D) (x2 x3 x6 : Option D) : ∀ (rows : List (Str × List D)) (k : Nat) (acc : List (Key × D)) (x4 x5 : Option D), acc.length + rows.length ≤ 1000 → (rows.map (·.1)).Nodup → (∀ p ∈ acc, ∀ r ∈ rows, p.1 ≠ .inr r.1) →
    ∃ x4' x5', loopD (gT [gN 4, gN 5]) L_Guide_init_2 ((((rows.map fun r => D.tup (.str r.1 :: r.2)).zipIdx k).map fun p => .tup [.int (p.2 : Nat), p.1])) [some (.own (.ins 1 [("forms", F), ("numbers", .own (.dct acc))])), some (.dat bk), oD x2, oD x3, oD x4, oD x5, oD x6] =
      .ok .nx [some (.own (.ins 1 [("forms", F), ("numbers", .own (.dct (acc ++ numFrom k (rows.map (·.1)))))])), some (.dat bk), oD x2, oD x3, oD x4', oD x5', oD x6]
  | [], k, acc, x4, x5, _, _, _ => ⟨x4, x5, by simp [numFrom]⟩
  | r :: rows, k, acc, x4, x5, hl, hn, ha => by
    simp only [List.length_cons] at hl
    simp only [List.map_cons, List.nodup_cons] at hn
    obtain ⟨x', y', ih⟩ := guide_loop2 F bk x2 x3 x6 rows (k + 1) (acc ++ [(.inr r.1, .int (k : Nat))]) (some (.int (k : Nat))) (some (.tup (.str r.1 :: r.2))) (by simp; omega) hn.2 (fun p m s ms => by
      rcases List.mem_append.mp m with m | m
      · exact ha p m s (List.mem_cons_of_mem _ ms)
      · simp at m; subst m
        intro e
        exact hn.1 (List.mem_map.mpr ⟨s, ms, (Sum.inr.inj e).symm⟩))
    refine ⟨x', y', ?_⟩
    rw [List.map_cons, List.map_cons, numFrom_cons, show ∀ (a : Key × D) (l m : List (Key × D)), l ++ a :: m = (l ++ [a]) ++ m by simp, ← ih]
    have hz : acc.length < sizeLine := by have := sizeLine_eq; omega
    have hs : setK acc (.inr r.1) (.int (k : Nat)) = acc ++ [(.inr r.1, .int (k : Nat))] := setK_new fun p m => ha p m r (by simp)
    simp [L_Guide_init_2, hz, hs, look_cons, ofS_inj]
theorem guide_loop3 (F N : FV) (bk : D) (x2 x3 x5 : Option D) : ∀ (rows : List (Str × List D)) (k : Nat) (acc : List (Key × D)) (x4 x6 : Option D), acc.length + rows.length ≤ 1000 → (rows.map (·.1)).Nodup → (∀ p ∈ acc, ∀ r ∈ rows, p.1 ≠ .inr r.1) →
    ∃ x4' x6', loopD (gT [gN 4, gN 6]) L_Guide_init_3 ((((rows.map fun r => D.tup (.str r.1 :: r.2)).zipIdx k).map fun p => .tup [.int (p.2 : Nat), p.1])) [some (.own (.ins 1 [("forms", F), ("numbers", N), ("limbs", .own (.dct acc))])), some (.dat bk), oD x2, oD x3, oD x4, oD x5, oD x6] =
      .ok .nx [some (.own (.ins 1 [("forms", F), ("numbers", N), ("limbs", .own (.dct (acc ++ numFrom k (rows.map (·.1)))))])), some (.dat bk), oD x2, oD x3, oD x4', oD x5, oD x6']
  | [], k, acc, x4, x6, _, _, _ => ⟨x4, x6, by simp [numFrom]⟩
  | r :: rows, k, acc, x4, x6, hl, hn, ha => by
    simp only [List.length_cons] at hl
    simp only [List.map_cons, List.nodup_cons] at hn
    obtain ⟨x', y', ih⟩ := guide_loop3 F N bk x2 x3 x5 rows (k + 1) (acc ++ [(.inr r.1, .int (k : Nat))]) (some (.int (k : Nat))) (some (.tup (.str r.1 :: r.2))) (by simp; omega) hn.2 (fun p m s ms => by
      rcases List.mem_append.mp m with m | m
      · exact ha p m s (List.mem_cons_of_mem _ ms)
      · simp at m; subst m
        intro e
        exact hn.1 (List.mem_map.mpr ⟨s, ms, (Sum.inr.inj e).symm⟩))
    refine ⟨x', y', ?_⟩
    rw [List.map_cons, List.map_cons, numFrom_cons, show ∀ (a : Key × D) (l m : List (Key × D)), l ++ a :: m = (l ++ [a]) ++ m by simp, ← ih]
    have hz : acc.length < sizeLine := by have := sizeLine_eq; omega
    have hs : setK acc (.inr r.1) (.int (k : Nat)) = acc ++ [(.inr r.1, .int (k : Nat))] := setK_new fun p m => ha p m r (by simp)
    simp [L_Guide_init_3, hz, hs, look_cons, ofS_inj]
def Bk.formsD (b : Bk) : D := .lst (b.ps.map fun p => p.2.toD b.hn b.pn)
def Bk.guideF (b : Bk) : List (Str × D) := [("forms", b.formsD), ("numbers", numD b.pn), ("limbs", numD b.hn), ("lengths", b.lensD), ("ends", b.endsD)]
def Bk.guideD (b : Bk) : D := .obj 1 b.guideF
theorem guide_init (b : Bk) (S : b.S) : m_Guide_init [.own (.ins 1 []), .dat b.toD] = .ok (.dat .non) [some (.own (.ins 1 [("forms", .dat b.formsD), ("numbers", .own (.dct (numFrom 0 b.pn))), ("limbs", .own (.dct (numFrom 0 b.hn))), ("lengths", .dat b.lensD), ("ends", .dat b.endsD)])), none] := by
  have hl := S.hl
  have hpl := S.pl
  unfold m_Guide_init b_Guide_init
  rw [fnD_ap _ _ _ _ rfl]
  have h1 := lengths_ok b S
  have h2 := ends_ok b S
  have hf : eLc [2, 3] (iSeq (eBin opIx (eVar 1) (eC (.int 1)))) (gT [gN 2, gN 3]) bYes C_Guide_init_1 [some (.own (.ins 1 [])), some (.dat b.toD), none, none, none, none, none] = .ok (b.ps.map fun p => p.2.toD b.hn b.pn) [some (.own (.ins 1 [])), some (.dat b.toD), none, none, none, none, none] :=
    eLc_2 b.ps (fun p => .str p.1) (fun p => p.2.toD b.hn b.pn) (fun p => p.2.toD b.hn b.pn) (by simp [Bk.toD, partD]) rfl rfl (fun p _ => by simp [C_Guide_init_1]) (by omega)
  have e1 : (b.ps.map (partD b.hn b.pn)) = (b.ps.map fun l => (l.1, [l.2.toD b.hn b.pn])).map fun r : Str × List D => D.tup (.str r.1 :: r.2) := by rw [List.map_map]; rfl
  have e2 : (b.hs.map limbD) = (b.hs.map fun l => (l.1, [D.int l.2])).map fun r : Str × List D => D.tup (.str r.1 :: r.2) := by rw [List.map_map]; rfl
  obtain ⟨x4, x5, h3⟩ := guide_loop2 (.dat b.formsD) b.toD none none none (b.ps.map fun l => (l.1, [l.2.toD b.hn b.pn])) 0 [] none none (by simp; omega) (by rw [List.map_map]; exact S.hdp) (by simp)
  obtain ⟨x4', x6', h4⟩ := guide_loop3 (.dat b.formsD) (.own (.dct (numFrom 0 b.pn))) b.toD none none x5 (b.hs.map fun l => (l.1, [D.int l.2])) 0 [] x4 none (by simp; omega) (by rw [List.map_map]; exact S.hdn) (by simp)
  rw [← e1, ← enumD_from] at h3
  rw [← e2, ← enumD_from] at h4
  have n1 : ((b.ps.map fun l => (l.1, [l.2.toD b.hn b.pn])).map (·.1)) = b.pn := by rw [List.map_map]; rfl
  have n2 : ((b.hs.map fun l => (l.1, [D.int l.2])).map (·.1)) = b.hn := by rw [List.map_map]; rfl
  rw [n1] at h3
  rw [n2] at h4
  have t1 : opIx b.toD (.int 1) = some (.lst (b.ps.map (partD b.hn b.pn))) := by simp [Bk.toD]
  have t0 : opIx b.toD (.int 0) = some (.lst (b.hs.map limbD)) := by simp [Bk.toD]
  have f0 : (D.lst (b.ps.map fun p => p.2.toD b.hn b.pn)) = b.formsD := rfl
  generalize b.toD = T at *
  simp only [oD_none] at h3 h4
  simp [-eLc_ap, hf, h1, h2, t1, t0, f0, h3, h4, look_cons, ofS_inj]
theorem guide_new (b : Bk) (S : b.S) (e : Slots) : rNew 1 m_Guide_init [.dat b.toD] (some ([.dat b.toD], e)) = .ok (.own (.ins 1 [("forms", .dat b.formsD), ("numbers", .own (.dct (numFrom 0 b.pn))), ("limbs", .own (.dct (numFrom 0 b.hn))), ("lengths", .dat b.lensD), ("ends", .dat b.endsD)])) e := by
  rw [rNew_some, guide_init b S]
  simp
end DL.Law

/-! T12: words at a beat, run -/
namespace DL.Law
open PySem L2 DL
namespace Bk
variable {b : Bk}
theorem tlen (b : Bk) : b.ts.length = b.ps.length := by rw [ts, trs_len, fs, List.length_map]
theorem S.refs (S : b.S) : Refs b.fs := by
  intro i f h k hk
  have key : ∀ (fs : List Fm) (acc : List Tr) (i : Nat) (f : Fm), FmsS b.nl acc fs → fs[i]? = some f → ∀ k ∈ f.refs, k < acc.length + i := by
    intro fs
    induction fs with
    | nil => intro acc i f _ h; simp at h
    | cons g fs ih =>
      intro acc i f s h k hk
      cases i with
      | zero =>
        simp at h; subst h
        exact s.1.ok.refs k hk
      | succ i =>
        have := ih _ i f s.2 (by simpa using h) k hk
        simp at this; omega
  have := key b.fs [] i f S.fs h k hk
  simpa using this
theorem get_form {k : Nat} {p : Str × Fm} (h : b.ps[k]? = some p) : b.fs[k]? = some p.2 := by rw [fs, List.getElem?_map, h]; rfl
theorem S.t_at (S : b.S) {k : Nat} {p : Str × Fm} (h : b.ps[k]? = some p) : b.t k = mkT b.ts p.2 := by
  have h1 := trs_at S.refs (get_form h)
  have hk : k < b.ts.length := by rw [tlen]; exact (List.getElem?_eq_some_iff.mp h).1
  have h2 := tg_get hk
  rw [t]
  rw [show trs b.fs = b.ts from rfl] at h1
  rw [h1] at h2
  exact (Option.some.inj h2).symm
theorem S.trS (S : b.S) : ∀ t ∈ b.ts, TrS b.nl t := FmsS.trS b.fs [] S.fs (by simp)
theorem S.t_S (S : b.S) {k : Nat} (h : k < b.ps.length) : TrS b.nl (b.t k) := S.trS _ (List.mem_of_getElem? (tg_get (by rw [tlen]; exact h)))
theorem S.pos (S : b.S) {k : Nat} (h : k < b.ps.length) : 1 ≤ len (b.t k) := (S.t_S h).pos
theorem S.form (S : b.S) {k : Nat} {p : Str × Fm} (h : b.ps[k]? = some p) : ∃ acc, FmS b.nl acc p.2 ∧ acc.length = k ∧ (∀ i < k, tg acc i = b.t i) ∧ mkT acc p.2 = b.t k := by
  have key : ∀ (fs : List Fm) (acc : List Tr) (i : Nat) (f : Fm), FmsS b.nl acc fs → fs[i]? = some f → ∃ acc', FmS b.nl acc' f ∧ acc'.length = acc.length + i ∧ ∃ r, trsA acc fs = acc' ++ mkT acc' f :: r := by
    intro fs
    induction fs with
    | nil => intro acc i f _ h; simp at h
    | cons g fs ih =>
      intro acc i f s h
      cases i with
      | zero =>
        simp at h; subst h
        obtain ⟨r, hr⟩ := trsA_pre fs (acc ++ [mkT acc g])
        exact ⟨acc, s.1, rfl, r, by rw [trsA, hr]; simp⟩
      | succ i =>
        obtain ⟨acc', h1, h2, r, h3⟩ := ih _ i f s.2 (by simpa using h)
        exact ⟨acc', h1, by simp at h2; omega, r, h3⟩
  obtain ⟨acc, h1, h2, r, h3⟩ := key b.fs [] k p.2 S.fs (get_form h)
  have h3 : b.ts = acc ++ mkT acc p.2 :: r := h3
  have hl : acc.length = k := by simpa using h2
  refine ⟨acc, h1, hl, fun i hi => ?_, ?_⟩
  · rw [t, h3, tg_app (by omega)]
  · rw [t, h3]
    have : (acc ++ mkT acc p.2 :: r)[k]? = some (mkT acc p.2) := by rw [List.getElem?_append_right (by omega), hl]; simp
    have h4 := tg_get (acc := acc ++ mkT acc p.2 :: r) (k := k) (by simp; omega)
    rw [this] at h4
    exact Option.some.inj h4
theorem S.top (S : b.S) {k : Nat} (h : k < b.ps.length) : len (b.t k) ≤ 10 ^ 60 := by
  obtain ⟨acc, h1, _, _, h2⟩ := S.form (List.getElem?_eq_getElem h)
  rw [← h2]; exact h1.top
theorem forms_at {k : Nat} {p : Str × Fm} (h : b.ps[k]? = some p) : opIx b.formsD (.int (k : Nat)) = some (p.2.toD b.hn b.pn) := by
  simp [formsD, atI_nat, h]
theorem lens_at {k : Nat} (h : k < b.ps.length) : opIx b.lensD (.int (k : Nat)) = some (.int (len (b.t k))) := by
  simp [lensD, atI_nat, tg_get (show k < b.ts.length by rw [tlen]; exact h)]; rfl
theorem ends_at {k : Nat} (h : k < b.ps.length) : opIx b.endsD (.int (k : Nat)) = some (enD b.nl (b.t k)) := by
  simp [endsD, atI_nat, tg_get (show k < b.ts.length by rw [tlen]; exact h)]; rfl
theorem num_at (S : b.S) {k : Nat} (h : k < b.ps.length) : opGet (numD b.pn) (nmD b.pn k) = some (.int (k : Nat)) := opGet_num S.hdp (by simpa [pn] using h)
theorem hnum_at (S : b.S) {k : Nat} (h : k < b.nl) : opGet (numD b.hn) (nmD b.hn k) = some (.int (k : Nat)) := opGet_num S.hdn (by simpa [hn, nl] using h)
def guideFV (b : Bk) : List (Str × FV) := [("forms", .dat b.formsD), ("numbers", .own (.dct (numFrom 0 b.pn))), ("limbs", .own (.dct (numFrom 0 b.hn))), ("lengths", .dat b.lensD), ("ends", .dat b.endsD)]
theorem guide_view (b : Bk) : (MO.ins 1 b.guideFV).view = b.guideD := rfl
theorem g_forms (b : Bk) : opFld 1 "forms" b.guideD = some b.formsD := by simp [guideD, guideF, look_cons, ofS_inj]
theorem g_numbers (b : Bk) : opFld 1 "numbers" b.guideD = some (numD b.pn) := by simp [guideD, guideF, look_cons, ofS_inj]
theorem g_limbs (b : Bk) : opFld 1 "limbs" b.guideD = some (numD b.hn) := by simp [guideD, guideF, look_cons, ofS_inj]
theorem g_lengths (b : Bk) : opFld 1 "lengths" b.guideD = some b.lensD := by simp [guideD, guideF, look_cons, ofS_inj]
theorem g_ends (b : Bk) : opFld 1 "ends" b.guideD = some b.endsD := by simp [guideD, guideF, look_cons, ofS_inj]
end Bk
/-- a method of a guide -/
theorem guide_meth (b : Bk) (m : Str) (i : Nat) (Φ : List SV → RE SV) (ars : List AR) (e : Slots) (h : e[i]? = some (some (.dat b.guideD))) (hm : b.guideF.lookup m = none) : methV 1 m i Φ ars e = callD Φ (.dat (eC b.guideD) :: ars) e := by
  rw [methV_ap, h, Bk.guideD, rMeth_d, if_pos ⟨rfl, hm⟩]
theorem g_words (b : Bk) : b.guideF.lookup (Str.ofString "words") = none := by simp [Bk.guideF, look_cons, ofS_inj]
theorem g_look (b : Bk) : b.guideF.lookup (Str.ofString "look_at") = none := by simp [Bk.guideF, look_cons, ofS_inj]
def wdD (t : Tr) (x : Int) : D := .lst ((wd t x).map D.str)
section
variable (b : Bk) (S : b.S)
include S
theorem words_loop (Φ : List SV → RE SV) (kk : D) (s : Bool) (F : D) (hF : opIx F (.int 0) = some (.str (if s then "row" else "side"))) :
    ∀ (ks : List Nat) (x : Int) (cur : List Str) (x4 : Option D) (x6 : Option D), (∀ k ∈ ks, k < b.ps.length ∧ ∀ y : Int, 0 ≤ y → Φ [.dat b.guideD, .dat (.int (k : Nat)), .dat (.int y)] = .ok (.dat (wdD (b.t k) y)) [none, none, none]) → cur.length + ks.length * 62 ≤ 100000 →
    ∃ x' x4' x6', loopD (gN 6) (L_Guide_words_1 Φ) (ks.map (nmD b.pn)) [some (.dat b.guideD), some (.dat kk), some (.dat (.int x)), some (.dat F), oD x4, some (.own (.lf (.lst (cur.map D.str)))), oD x6] =
      .ok .nx [some (.dat b.guideD), some (.dat kk), some (.dat (.int x')), some (.dat F), oD x4', some (.own (.lf (.lst ((cur ++ if s then wdR (ks.map b.t) x else if 0 ≤ x then wdS (ks.map b.t) x else []).map D.str)))), oD x6']
  | [], x, cur, x4, x6, _, _ => ⟨x, x4, x6, by cases s <;> simp [wdR, wdS]⟩
  | k :: ks, x, cur, x4, x6, hk, hl => by
    obtain ⟨hk1, hΦ⟩ := hk k (by simp)
    rw [List.length_cons, Nat.add_mul] at hl
    have hfew : 0 ≤ x → (wd (b.t k) x).length ≤ 62 := fun h0 => wd_few _ _ h0 (S.t_S hk1) S.hl
    have hn := Bk.num_at S hk1
    have hle := Bk.lens_at (b := b) hk1
    have g1 := b.g_numbers
    have g2 := b.g_lengths
    have hm := g_words b
    have mth : ∀ (ars : List AR) (x2 x4 x5 x6 : Option SV), methV 1 "words" 0 Φ ars [some (.dat b.guideD), some (.dat kk), x2, some (.dat F), x4, x5, x6] = callD Φ (.dat (eC b.guideD) :: ars) [some (.dat b.guideD), some (.dat kk), x2, some (.dat F), x4, x5, x6] := fun ars x2 x4 x5 x6 => guide_meth b _ _ Φ ars _ rfl hm
    by_cases h0 : 0 ≤ x
    · have hw := hΦ x h0
      have hfew := hfew h0
      have hz : cur.length + (wd (b.t k) x).length ≤ sizeLine := by have := sizeLine_eq; omega
      cases s with
      | true =>
        obtain ⟨x', x4', x6', ih⟩ := words_loop Φ kk true F hF ks (x - len (b.t k)) (cur ++ wd (b.t k) x) (some (.int (k : Nat))) (some (nmD b.pn k)) (fun j m => hk j (List.mem_cons_of_mem _ m)) (by simp; omega)
        refine ⟨x', x4', x6', ?_⟩
        simp only [if_true] at ih hF ⊢
        rw [List.map_cons, List.map_cons, wdR, if_pos h0, ← List.append_assoc, ← ih]
        generalize b.guideD = G at *
        simp [L_Guide_words_1, -methV_ap, mth, g1, g2, hn, h0, hw, wdD, hz, hF, hle]
      | false =>
        obtain ⟨x', x4', x6', ih⟩ := words_loop Φ kk false F hF ks x (cur ++ wd (b.t k) x) (some (.int (k : Nat))) (some (nmD b.pn k)) (fun j m => hk j (List.mem_cons_of_mem _ m)) (by simp; omega)
        refine ⟨x', x4', x6', ?_⟩
        simp only [Bool.false_eq_true, if_false, if_pos h0] at ih hF ⊢
        rw [List.map_cons, List.map_cons, wdS, ← List.append_assoc, ← ih]
        generalize b.guideD = G at *
        simp [L_Guide_words_1, -methV_ap, mth, g1, g2, hn, h0, hw, wdD, hz, hF, hle]
    · cases s with
      | true =>
        obtain ⟨x', x4', x6', ih⟩ := words_loop Φ kk true F hF ks (x - len (b.t k)) cur (some (.int (k : Nat))) (some (nmD b.pn k)) (fun j m => hk j (List.mem_cons_of_mem _ m)) (by omega)
        refine ⟨x', x4', x6', ?_⟩
        simp only [if_true] at ih hF ⊢
        rw [List.map_cons, List.map_cons, wdR, if_neg h0, List.nil_append, ← ih]
        generalize b.guideD = G at *
        simp [L_Guide_words_1, -methV_ap, mth, g1, g2, hn, h0, hF, hle]
      | false =>
        obtain ⟨x', x4', x6', ih⟩ := words_loop Φ kk false F hF ks x cur (some (.int (k : Nat))) (some (nmD b.pn k)) (fun j m => hk j (List.mem_cons_of_mem _ m)) (by omega)
        refine ⟨x', x4', x6', ?_⟩
        simp only [Bool.false_eq_true, if_false, if_neg h0] at ih hF ⊢
        rw [List.map_cons, ← ih]
        generalize b.guideD = G at *
        simp [L_Guide_words_1, -methV_ap, mth, g1, g2, hn, h0, hF, hle]
end
end DL.Law

/-! T13: words, rings, played for ever -/
namespace DL.Law
open PySem L2 DL
section
variable (b : Bk) (S : b.S)
include S
theorem words_ok : ∀ (n k : Nat) (x : Int), k < n → k < b.ps.length → 0 ≤ x → m_Guide_words n [.dat b.guideD, .dat (.int (k : Nat)), .dat (.int x)] = .ok (.dat (wdD (b.t k) x)) [none, none, none]
  | 0, k, x, hn, _, _ => by omega
  | n + 1, k, x, hn, hk, hx => by
    show fnD _ _ _ _ = _
    rw [fnD_ap _ _ _ _ rfl]
    obtain ⟨⟨nam, f⟩, hp⟩ : ∃ p, b.ps[k]? = some p := ⟨_, List.getElem?_eq_getElem hk⟩
    obtain ⟨acc, hs, hlen, hacc, hmk⟩ := S.form hp
    have hrefs : ∀ j ∈ f.refs, j < k := fun j m => by have := hs.ok.refs j m; omega
    have ih : ∀ j ∈ f.refs, j < b.ps.length ∧ ∀ y : Int, 0 ≤ y → m_Guide_words n [.dat b.guideD, .dat (.int (j : Nat)), .dat (.int y)] = .ok (.dat (wdD (b.t j) y)) [none, none, none] := fun j m => by
      have := hrefs j m
      exact ⟨by omega, fun y hy => words_ok n j y (by omega) (by omega) hy⟩
    have g0 := b.g_forms
    have g1 := b.g_numbers
    have g2 := b.g_lengths
    have hf := Bk.forms_at hp
    have hle := Bk.lens_at (b := b) hk
    have hm := g_words b
    have hsd := isSide b.hn b.pn f
    have hfr := hs.ok.fewR
    have mth : ∀ (ars : List AR) (x1 x2 x3 x4 x5 x6 : Option SV), methV 1 "words" 0 (m_Guide_words n) ars [some (.dat b.guideD), x1, x2, x3, x4, x5, x6] = callD (m_Guide_words n) (.dat (eC b.guideD) :: ars) [some (.dat b.guideD), x1, x2, x3, x4, x5, x6] := fun ars x1 x2 x3 x4 x5 x6 => guide_meth b _ _ _ ars _ rfl hm
    have htg : ∀ j ∈ f.refs, tg acc j = b.t j := fun j m => hacc j (hrefs j m)
    unfold b_Guide_words
    rw [← hmk] at hle ⊢
    have tmap : ∀ ks : List Nat, (∀ j ∈ ks, tg acc j = b.t j) → ks.map (tg acc) = ks.map b.t := fun ks h => List.map_congr_left h
    simp only at hs hmk hf hfr hle
    cases f with
    | raise l h c =>
      generalize b.guideD = G at *
      by_cases hlt : c ≤ x <;> simp [g0, g2, hf, hle, hsd, hlt, wdD, mkT, wd, len]
    | hold c =>
      generalize b.guideD = G at *
      by_cases hlt : c ≤ x <;> simp [g0, g2, hf, hle, hsd, hlt, wdD, mkT, wd, len]
    | ring w c =>
      generalize b.guideD = G at *
      have e1 : opIx ((Fm.ring w c).toD b.hn b.pn) (.int 1) = some (.str w) := by simp [Fm.toD]
      by_cases hlt : c ≤ x
      · simp [g0, g2, hf, hle, hsd, hlt, wdD, mkT, wd, len]
      · by_cases h0 : x = 0
        · subst h0
          simp [g0, g2, hf, hle, hsd, hlt, wdD, mkT, wd, len, e1]
        · simp [g0, g2, hf, hle, hsd, hlt, wdD, mkT, wd, len, h0, e1]
    | again m j =>
      obtain ⟨hj, hw⟩ := ih j (by simp [Fm.refs])
      have hjl := Bk.lens_at (b := b) hj
      have hnj := Bk.num_at S hj
      have hpos := S.pos hj
      have hw := hw (x % len (b.t j)) (Int.emod_nonneg _ (by omega))
      have e1 : opIx ((Fm.again m j).toD b.hn b.pn) (.int 2) = some (nmD b.pn j) := by simp [Fm.toD]
      have ej := htg j (by simp [Fm.refs])
      have hp0 : 0 < len (b.t j) := by omega
      generalize b.guideD = G at *
      by_cases hlt : m * len (b.t j) ≤ x
      · simp [g0, g2, hf, hle, hsd, hlt, wdD, mkT, wd, len, ej]
      · simp [-methV_ap, mth, g0, g1, g2, hf, hle, hsd, hlt, wdD, mkT, wd, len, ej, e1, hnj, hjl, hp0]
        simp [hw, wdD]
    | row ks =>
      simp only [Fm.refs] at ih htg hfr
      have e1 : opIx ((Fm.row ks).toD b.hn b.pn) (.int 1) = some (.tup (ks.map (nmD b.pn))) := by simp [Fm.toD]
      obtain ⟨x', x4', x6', hlp⟩ := words_loop b S (m_Guide_words n) (.int (k : Nat)) true ((Fm.row ks).toD b.hn b.pn) (by rw [hsd]; rfl) ks x [] none none ih (by simp; omega)
      simp only [if_true, List.nil_append, List.map_nil, oD_none] at hlp
      have et := tmap ks htg
      generalize b.guideD = G at *
      by_cases hlt : lens (ks.map b.t) ≤ x
      · simp [g0, g2, hf, hle, hsd, hlt, wdD, mkT, wd, len, et]
      · simp [g0, g2, hf, hle, hsd, hlt, wdD, mkT, wd, len, et, e1, hlp]
    | side ks =>
      simp only [Fm.refs] at ih htg hfr
      have e1 : opIx ((Fm.side ks).toD b.hn b.pn) (.int 1) = some (.tup (ks.map (nmD b.pn))) := by simp [Fm.toD]
      obtain ⟨x', x4', x6', hlp⟩ := words_loop b S (m_Guide_words n) (.int (k : Nat)) false ((Fm.side ks).toD b.hn b.pn) (by rw [hsd]; rfl) ks x [] none none ih (by simp; omega)
      simp only [Bool.false_eq_true, if_false, if_pos hx, List.nil_append, List.map_nil, oD_none] at hlp
      have et := tmap ks htg
      generalize b.guideD = G at *
      by_cases hlt : maxs (ks.map b.t) ≤ x
      · simp [g0, g2, hf, hle, hsd, hlt, wdD, mkT, wd, len, et]
      · simp [g0, g2, hf, hle, hsd, hlt, wdD, mkT, wd, len, et, e1, hlp]
end
/-- the play -/
def Bk.play (b : Bk) : Tr := b.t (b.ps.length - 1)
def Bk.L (b : Bk) : Int := len b.play
theorem Bk.lens_last (b : Bk) (S : b.S) : opIx b.lensD (.int (-1)) = some (.int b.L) := by
  have h : 0 < b.ps.length := List.length_pos_iff.mpr S.ne
  have hne : b.ts.map lenD ≠ [] := by
    intro e
    have := congrArg List.length e
    simp [Bk.tlen] at this
    exact S.ne this
  rw [Bk.lensD, opIx_l, atI_neg1 _ hne, List.length_map, b.tlen, List.getElem?_map, tg_get (by rw [b.tlen]; omega)]
  rfl
theorem Bk.S.lpos {b : Bk} (S : b.S) : 1 ≤ b.L := S.pos (by have := List.length_pos_iff.mpr S.ne; omega)
theorem Bk.S.ltop {b : Bk} (S : b.S) : b.L ≤ 10 ^ 60 := S.top (by have := List.length_pos_iff.mpr S.ne; omega)
theorem look_ok (b : Bk) (S : b.S) (x : Int) (h0 : 0 ≤ x) (h1 : x ≤ b.L) : m_Guide_look_at [.dat b.guideD, .dat (.int x)] = .ok (.dat (.bl (decide (x = b.L)))) [none, none] := by
  unfold m_Guide_look_at b_Guide_look_at
  rw [fnD_ap _ _ _ _ rfl]
  have g2 := b.g_lengths
  have hl := b.lens_last S
  have h2 : ¬ x < 0 := by omega
  have h3 : ¬ b.L < x := by omega
  generalize b.guideD = G at *
  simp [g2, hl, h2, h3]
/-- the words at a beat of the play -/
def Bk.rings (b : Bk) (x : Int) : List Str := if x = b.L then [] else wd b.play x
theorem rings_ok (b : Bk) (S : b.S) (x : Int) (h0 : 0 ≤ x) (h1 : x ≤ b.L) : m_rings [.dat b.toD, .dat (.int x)] = .ok (.dat (.lst ((b.rings x).map D.str))) [none, none] := by
  unfold m_rings b_rings
  rw [fnD_ap _ _ _ _ rfl]
  have h := List.length_pos_iff.mpr S.ne
  have hpl := S.pl
  have hnew := fun e => guide_new b S e
  have hlk := look_ok b S x h0 h1
  have hw := words_ok b S 70 (b.ps.length - 1) x (by omega) (by omega) h0
  have hc : ((b.ps.length - 1 : Nat) : Int) = (b.ps.length : Int) - 1 := by omega
  rw [hc] at hw
  have m1 : ∀ (ars : List AR) (x0 x1 : Option SV), methV 1 "look_at" 2 m_Guide_look_at ars [x0, x1, some (.dat b.guideD)] = callD m_Guide_look_at (.dat (eC b.guideD) :: ars) [x0, x1, some (.dat b.guideD)] := fun ars x0 x1 => guide_meth b _ _ _ ars _ rfl (g_look b)
  have m2 : ∀ (ars : List AR) (x0 x1 : Option SV), methV 1 "words" 2 (m_Guide_words 70) ars [x0, x1, some (.dat b.guideD)] = callD (m_Guide_words 70) (.dat (eC b.guideD) :: ars) [x0, x1, some (.dat b.guideD)] := fun ars x0 x1 => guide_meth b _ _ _ ars _ rfl (g_words b)
  have hv : (MO.ins 1 [("forms", .dat b.formsD), ("numbers", .own (.dct (numFrom 0 b.pn))), ("limbs", .own (.dct (numFrom 0 b.hn))), ("lengths", .dat b.lensD), ("ends", .dat b.endsD)]).view = b.guideD := rfl
  have t1 : opIx b.toD (.int 1) = some (.lst (b.ps.map (partD b.hn b.pn))) := by simp [Bk.toD]
  have e : Bk.rings b x = if x = b.L then [] else wd b.play x := rfl
  rw [show b.t (b.ps.length - 1) = b.play from rfl] at hw
  generalize b.toD = T at *
  generalize b.guideD = G at *
  by_cases hx : x = b.L
  · subst hx
    simp [-rNew_some, -view_ins, hnew, hv, -methV_ap, m1, m2, hlk]
    simp [e]
  · simp [-rNew_some, -view_ins, hnew, hv, -methV_ap, m1, m2, hlk, hw, t1, e, wdD, hx]
theorem turn_ok (b : Bk) (S : b.S) (x : Int) (h0 : 0 ≤ x) : m_turn_of [.dat b.toD, .dat (.int x)] = .ok (.dat (.tup [.int (x / b.L), .int (x % b.L)])) [none, none] := by
  unfold m_turn_of b_turn_of
  rw [fnD_ap _ _ _ _ rfl]
  have hl := lengths_ok b S
  have hla := b.lens_last S
  have hp : 0 < b.L := by have := S.lpos; omega
  have ht : b.L < 10 ^ 100 := by have := S.ltop; omega
  have hx : ¬ x < 0 := by omega
  have hd := opDivmod_i x b.L hp ht
  generalize b.toD = T at *
  simp [hl, hla, hx, -opDivmod_i, hd]
theorem rings_ever_ok (b : Bk) (S : b.S) (x : Int) (h0 : 0 ≤ x) : m_rings_ever [.dat b.toD, .dat (.int x)] = .ok (.dat (.lst ((b.rings (x % b.L)).map D.str))) [none, none] := by
  unfold m_rings_ever b_rings_ever
  rw [fnD_ap _ _ _ _ rfl]
  have hp := S.lpos
  have h1 := Int.emod_nonneg x (show b.L ≠ 0 by omega)
  have h2 := Int.emod_lt_of_pos x (show 0 < b.L by omega)
  have ht := turn_ok b S x h0
  have hr := rings_ok b S (x % b.L) h1 (by omega)
  generalize b.toD = T at *
  simp [ht, hr]
end DL.Law

/-! R1: sums over beats; how often a word is rung -/
namespace DL.Law
open PySem L2 DL
/-- the sum of f at 0 .. n - 1 -/
def sm (f : Int → Int) : Nat → Int
  | 0 => 0
  | n + 1 => sm f n + f n
theorem sm_congr {f g : Int → Int} : ∀ {n : Nat}, (∀ j : Nat, j < n → f j = g j) → sm f n = sm g n
  | 0, _ => rfl
  | n + 1, h => by rw [sm, sm, sm_congr fun j hj => h j (by omega), h n (by omega)]
theorem sm_zero {f : Int → Int} {n : Nat} (h : ∀ j : Nat, j < n → f j = 0) : sm f n = 0 := by
  induction n with
  | zero => rfl
  | succ n ih => rw [sm, ih fun j hj => h j (by omega), h n (by omega)]; rfl
theorem sm_add (f : Int → Int) (a : Nat) : ∀ b : Nat, sm f (a + b) = sm f a + sm (fun j => f (a + j)) b
  | 0 => by simp [sm]
  | b + 1 => by rw [← Nat.add_assoc, sm, sm_add f a b, sm]; simp only [Int.natCast_add]; omega
theorem sm_plus (f g : Int → Int) : ∀ n : Nat, sm (fun j => f j + g j) n = sm f n + sm g n
  | 0 => rfl
  | n + 1 => by rw [sm, sm, sm, sm_plus f g n]; omega
theorem sm_nonneg {f : Int → Int} (h : ∀ j, 0 ≤ f j) : ∀ n : Nat, 0 ≤ sm f n
  | 0 => by simp [sm]
  | n + 1 => by have := sm_nonneg h n; have := h n; rw [sm]; omega
theorem sm_mono {f : Int → Int} (h : ∀ j, 0 ≤ f j) {a b : Nat} (hab : a ≤ b) : sm f a ≤ sm f b := by
  obtain ⟨c, rfl⟩ := Nat.exists_eq_add_of_le hab
  rw [sm_add]
  have := sm_nonneg (f := fun j => f (a + j)) (fun j => h _) c
  omega
/-- so many whole turns and a rest -/
theorem sm_turns (f : Int → Int) (L : Nat) : ∀ (q r : Nat), (∀ (i j : Nat), i < q → j < L → f ((L * i + j : Nat) : Int) = f j) → (∀ j : Nat, j < r → f ((L * q + j : Nat) : Int) = f j) → sm f (L * q + r) = q * sm f L + sm f r
  | 0, r, _, h2 => by simp
  | q + 1, r, h1, h2 => by
    have e : L * (q + 1) + r = L * q + L + r := by rw [Nat.mul_add, Nat.mul_one]
    rw [e, sm_add, sm_turns f L q L (fun i j hi hj => h1 i j (by omega) hj) (fun j hj => h1 q j (by omega) hj)]
    have : sm (fun j => f ((L * q + L : Nat) + j)) r = sm f r := sm_congr fun j hj => by
      have := h2 j hj
      rw [Nat.mul_add, Nat.mul_one] at this
      rw [← this]; simp
    rw [this]
    have : ((q + 1 : Nat) : Int) * sm f L = q * sm f L + sm f L := by rw [Int.natCast_add, Int.add_mul]; simp
    omega
/-- a word at a beat, counted -/
def cw (w : Str) (t : Tr) (x : Int) : Int := ((wd t x).count w : Nat)
theorem cw_nn (w : Str) (t : Tr) (x : Int) : 0 ≤ cw w t x := by unfold cw; omega
mutual
def rc (w : Str) : Tr → Int
  | .raise _ _ _ => 0
  | .hold _ => 0
  | .ring v _ => if v = w then 1 else 0
  | .row ts => rcs w ts
  | .side ts => rcs w ts
  | .again n x => rc w x * n
def rcs (w : Str) : List Tr → Int
  | [] => 0
  | t :: ts => rc w t + rcs w ts
end
mutual
/-- how often it is rung at the first beats, as the program counts -/
def pr (w : Str) : Tr → Int → Int
  | .raise _ _ b, m => if b ≤ m then 0 else 0
  | .hold b, m => 0
  | .ring v b, m => if v = w ∧ 0 < m then 1 else 0
  | .row ts, m => if lens ts ≤ m ∨ m = 0 ∨ rcs w ts = 0 then rcs w ts * (if 0 < m then 1 else 0) else prR w ts m
  | .side ts, m => if maxs ts ≤ m ∨ m = 0 ∨ rcs w ts = 0 then rcs w ts * (if 0 < m then 1 else 0) else prS w ts m
  | .again n x, m => if n * len x ≤ m ∨ m = 0 ∨ rc w x * n = 0 then rc w x * n * (if 0 < m then 1 else 0) else m / len x * rc w x + pr w x (m % len x)
def prR (w : Str) : List Tr → Int → Int
  | [], _ => 0
  | t :: ts, m => pr w t m + prR w ts (max 0 (m - len t))
def prS (w : Str) : List Tr → Int → Int
  | [], _ => 0
  | t :: ts, m => pr w t m + prS w ts m
end
/-! counted by beats -/
def cwR (w : Str) (ts : List Tr) (x : Int) : Int := ((wdR ts x).count w : Nat)
def cwS (w : Str) (ts : List Tr) (x : Int) : Int := ((wdS ts x).count w : Nat)
theorem cwR_cons (w : Str) (t : Tr) (ts : List Tr) (x : Int) (h0 : 0 ≤ x) (hp : ∀ y ∈ t :: ts, 1 ≤ len y) : cwR w (t :: ts) x = if x < len t then cw w t x else cwR w ts (x - len t) := by
  unfold cwR cw
  rw [wdR_cons t ts x h0 hp]
  split <;> rfl
theorem cwS_cons (w : Str) (t : Tr) (ts : List Tr) (x : Int) : cwS w (t :: ts) x = cw w t x + cwS w ts x := by
  unfold cwS cw
  rw [wdS, List.count_append]; omega
theorem cw_over (w : Str) (t : Tr) (x : Int) (h : len t ≤ x) : cw w t x = 0 := by unfold cw; rw [wd_over t x h]; rfl
theorem sm_over {w : Str} {t : Tr} {m : Nat} (h0 : 0 ≤ len t) (h : len t ≤ m) : sm (cw w t) m = sm (cw w t) (len t).toNat := by
  obtain ⟨c, hc⟩ := Nat.exists_eq_add_of_le (show (len t).toNat ≤ m by omega)
  rw [hc, sm_add, sm_zero (f := fun j => cw w t ((len t).toNat + j)) fun j _ => cw_over w t _ (by omega)]; omega
theorem sm_cwR {w : Str} {t : Tr} {ts : List Tr} (hp : ∀ y ∈ t :: ts, 1 ≤ len y) (m : Nat) : sm (cwR w (t :: ts)) m = sm (cw w t) m + sm (cwR w ts) (m - (len t).toNat) := by
  have hl := hp t (by simp)
  by_cases h : m ≤ (len t).toNat
  · rw [show m - (len t).toNat = 0 by omega]
    simp only [sm]
    rw [sm_congr (g := cw w t) fun j hj => by rw [cwR_cons w t ts _ (by omega) hp, if_pos (by omega)]]
    omega
  · obtain ⟨c, hc⟩ := Nat.exists_eq_add_of_le (show (len t).toNat ≤ m by omega)
    rw [hc, sm_add, sm_add]
    rw [sm_congr (g := cw w t) (n := (len t).toNat) fun j hj => by rw [cwR_cons w t ts _ (by omega) hp, if_pos (by omega)]]
    rw [sm_zero (f := fun j => cw w t ((len t).toNat + j)) fun j _ => cw_over w t _ (by omega)]
    rw [show (len t).toNat + c - (len t).toNat = c by omega]
    rw [sm_congr (f := fun j => cwR w (t :: ts) ((len t).toNat + j)) (g := cwR w ts) fun j hj => by
      rw [cwR_cons w t ts _ (by omega) hp, if_neg (by omega)]
      congr 1
      omega]
    omega
theorem sm_cwS {w : Str} {t : Tr} {ts : List Tr} (m : Nat) : sm (cwS w (t :: ts)) m = sm (cw w t) m + sm (cwS w ts) m := by
  rw [← sm_plus]
  exact sm_congr fun j _ => cwS_cons w t ts j
theorem cw_row (w : Str) (ts : List Tr) (x : Int) (h : x < lens ts) : cw w (.row ts) x = cwR w ts x := by unfold cw cwR; rw [wd, if_neg (by omega)]
theorem cw_side (w : Str) (ts : List Tr) (x : Int) (h : x < maxs ts) : cw w (.side ts) x = cwS w ts x := by unfold cw cwS; rw [wd, if_neg (by omega)]
theorem cw_again (w : Str) (n : Int) (t : Tr) (x : Int) (h : x < n * len t) : cw w (.again n t) x = cw w t (x % len t) := by unfold cw; rw [wd, if_neg (by omega)]
theorem max_mem : ∀ (ts : List Tr), ∀ t ∈ ts, len t ≤ maxs ts
  | [], t, h => by simp at h
  | u :: us, t, h => by
    rw [maxs]
    rcases List.mem_cons.mp h with e | h
    · rw [e]; omega
    · have := max_mem us t h; omega
theorem again_turn {w : Str} {n : Int} {t : Tr} (hl : 1 ≤ len t) (hn : 0 ≤ n) (m : Nat) (hm : (m : Int) ≤ n * len t) : sm (cw w (.again n t)) m = (m : Int) / len t * sm (cw w t) (len t).toNat + sm (cw w t) ((m : Int) % len t).toNat := by
  have e1 := sm_congr (f := cw w (.again n t)) (g := fun x => cw w t (x % len t)) (n := m) fun j hj => cw_again w n t j (by omega)
  rw [e1]
  have hL : ((len t).toNat : Int) = len t := by omega
  have hq : m = (len t).toNat * (m / (len t).toNat) + m % (len t).toNat := (Nat.div_add_mod _ _).symm
  have hd : ((m / (len t).toNat : Nat) : Int) = (m : Int) / len t := by rw [Int.natCast_ediv, hL]
  have hr : ((m : Int) % len t).toNat = m % (len t).toNat := by
    have : (m : Int) % len t = ((m % (len t).toNat : Nat) : Int) := by rw [Int.natCast_emod, hL]
    rw [this]; exact Int.toNat_natCast _
  have hmod : ∀ (i j : Nat), j < (len t).toNat → (((len t).toNat * i + j : Nat) : Int) % len t = j := fun i j hj => by
    rw [Int.natCast_add, Int.natCast_mul, hL, Int.add_comm, Int.add_mul_emod_self_left]
    exact Int.emod_eq_of_lt (by omega) (by omega)
  have hlt : m % (len t).toNat < (len t).toNat := Nat.mod_lt _ (by omega)
  have hid : ∀ j : Nat, j < (len t).toNat → ((j : Int)) % len t = j := fun j hj => Int.emod_eq_of_lt (by omega) (by omega)
  conv => lhs; rw [hq]
  rw [sm_turns (fun x => cw w t (x % len t)) (len t).toNat _ _ (fun i j _ hj => by rw [hmod i j hj, hid j hj]) (fun j hj => by rw [hmod _ j (by omega), hid j (by omega)])]
  rw [hd, hr]
  rw [sm_congr (f := fun x => cw w t (x % len t)) (g := cw w t) (n := (len t).toNat) fun j hj => by rw [hid j hj]]
  rw [sm_congr (f := fun x => cw w t (x % len t)) (g := cw w t) (n := m % (len t).toNat) fun j hj => by rw [hid j (by omega)]]
theorem zero_of {f : Int → Int} (h : ∀ j, 0 ≤ f j) : ∀ {n : Nat}, sm f n = 0 → ∀ j : Nat, j < n → f j = 0
  | 0, _, j, hj => by omega
  | n + 1, e, j, hj => by
    rw [sm] at e
    have h1 := sm_nonneg h n
    have h2 := h n
    by_cases z : j = n
    · subst z; omega
    · exact zero_of (n := n) h (by omega) j (by omega)
mutual
theorem rc_sm {nl : Nat} (w : Str) : ∀ t : Tr, TrS nl t → rc w t = sm (cw w t) (len t).toNat
  | .raise _ _ b, _ => by rw [rc, sm_zero fun j _ => by simp [cw, wd]]
  | .hold b, _ => by rw [rc, sm_zero fun j _ => by simp [cw, wd]]
  | .ring v b, h => by
    simp only [TrS] at h
    have hb := h.1
    obtain ⟨c, hc⟩ : ∃ c, (len (.ring v b)).toNat = 1 + c := ⟨b.toNat - 1, by simp only [len]; omega⟩
    rw [hc, sm_add, sm_zero (f := fun j => cw w (.ring v b) ((1 : Nat) + j)) fun j _ => by
      unfold cw wd
      split
      · rfl
      · rw [if_neg (by omega)]; rfl]
    simp only [sm, rc, cw, wd, Int.natCast_zero]
    rw [if_neg (show ¬ b ≤ 0 by omega), if_pos trivial, List.count_cons, List.count_nil]
    by_cases e : v = w
    · simp [e]
    · rw [if_neg e, if_neg (by simpa using e)]; rfl
  | .row ts, h => by
    simp only [TrS] at h
    rw [rc, rcs_smR w ts h.2, len]
    exact sm_congr fun j hj => (cw_row w ts j (by omega)).symm
  | .side ts, h => by
    simp only [TrS] at h
    rw [rc, rcs_smS w ts h.2 (maxs ts).toNat (fun t m => by have := max_mem ts t m; omega), len]
    exact sm_congr fun j hj => (cw_side w ts j (by omega)).symm
  | .again n x, h => by
    simp only [TrS] at h
    have hp := TrS.pos x h.2
    have hm : (0 : Int) ≤ n * len x := Int.mul_nonneg (by omega) (by omega)
    rw [rc, rc_sm w x h.2, len, again_turn hp (by omega) _ (by omega)]
    rw [show (((n * len x).toNat : Nat) : Int) = n * len x by omega, Int.mul_ediv_cancel _ (by omega), Int.mul_emod_left, Int.mul_comm]
    simp [sm]
theorem rcs_smR {nl : Nat} (w : Str) : ∀ ts : List Tr, TrSs nl ts → rcs w ts = sm (cwR w ts) (lens ts).toNat
  | [], _ => by simp [rcs, lens, sm]
  | t :: ts, h => by
    have hp := TrSs.pos (t :: ts) h
    have hp2 : ∀ y ∈ ts, 1 ≤ len y := fun y m => hp y (List.mem_cons_of_mem _ m)
    have h1 := hp t (by simp)
    have h2 := (lens_pos ts hp2).1
    simp only [TrSs] at h
    rw [rcs, rc_sm w t h.1, rcs_smR w ts h.2, lens, sm_cwR hp, sm_over (m := (len t + lens ts).toNat) (t := t) (by omega) (by omega)]
    rw [show (len t + lens ts).toNat - (len t).toNat = (lens ts).toNat by omega]
theorem rcs_smS {nl : Nat} (w : Str) : ∀ ts : List Tr, TrSs nl ts → ∀ m : Nat, (∀ t ∈ ts, len t ≤ m) → rcs w ts = sm (cwS w ts) m
  | [], _, m, _ => by rw [rcs, sm_zero fun j _ => by simp [cwS, wdS]]
  | t :: ts, h, m, hm => by
    have hp := TrSs.pos (t :: ts) h t (by simp)
    simp only [TrSs] at h
    rw [rcs, rc_sm w t h.1, rcs_smS w ts h.2 m fun u mu => hm u (List.mem_cons_of_mem _ mu), sm_cwS, sm_over (t := t) (by omega) (hm t (by simp))]
end
mutual
theorem pr_sm {nl : Nat} (w : Str) : ∀ (t : Tr) (m : Int), TrS nl t → 0 ≤ m → pr w t m = sm (cw w t) m.toNat
  | .raise _ _ b, m, _, _ => by rw [pr, ite_self, sm_zero fun j _ => by simp [cw, wd]]
  | .hold b, m, _, _ => by rw [pr, sm_zero fun j _ => by simp [cw, wd]]
  | .ring v b, m, h, hm => by
    have hrc := rc_sm w (.ring v b) h
    have hpos := TrS.pos (.ring v b) h
    simp only [TrS] at h
    have hb := h.1
    by_cases h0 : m = 0
    · subst h0; simp [pr, sm]
    · simp only [pr]
      simp only [rc] at hrc
      obtain ⟨c, hc⟩ : ∃ c, m.toNat = 1 + c := ⟨m.toNat - 1, by omega⟩
      rw [hc, sm_add, sm_zero (f := fun j => cw w (.ring v b) ((1 : Nat) + j)) fun j _ => by
        unfold cw wd
        split
        · rfl
        · rw [if_neg (by omega)]; rfl]
      simp only [sm, cw, wd, Int.natCast_zero]
      rw [if_neg (show ¬ b ≤ 0 by omega), if_pos trivial, List.count_cons, List.count_nil]
      by_cases e : v = w
      · rw [if_pos ⟨e, by omega⟩]; simp [e]
      · rw [if_neg (fun z => e z.1), if_neg (by simpa using e)]; rfl
  | .row ts, m, h, hm => by
    have hrc := rc_sm w (.row ts) h
    have hpos := TrS.pos (.row ts) h
    simp only [rc] at hrc
    rw [pr]
    split
    · rename_i hc
      by_cases h0 : m = 0
      · subst h0; simp [sm]
      · rw [if_pos (by omega), Int.mul_one]
        rcases hc with hc | hc | hc
        · rw [hrc, sm_over (m := m.toNat) (t := .row ts) (by omega) (by simp only [len]; omega)]
        · exact absurd hc h0
        · have hall : ∀ j : Nat, j < (len (.row ts)).toNat → cw w (.row ts) j = 0 := zero_of (cw_nn w _) (by rw [← hrc]; exact hc)
          rw [hc, sm_zero fun j _ => ?_]
          by_cases hj : j < (len (.row ts)).toNat
          · exact hall j hj
          · exact cw_over _ _ _ (by omega)
    · rename_i hc
      simp only [TrS] at h
      rw [prR_sm w ts m h.2 hm]
      exact sm_congr fun j hj => (cw_row w ts j (by omega)).symm
  | .side ts, m, h, hm => by
    have hrc := rc_sm w (.side ts) h
    have hpos := TrS.pos (.side ts) h
    simp only [rc] at hrc
    rw [pr]
    split
    · rename_i hc
      by_cases h0 : m = 0
      · subst h0; simp [sm]
      · rw [if_pos (by omega), Int.mul_one]
        rcases hc with hc | hc | hc
        · rw [hrc, sm_over (m := m.toNat) (t := .side ts) (by omega) (by simp only [len]; omega)]
        · exact absurd hc h0
        · have hall : ∀ j : Nat, j < (len (.side ts)).toNat → cw w (.side ts) j = 0 := zero_of (cw_nn w _) (by rw [← hrc]; exact hc)
          rw [hc, sm_zero fun j _ => ?_]
          by_cases hj : j < (len (.side ts)).toNat
          · exact hall j hj
          · exact cw_over _ _ _ (by omega)
    · rename_i hc
      simp only [TrS] at h
      rw [prS_sm w ts m h.2 hm]
      exact sm_congr fun j hj => (cw_side w ts j (by omega)).symm
  | .again n x, m, h, hm => by
    have hrc := rc_sm w (.again n x) h
    have hpos := TrS.pos (.again n x) h
    simp only [rc] at hrc
    rw [pr]
    split
    · rename_i hc
      by_cases h0 : m = 0
      · subst h0; simp [sm]
      · rw [if_pos (by omega), Int.mul_one]
        rcases hc with hc | hc | hc
        · rw [hrc, sm_over (m := m.toNat) (t := .again n x) (by omega) (by simp only [len]; omega)]
        · exact absurd hc h0
        · have hall : ∀ j : Nat, j < (len (.again n x)).toNat → cw w (.again n x) j = 0 := zero_of (cw_nn w _) (by rw [← hrc]; exact hc)
          rw [hc, sm_zero fun j _ => ?_]
          by_cases hj : j < (len (.again n x)).toNat
          · exact hall j hj
          · exact cw_over _ _ _ (by omega)
    · rename_i hc
      simp only [TrS] at h
      have hp := TrS.pos x h.2
      rw [rc_sm w x h.2, pr_sm w x _ h.2 (Int.emod_nonneg _ (by omega)), again_turn hp (by omega) m.toNat (by omega)]
      rw [show ((m.toNat : Nat) : Int) = m by omega]
theorem prR_sm {nl : Nat} (w : Str) : ∀ (ts : List Tr) (m : Int), TrSs nl ts → 0 ≤ m → prR w ts m = sm (cwR w ts) m.toNat
  | [], m, _, _ => by rw [prR, sm_zero fun j _ => by simp [cwR, wdR]]
  | t :: ts, m, h, hm => by
    have hp := TrSs.pos (t :: ts) h
    have h1 := hp t (by simp)
    simp only [TrSs] at h
    rw [prR, pr_sm w t m h.1 hm, prR_sm w ts _ h.2 (by omega), sm_cwR hp]
    rw [show (max 0 (m - len t)).toNat = m.toNat - (len t).toNat by omega]
theorem prS_sm {nl : Nat} (w : Str) : ∀ (ts : List Tr) (m : Int), TrSs nl ts → 0 ≤ m → prS w ts m = sm (cwS w ts) m.toNat
  | [], m, _, _ => by rw [prS, sm_zero fun j _ => by simp [cwS, wdS]]
  | t :: ts, m, h, hm => by
    simp only [TrSs] at h
    rw [prS, pr_sm w t m h.1 hm, prS_sm w ts m h.2 hm, sm_cwS]
end
end DL.Law

/-! R2: rings counted, run: made -/
namespace DL.Law
open PySem L2 DL
theorem numFrom_app (k : Nat) (ns ms : List Str) : numFrom k (ns ++ ms) = numFrom k ns ++ numFrom (k + ns.length) ms := by
  unfold numFrom
  rw [List.zipIdx_append, List.map_append, Nat.add_comm]
theorem numFrom_len (k : Nat) (ns : List Str) : (numFrom k ns).length = ns.length := by simp [numFrom]
theorem numFrom_new {ns : List Str} {n : Str} {k : Nat} (h : n ∉ ns) : ∀ p ∈ numFrom k ns, p.1 ≠ .inr n := by
  intro p hp e
  obtain ⟨q, hq, rfl⟩ := List.mem_map.mp hp
  have := Sum.inr.inj e
  obtain ⟨h1, h2, h3⟩ := List.mem_zipIdx hq
  apply h
  rw [← this, h3]
  exact List.getElem_mem _
theorem getK_pre {ns ms : List Str} {k : Nat} (hd : ns.Nodup) (h : k < ns.length) : getK (numFrom 0 ns) (.inr ((ns ++ ms).getD k ⟨#[]⟩)) = some (.int (k : Int)) := by
  have e : (ns ++ ms).getD k ⟨#[]⟩ = ns.getD k ⟨#[]⟩ := by
    rw [List.getD_eq_getElem?_getD, List.getD_eq_getElem?_getD, List.getElem?_append_left h]
  rw [e, getK_num ns 0 k hd h]; simp
theorem inner_step {hn : List Str} (bk : D) (ns ms : List Str) (n : Str) (f : Fm) (told : List D) (x5 x6 : Option D) (hd : (ns ++ n :: ms).Nodup) (hr : ∀ k ∈ f.refs, k < ns.length) (hf : f.refs.length ≤ 1000) (ht : told.length ≤ 1000) (hl : ns.length ≤ 1000) :
    ∃ x5' x6', L_inner_parts_2 [some (.dat bk), some (.own (.lf (.dct (numFrom 0 ns)))), some (.own (.lf (.lst told))), some (.dat (.int (ns.length : Nat))), some (.dat (partD hn (ns ++ n :: ms) (n, f))), oD x5, oD x6, none] =
      .ok .nx [some (.dat bk), some (.own (.lf (.dct (numFrom 0 (ns ++ [n]))))), some (.own (.lf (.lst (told ++ [natsD f.refs])))), some (.dat (.int (ns.length : Nat))), some (.dat (partD hn (ns ++ n :: ms) (n, f))), oD x5', oD x6', none] := by
  have hz : told.length < sizeLine := by have := sizeLine_eq; omega
  have hz2 : (numFrom 0 ns).length < sizeLine := by have := sizeLine_eq; rw [numFrom_len]; omega
  have hdn : ns.Nodup := (List.nodup_append.mp hd).1
  have hnn : n ∉ ns := fun m => (List.nodup_append.mp hd).2.2 n m n (by simp) rfl
  have hs : setK (numFrom 0 ns) (.inr n) (.int (ns.length : Nat)) = numFrom 0 (ns ++ [n]) := by
    rw [setK_new (numFrom_new hnn), numFrom_app, Nat.zero_add]; rfl
  have hsd := isSide hn (ns ++ n :: ms) f
  have e0 : opIx (partD hn (ns ++ n :: ms) (n, f)) (.int 0) = some (.str n) := by simp [partD]
  have e1 : opIx (partD hn (ns ++ n :: ms) (n, f)) (.int 1) = some (f.toD hn (ns ++ n :: ms)) := by simp [partD]
  have hc : ∀ (ks : List Nat) (F : D) (x6 : Option D), (∀ k ∈ ks, k < ns.length) → ks.length ≤ 1000 → opIx F (.int 1) = some (.tup (ks.map (nmD (ns ++ n :: ms)))) →
      eLc [7] (iSeq (eBin opIx (eVar 5) (eC (.int 1)))) (gN 7) bYes C_inner_parts_1 [some (.dat bk), some (.own (.lf (.dct (numFrom 0 ns)))), some (.own (.lf (.lst told))), some (.dat (.int (ns.length : Nat))), some (.dat (partD hn (ns ++ n :: ms) (n, f))), some (.dat F), oD x6, none] =
      .ok (ks.map fun k => .int (k : Nat)) [some (.dat bk), some (.own (.lf (.dct (numFrom 0 ns)))), some (.own (.lf (.lst told))), some (.dat (.int (ns.length : Nat))), some (.dat (partD hn (ns ++ n :: ms) (n, f))), some (.dat F), oD x6, none] := fun ks F x6 hk hkl hF =>
    eLc_n ks (nmD (ns ++ n :: ms)) (fun k => .int (k : Nat)) (by simp [hF]) rfl (fun k m => by
      have := getK_pre (ms := n :: ms) hdn (hk k m)
      simp [C_inner_parts_1, nmD, -List.getD_eq_getElem?_getD, this]) (by omega)
  unfold L_inner_parts_2
  cases f with
  | row ks =>
    have h := hc ks ((Fm.row ks).toD hn (ns ++ n :: ms)) (some (.lst [])) hr hf (by simp [Fm.toD])
    refine ⟨some ((Fm.row ks).toD hn (ns ++ n :: ms)), some (natsD ks), ?_⟩
    generalize (Fm.row ks).toD hn (ns ++ n :: ms) = F at *
    generalize partD hn (ns ++ n :: ms) _ = P at *
    simp only [oD_some] at h
    simp [-eLc_ap, e0, e1, hsd, h, hz, hz2, hs, natsD, Fm.refs]
  | side ks =>
    have h := hc ks ((Fm.side ks).toD hn (ns ++ n :: ms)) (some (.lst [])) hr hf (by simp [Fm.toD])
    refine ⟨some ((Fm.side ks).toD hn (ns ++ n :: ms)), some (natsD ks), ?_⟩
    generalize (Fm.side ks).toD hn (ns ++ n :: ms) = F at *
    generalize partD hn (ns ++ n :: ms) _ = P at *
    simp only [oD_some] at h
    simp [-eLc_ap, e0, e1, hsd, h, hz, hz2, hs, natsD, Fm.refs]
  | again m k =>
    have hk := getK_pre (ms := n :: ms) hdn (hr k (by simp [Fm.refs]))
    have e2 : opIx ((Fm.again m k).toD hn (ns ++ n :: ms)) (.int 2) = some (.str ((ns ++ n :: ms).getD k ⟨#[]⟩)) := by simp [Fm.toD, nmD]
    refine ⟨some ((Fm.again m k).toD hn (ns ++ n :: ms)), some (natsD [k]), ?_⟩
    generalize (Fm.again m k).toD hn (ns ++ n :: ms) = F at *
    generalize partD hn (ns ++ n :: ms) _ = P at *
    simp [-eLc_ap, e0, e1, hsd, hz, hz2, hs, natsD, Fm.refs, e2, -List.getD_eq_getElem?_getD, hk]
  | raise l h b =>
    refine ⟨some ((Fm.raise l h b).toD hn (ns ++ n :: ms)), some (natsD []), ?_⟩
    generalize (Fm.raise l h b).toD hn (ns ++ n :: ms) = F at *
    generalize partD hn (ns ++ n :: ms) _ = P at *
    simp [-eLc_ap, e0, e1, hsd, hz, hz2, hs, natsD, Fm.refs]
  | hold b =>
    refine ⟨some ((Fm.hold b).toD hn (ns ++ n :: ms)), some (natsD []), ?_⟩
    generalize (Fm.hold b).toD hn (ns ++ n :: ms) = F at *
    generalize partD hn (ns ++ n :: ms) _ = P at *
    simp [-eLc_ap, e0, e1, hsd, hz, hz2, hs, natsD, Fm.refs]
  | ring w b =>
    refine ⟨some ((Fm.ring w b).toD hn (ns ++ n :: ms)), some (natsD []), ?_⟩
    generalize (Fm.ring w b).toD hn (ns ++ n :: ms) = F at *
    generalize partD hn (ns ++ n :: ms) _ = P at *
    simp [-eLc_ap, e0, e1, hsd, hz, hz2, hs, natsD, Fm.refs]
theorem inner_loop {hn : List Str} (bk : D) : ∀ (ps : List (Str × Fm)) (ns : List Str) (told : List D) (x3 x4 x5 x6 : Option D), (ns ++ ps.map (·.1)).Nodup → FmsOk hn.length ns.length (ps.map (·.2)) → told.length = ns.length → ns.length + ps.length ≤ 1000 →
    ∃ x3' x4' x5' x6', loopD (gT [gN 3, gN 4]) L_inner_parts_2 (((ps.map (partD hn (ns ++ ps.map (·.1)))).zipIdx ns.length).map fun p => .tup [.int (p.2 : Nat), p.1]) [some (.dat bk), some (.own (.lf (.dct (numFrom 0 ns)))), some (.own (.lf (.lst told))), oD x3, oD x4, oD x5, oD x6, none] =
      .ok .nx [some (.dat bk), some (.own (.lf (.dct (numFrom 0 (ns ++ ps.map (·.1)))))), some (.own (.lf (.lst (told ++ ps.map fun p => natsD p.2.refs)))), oD x3', oD x4', oD x5', oD x6', none]
  | [], ns, told, x3, x4, x5, x6, _, _, _, _ => ⟨x3, x4, x5, x6, by simp⟩
  | p :: ps, ns, told, x3, x4, x5, x6, hd, ok, ht, hl => by
    simp only [List.length_cons] at hl
    simp only [List.map_cons, FmsOk] at hd ok
    obtain ⟨y5, y6, h⟩ := inner_step (hn := hn) bk ns (ps.map (·.1)) p.1 p.2 told x5 x6 hd ok.1.refs (by have := ok.1.fewR; omega) (by omega) (by omega)
    have e : (ns ++ [p.1]) ++ ps.map (·.1) = ns ++ p.1 :: ps.map (·.1) := by simp
    obtain ⟨x3', x4', x5', x6', ih⟩ := inner_loop (hn := hn) bk ps (ns ++ [p.1]) (told ++ [natsD p.2.refs]) (some (.int (ns.length : Nat))) (some (partD hn (ns ++ p.1 :: ps.map (·.1)) (p.1, p.2))) y5 y6 (by rw [e]; exact hd) (by simpa using ok.2) (by simp [ht]) (by simp; omega)
    rw [e] at ih
    refine ⟨x3', x4', x5', x6', ?_⟩
    have ee : (ns ++ [p.1]).length = ns.length + 1 := by simp
    rw [ee] at ih
    rw [List.map_cons, List.map_cons, List.zipIdx_cons, List.map_cons, List.map_cons, show ∀ (a : D) (l m : List D), l ++ a :: m = (l ++ [a]) ++ m by simp, ← ih]
    simp only [loop_cons, gT_tup, gTs_cons, gTs_nil, gN_ap]
    simp [h]
def Bk.namedD (b : Bk) : D := .lst (b.ps.map fun p => natsD p.2.refs)
theorem inner_ok (b : Bk) (S : b.S) : m_inner_parts [.dat b.toD] = .ok (.dat b.namedD) [none] := by
  have hpl := S.pl
  unfold m_inner_parts b_inner_parts
  rw [fnD_ap _ _ _ _ rfl]
  have e3 : b.hn.length = b.nl := by simp [Bk.hn, Bk.nl]
  obtain ⟨x3, x4, x5, x6, h⟩ := inner_loop (hn := b.hn) b.toD b.ps [] [] none none none none (by rw [List.nil_append]; exact S.hdp) (by rw [e3]; exact FmsS.ok _ _ S.fs) rfl (by simp; omega)
  rw [List.nil_append, List.length_nil, ← enumD_from, show b.ps.map (·.1) = b.pn from rfl] at h
  have t1 : opIx b.toD (.int 1) = some (.lst (b.ps.map (partD b.hn b.pn))) := by simp [Bk.toD]
  have e0 : numFrom 0 [] = [] := rfl
  rw [e0] at h
  generalize b.toD = T at *
  simp only [oD_none] at h
  simp [t1, h, Bk.namedD]
end DL.Law

/-! R3: rings counted, run: made, asked -/
namespace DL.Law
open PySem L2 DL
def rcD (w : Str) (t : Tr) : D := .int (rc w t)
def Bk.countsD (b : Bk) (w : Str) : D := .lst (b.ts.map (rcD w))
theorem rcs_sum (w : Str) : ∀ ts : List Tr, rcs w ts = (ts.map (rc w)).sum
  | [] => rfl
  | t :: ts => by rw [rcs, rcs_sum w ts]; rfl
def rgFV (F N L : D) (cs : List D) : List (Str × FV) := [("forms", .dat F), ("named", .dat N), ("long", .dat L), ("counts", .own (.lst cs))]
theorem rings_step (F N L bk : D) (w : Str) (hn pn : List Str) (acc : List Tr) (f : Fm) (x3 x5 : Option D) (hw : PyData.strOk w = true) (hv : ∀ v b, f = .ring v b → PyData.strOk v = true) (hm : ∀ n k, f = .again n k → n.natAbs < 2 ^ 64) (hF : opIx F (.int (acc.length : Nat)) = some (f.toD hn pn)) (hN : opIx N (.int (acc.length : Nat)) = some (natsD f.refs)) (hk : ∀ k ∈ f.refs, k < acc.length) (hf : f.refs.length ≤ 1000) (ha : acc.length ≤ 1000) :
    ∃ x5', L_Rings_init_3 [some (.own (.ins 0 (rgFV F N L (acc.map (rcD w))))), some (.dat bk), some (.dat (.str w)), oD x3, some (.dat (.int (acc.length : Nat))), oD x5, none] =
      .ok .nx [some (.own (.ins 0 (rgFV F N L ((acc ++ [mkT acc f]).map (rcD w))))), some (.dat bk), some (.dat (.str w)), oD x3, some (.dat (.int (acc.length : Nat))), oD x5', none] := by
  have hz : acc.length < sizeLine := by have := sizeLine_eq; omega
  have hc : eLc [6] (iSeq (eSelfIx 0 0 "named" (eVar 4))) (gN 6) bYes C_Rings_init_2 [some (.own (.ins 0 (rgFV F N L (acc.map (rcD w))))), some (.dat bk), some (.dat (.str w)), oD x3, some (.dat (.int (acc.length : Nat))), oD x5, none] =
      .ok (f.refs.map fun k => rcD w (tg acc k)) [some (.own (.ins 0 (rgFV F N L (acc.map (rcD w))))), some (.dat bk), some (.dat (.str w)), oD x3, some (.dat (.int (acc.length : Nat))), oD x5, none] :=
    eLc_n f.refs (fun k => .int (k : Nat)) (fun k => rcD w (tg acc k)) (by simp [rgFV, look_cons, ofS_inj, hN, natsD_items]) rfl (fun k m => by
      simp [C_Rings_init_2, rgFV, look_cons, ofS_inj, atI_nat, List.getElem?_map, tg_get (hk k m)]) (by omega)
  have hi : intsOf (f.refs.map fun k => rcD w (tg acc k)) = some (f.refs.map fun k => rc w (tg acc k)) := intsOf_mapF (fun k => rc w (tg acc k)) f.refs
  have hsd := isSide hn pn f
  have n1 : ∀ t, acc.map (rcD w) ++ [D.int (rc w t)] = (acc ++ [t]).map (rcD w) := fun t => by simp [rcD]
  unfold L_Rings_init_3
  simp only [rgFV] at hc ⊢
  cases f with
  | row ks =>
    refine ⟨some (.int (rc w (mkT acc (.row ks)))), ?_⟩
    generalize (Fm.row ks).toD hn pn = T at *
    simp only [Fm.refs] at hc hi
    have e : rc w (mkT acc (.row ks)) = (ks.map fun k => rc w (tg acc k)).sum := by simp only [mkT, rc, rcs_sum, List.map_map]; rfl
    rw [e, ← n1, e]
    simp [-eLc_ap, hc, hi, hF, hsd, look_cons, ofS_inj, hz]
  | side ks =>
    refine ⟨some (.int (rc w (mkT acc (.side ks)))), ?_⟩
    generalize (Fm.side ks).toD hn pn = T at *
    simp only [Fm.refs] at hc hi
    have e : rc w (mkT acc (.side ks)) = (ks.map fun k => rc w (tg acc k)).sum := by simp only [mkT, rc, rcs_sum, List.map_map]; rfl
    rw [e, ← n1, e]
    simp [-eLc_ap, hc, hi, hF, hsd, look_cons, ofS_inj, hz]
  | again n k =>
    refine ⟨some (.int (rc w (mkT acc (.again n k)))), ?_⟩
    have e2 : opIx ((Fm.again n k).toD hn pn) (.int 1) = some (.int n) := by simp [Fm.toD]
    have hmul : mulOk (rc w (tg acc k)) n = true := by have := hm n k rfl; simp [mulOk, this]
    generalize (Fm.again n k).toD hn pn = T at *
    simp only [Fm.refs, List.map_cons, List.map_nil] at hc hi
    have e : rc w (mkT acc (.again n k)) = rc w (tg acc k) * n := by simp only [mkT, rc]
    rw [e, ← n1, e]
    simp [-eLc_ap, hc, hi, hF, hsd, look_cons, ofS_inj, hz, e2, hmul]
  | ring v c =>
    refine ⟨some (.int (rc w (mkT acc (.ring v c)))), ?_⟩
    have e2 : opIx ((Fm.ring v c).toD hn pn) (.int 1) = some (.str v) := by simp [Fm.toD]
    have he : opEq (.str v) (.str w) = some (.bl (decide (v = w))) := opEq_pl (n := 0) (by simpa [Pl] using hv v c rfl) (by simpa [Pl] using hw) (by omega) (by simp)
    generalize (Fm.ring v c).toD hn pn = T at *
    simp only [Fm.refs, List.map_nil] at hc hi
    have e : rc w (mkT acc (.ring v c)) = if decide (v = w) = true then 1 else 0 := by simp only [mkT, rc, decide_eq_true_eq]
    rw [e, ← n1, e]
    simp [-eLc_ap, hc, hi, hF, hsd, look_cons, ofS_inj, hz, e2, he]
  | hold c =>
    refine ⟨some (.int 0), ?_⟩
    generalize (Fm.hold c).toD hn pn = T at *
    simp only [Fm.refs, List.map_nil] at hc hi
    have e : rc w (mkT acc (.hold c)) = 0 := by simp only [mkT, rc]
    rw [← n1, e]
    simp [-eLc_ap, hc, hi, hF, hsd, look_cons, ofS_inj, hz]
  | raise l h c =>
    refine ⟨some (.int 0), ?_⟩
    generalize (Fm.raise l h c).toD hn pn = T at *
    simp only [Fm.refs, List.map_nil] at hc hi
    have e : rc w (mkT acc (.raise l h c)) = 0 := by simp only [mkT, rc]
    rw [← n1, e]
    simp [-eLc_ap, hc, hi, hF, hsd, look_cons, ofS_inj, hz]
theorem rings_loop (F N L bk : D) (w : Str) (hn pn : List Str) (x3 : Option D) (hw : PyData.strOk w = true) (nl : Nat) (np : Nat) (hnp : np ≤ 1000) : ∀ (fs : List Fm) (acc : List Tr) (x4 x5 : Option D), FmsS nl acc fs → acc.length + fs.length = np →
    (∀ (i : Nat) (f : Fm), fs[i]? = some f → opIx F (.int ((acc.length + i : Nat) : Int)) = some (f.toD hn pn) ∧ opIx N (.int ((acc.length + i : Nat) : Int)) = some (natsD f.refs)) →
    ∃ x4' x5', loopD (gN 4) L_Rings_init_3 ((List.range' acc.length fs.length).map fun i => .int (i : Nat)) [some (.own (.ins 0 (rgFV F N L (acc.map (rcD w))))), some (.dat bk), some (.dat (.str w)), oD x3, oD x4, oD x5, none] =
      .ok .nx [some (.own (.ins 0 (rgFV F N L ((trsA acc fs).map (rcD w))))), some (.dat bk), some (.dat (.str w)), oD x3, oD x4', oD x5', none]
  | [], acc, x4, x5, _, _, _ => ⟨x4, x5, by simp [trsA]⟩
  | f :: fs, acc, x4, x5, s, hl, hat => by
    simp only [List.length_cons] at hl
    have h0 := hat 0 f rfl
    rw [Nat.add_zero] at h0
    obtain ⟨y5, h⟩ := rings_step F N L bk w hn pn acc f x3 x5 hw (fun v b e => (s.1.ring v b e).2) s.1.mul h0.1 h0.2 s.1.ok.refs (by have := s.1.ok.fewR; omega) (by omega)
    obtain ⟨x4', x5', ih⟩ := rings_loop F N L bk w hn pn x3 hw nl np hnp fs (acc ++ [mkT acc f]) (some (.int (acc.length : Nat))) y5 s.2 (by simp; omega) (fun i g hg => by
      have := hat (i + 1) g (by simpa using hg)
      rw [show acc.length + (i + 1) = (acc ++ [mkT acc f]).length + i by simp; omega] at this
      exact this)
    refine ⟨x4', x5', ?_⟩
    rw [List.length_cons, List.range'_succ, List.map_cons, trsA, ← ih]
    have ee : (acc ++ [mkT acc f]).length = acc.length + 1 := by simp
    rw [ee]
    simp only [loop_cons, gN_ap]
    simp [-List.map_append, h]
def Bk.ringsF (b : Bk) (w : Str) : List (Str × D) := [("forms", b.formsD), ("named", b.namedD), ("long", b.lensD), ("counts", b.countsD w)]
def Bk.ringsD (b : Bk) (w : Str) : D := .obj 0 (b.ringsF w)
theorem named_at {b : Bk} {k : Nat} {p : Str × Fm} (h : b.ps[k]? = some p) : opIx b.namedD (.int (k : Nat)) = some (natsD p.2.refs) := by
  simp [Bk.namedD, atI_nat, h]
theorem rings_init (b : Bk) (S : b.S) (w : Str) (hw : PyData.strOk w = true) : m_Rings_init [.own (.ins 0 []), .dat b.toD, .dat (.str w)] = .ok (.dat .non) [some (.own (.ins 0 (rgFV b.formsD b.namedD b.lensD (b.ts.map (rcD w))))), none, none] := by
  have hpl := S.pl
  unfold m_Rings_init b_Rings_init
  rw [fnD_ap _ _ _ _ rfl]
  have h1 := lengths_ok b S
  have h2 := inner_ok b S
  have hf : eLc [3] (iSeq (eBin opIx (eVar 1) (eC (.int 1)))) (gN 3) bYes C_Rings_init_1 [some (.own (.ins 0 [])), some (.dat b.toD), some (.dat (.str w)), none, none, none, none] = .ok (b.ps.map fun p => p.2.toD b.hn b.pn) [some (.own (.ins 0 [])), some (.dat b.toD), some (.dat (.str w)), none, none, none, none] :=
    eLc_n b.ps (partD b.hn b.pn) (fun p => p.2.toD b.hn b.pn) (by simp [Bk.toD]) rfl (fun p _ => by simp [C_Rings_init_1, partD]) (by omega)
  obtain ⟨x4, x5, h3⟩ := rings_loop b.formsD b.namedD b.lensD b.toD w b.hn b.pn none hw b.nl b.ps.length (by omega) b.fs [] none none S.fs (by simp [Bk.fs]) (fun i f h => by
    rw [Bk.fs, List.getElem?_map] at h
    cases hq : b.ps[i]? with
    | none => rw [hq] at h; cases h
    | some p =>
      rw [hq] at h
      cases h
      rw [List.length_nil, Nat.zero_add]
      exact ⟨Bk.forms_at hq, named_at hq⟩)
  have e1 : (List.range' ([] : List Tr).length b.fs.length) = List.range b.ps.length := by rw [List.length_nil, Bk.fs, List.length_map, List.range_eq_range']
  have e2 : trsA [] b.fs = b.ts := rfl
  have f0 : (D.lst (b.ps.map fun p => p.2.toD b.hn b.pn)) = b.formsD := rfl
  have f1 : opLen [b.formsD] = some (.int (b.ps.length : Nat)) := by simp [Bk.formsD]
  rw [e1, e2] at h3
  generalize b.toD = T at *
  simp only [oD_none, List.map_nil, rgFV] at h3
  simp [-eLc_ap, -rRng_1, rRng_n _ (show b.ps.length ≤ 1000 by omega), hf, h1, h2, f0, f1, h3, look_cons, ofS_inj, rgFV]
theorem rings_new (b : Bk) (S : b.S) (w : Str) (hw : PyData.strOk w = true) (e : Slots) : rNew 0 m_Rings_init [.dat b.toD, .dat (.str w)] (some ([.dat b.toD, .dat (.str w)], e)) = .ok (.own (.ins 0 (rgFV b.formsD b.namedD b.lensD (b.ts.map (rcD w))))) e := by
  rw [rNew_some, rings_init b S w hw]
  simp
theorem rings_view (b : Bk) (w : Str) : (MO.ins 0 (rgFV b.formsD b.namedD b.lensD (b.ts.map (rcD w)))).view = b.ringsD w := rfl
end DL.Law

/-! R4: rings counted, asked -/
namespace DL.Law
open PySem L2 DL
theorem sm_le {f : Int → Int} {c : Int} : ∀ {n : Nat}, (∀ j : Nat, j < n → f j ≤ c) → sm f n ≤ n * c
  | 0, _ => by simp [sm]
  | n + 1, h => by
    have := sm_le (n := n) fun j hj => h j (by omega)
    have := h n (by omega)
    rw [sm, Int.natCast_add, Int.add_mul]
    omega
theorem cw_le {nl : Nat} (w : Str) (t : Tr) (x : Int) (h0 : 0 ≤ x) (h : TrS nl t) (hn : nl ≤ 62) : cw w t x ≤ 62 := by
  have h1 := wd_few t x h0 h hn
  have h2 := List.count_le_length (a := w) (l := wd t x)
  unfold cw; omega
theorem rc_le {nl : Nat} (w : Str) (t : Tr) (h : TrS nl t) (hn : nl ≤ 62) : 0 ≤ rc w t ∧ rc w t ≤ len t * 62 := by
  have hp := h.pos
  rw [rc_sm w t h]
  refine ⟨sm_nonneg (cw_nn w t) _, ?_⟩
  have := sm_le (f := cw w t) (c := 62) (n := (len t).toNat) fun j _ => cw_le w t j (by omega) h hn
  rw [show (((len t).toNat : Nat) : Int) = len t by omega] at this
  exact this
theorem mulOk_lt {i j : Int} (hi : i.natAbs < 2 ^ 400) (hj : j.natAbs < 2 ^ 400) : mulOk i j = true := by
  unfold mulOk
  simp only [Bool.or_eq_true, decide_eq_true_eq]
  refine .inr ?_
  have l : ∀ n : Nat, n < 2 ^ 400 → n.log2 < 400 := fun n hn => by
    by_cases z : n = 0
    · subst z; decide +kernel
    · exact (Nat.log2_lt z).mpr hn
  have := l _ hi
  have := l _ hj
  omega
theorem r_forms (b : Bk) (w : Str) : opFld 0 (Str.ofString "forms") (b.ringsD w) = some b.formsD := by simp [Bk.ringsD, Bk.ringsF, look_cons, ofS_inj]
theorem r_named (b : Bk) (w : Str) : opFld 0 (Str.ofString "named") (b.ringsD w) = some b.namedD := by simp [Bk.ringsD, Bk.ringsF, look_cons, ofS_inj]
theorem r_long (b : Bk) (w : Str) : opFld 0 (Str.ofString "long") (b.ringsD w) = some b.lensD := by simp [Bk.ringsD, Bk.ringsF, look_cons, ofS_inj]
theorem r_counts (b : Bk) (w : Str) : opFld 0 (Str.ofString "counts") (b.ringsD w) = some (b.countsD w) := by simp [Bk.ringsD, Bk.ringsF, look_cons, ofS_inj]
theorem counts_at {b : Bk} (w : Str) {k : Nat} (h : k < b.ps.length) : opIx (b.countsD w) (.int (k : Nat)) = some (.int (rc w (b.t k))) := by
  simp [Bk.countsD, atI_nat, tg_get (show k < b.ts.length by rw [Bk.tlen]; exact h)]; rfl
theorem rings_meth (b : Bk) (w : Str) (m : Str) (i : Nat) (Φ : List SV → RE SV) (ars : List AR) (e : Slots) (h : e[i]? = some (some (.dat (b.ringsD w)))) (hm : (b.ringsF w).lookup m = none) : methV 0 m i Φ ars e = callD Φ (.dat (eC (b.ringsD w)) :: ars) e := by
  rw [methV_ap, h, Bk.ringsD, rMeth_d, if_pos ⟨rfl, hm⟩]
theorem rm_part (b : Bk) (w : Str) : (b.ringsF w).lookup (Str.ofString "part_rung") = none := by simp [Bk.ringsF, look_cons, ofS_inj]
theorem rm_ahead (b : Bk) (w : Str) : (b.ringsF w).lookup (Str.ofString "ahead") = none := by simp [Bk.ringsF, look_cons, ofS_inj]
section
variable (b : Bk) (w : Str)
theorem rung_loop (Φ : List SV → RE SV) (kk kk' : D) (s : Bool) (F : D) (hF : opIx b.formsD kk = some F) (hF0 : opIx F (.int 0) = some (.str (if s then "row" else "side"))) (x3 x4 : Option D) :
    ∀ (ks : List Nat) (m told : Int) (x6 : Option D), 0 ≤ m → (∀ k ∈ ks, k < b.ps.length ∧ ∀ y : Int, 0 ≤ y → Φ [.dat (b.ringsD w), .dat (.int (k : Nat)), .dat (.int y)] = .ok (.dat (.int (pr w (b.t k) y))) [none, none, none]) →
    ∃ m' x6', loopD (gN 6) (L_Rings_part_rung_1 Φ) (ks.map fun k => .int (k : Nat)) [some (.dat (b.ringsD w)), some (.dat kk), some (.dat (.int m)), oD x3, oD x4, some (.dat (.int told)), oD x6] =
      .ok .nx [some (.dat (b.ringsD w)), some (.dat kk), some (.dat (.int m')), oD x3, oD x4, some (.dat (.int (told + if s then prR w (ks.map b.t) m else prS w (ks.map b.t) m))), oD x6']
  | [], m, told, x6, _, _ => ⟨m, x6, by cases s <;> simp [prR, prS]⟩
  | k :: ks, m, told, x6, hm0, hk => by
    obtain ⟨hk1, hΦ⟩ := hk k (by simp)
    have hw := hΦ m hm0
    have hle := Bk.lens_at (b := b) hk1
    have g0 := r_forms b w
    have g2 := r_long b w
    have mth : ∀ (ars : List AR) (x1 x2 x3 x4 x5 x6 : Option SV), methV 0 "part_rung" 0 Φ ars [some (.dat (b.ringsD w)), x1, x2, x3, x4, x5, x6] = callD Φ (.dat (eC (b.ringsD w)) :: ars) [some (.dat (b.ringsD w)), x1, x2, x3, x4, x5, x6] := fun ars x1 x2 x3 x4 x5 x6 => rings_meth b w _ _ Φ ars _ rfl (rm_part b w)
    cases s with
    | true =>
      obtain ⟨m', x6', ih⟩ := rung_loop Φ kk kk' true F hF hF0 x3 x4 ks (max 0 (m - len (b.t k))) (told + pr w (b.t k) m) (some (.int (k : Nat))) (by omega) (fun j mm => hk j (List.mem_cons_of_mem _ mm))
      refine ⟨m', x6', ?_⟩
      simp only [if_true] at ih hF0 ⊢
      rw [List.map_cons, List.map_cons, prR, ← Int.add_assoc, ← ih]
      generalize b.ringsD w = G at *
      simp [L_Rings_part_rung_1, -methV_ap, mth, g0, g2, hw, hF, hF0, hle]
    | false =>
      obtain ⟨m', x6', ih⟩ := rung_loop Φ kk kk' false F hF hF0 x3 x4 ks m (told + pr w (b.t k) m) (some (.int (k : Nat))) hm0 (fun j mm => hk j (List.mem_cons_of_mem _ mm))
      refine ⟨m', x6', ?_⟩
      simp only [Bool.false_eq_true, if_false] at ih hF0 ⊢
      rw [List.map_cons, List.map_cons, prS, ← Int.add_assoc, ← ih]
      generalize b.ringsD w = G at *
      simp [L_Rings_part_rung_1, -methV_ap, mth, g0, g2, hw, hF, hF0, hle]
end
theorem rung_ok (b : Bk) (S : b.S) (w : Str) : ∀ (n k : Nat) (m : Int), k < n → k < b.ps.length → 0 ≤ m → m_Rings_part_rung n [.dat (b.ringsD w), .dat (.int (k : Nat)), .dat (.int m)] = .ok (.dat (.int (pr w (b.t k) m))) [none, none, none]
  | 0, k, m, hn, _, _ => by omega
  | n + 1, k, m, hn, hk, hm0 => by
    show fnD _ _ _ _ = _
    rw [fnD_ap _ _ _ _ rfl]
    obtain ⟨⟨nam, f⟩, hp⟩ : ∃ p, b.ps[k]? = some p := ⟨_, List.getElem?_eq_getElem hk⟩
    obtain ⟨acc, hs, hlen, hacc, hmk⟩ := S.form hp
    have hrefs : ∀ j ∈ f.refs, j < k := fun j mm => by have := hs.ok.refs j mm; omega
    have ih : ∀ j ∈ f.refs, j < b.ps.length ∧ ∀ y : Int, 0 ≤ y → m_Rings_part_rung n [.dat (b.ringsD w), .dat (.int (j : Nat)), .dat (.int y)] = .ok (.dat (.int (pr w (b.t j) y))) [none, none, none] := fun j mm => by
      have := hrefs j mm
      exact ⟨by omega, fun y hy => rung_ok b S w n j y (by omega) (by omega) hy⟩
    have g0 := r_forms b w
    have g1 := r_named b w
    have g2 := r_long b w
    have g3 := r_counts b w
    have hf := Bk.forms_at hp
    have hnm := named_at hp
    have hle := Bk.lens_at (b := b) hk
    have hct := counts_at (b := b) w hk
    have hsd := isSide b.hn b.pn f
    have mth : ∀ (ars : List AR) (x1 x2 x3 x4 x5 x6 : Option SV), methV 0 "part_rung" 0 (m_Rings_part_rung n) ars [some (.dat (b.ringsD w)), x1, x2, x3, x4, x5, x6] = callD (m_Rings_part_rung n) (.dat (eC (b.ringsD w)) :: ars) [some (.dat (b.ringsD w)), x1, x2, x3, x4, x5, x6] := fun ars x1 x2 x3 x4 x5 x6 => rings_meth b w _ _ _ ars _ rfl (rm_part b w)
    have htg : ∀ j ∈ f.refs, tg acc j = b.t j := fun j mm => hacc j (hrefs j mm)
    have tmap : ∀ ks : List Nat, (∀ j ∈ ks, tg acc j = b.t j) → ks.map (tg acc) = ks.map b.t := fun ks h => List.map_congr_left h
    have hm1 : ∀ (i : Int) (c : Prop) [Decidable c], mulOk i (if c then 1 else 0) = true := fun i c _ => by split <;> simp [mulOk]
    have hpos := S.pos hk
    have htop := S.top hk
    unfold b_Rings_part_rung
    simp only at hs hmk hf hnm
    rw [← hmk] at hle hct hpos htop ⊢
    cases f with
    | raise l h c =>
      generalize b.ringsD w = G at *
      by_cases hlt : c ≤ m
      · simp [g0, g1, g2, g3, hf, hle, hct, hsd, hlt, mkT, rc, pr, len, hm1]
      · by_cases h0 : m = 0
        · subst h0
          simp [g0, g1, g2, g3, hf, hle, hct, hsd, hlt, mkT, rc, pr, len, mulOk]
        · simp [g0, g1, g2, g3, hf, hle, hct, hsd, hlt, h0, mkT, rc, pr, len, hm1]
    | hold c =>
      generalize b.ringsD w = G at *
      by_cases hlt : c ≤ m
      · simp [g0, g1, g2, g3, hf, hle, hct, hsd, hlt, mkT, rc, pr, len, hm1]
      · by_cases h0 : m = 0
        · subst h0
          simp [g0, g1, g2, g3, hf, hle, hct, hsd, hlt, mkT, rc, pr, len, mulOk]
        · simp [g0, g1, g2, g3, hf, hle, hct, hsd, hlt, h0, mkT, rc, pr, len, hm1]
    | ring v c =>
      generalize b.ringsD w = G at *
      simp only [mkT, len] at hpos
      by_cases hlt : c ≤ m
      · by_cases hv : v = w
        · simp [g0, g1, g2, g3, hf, hle, hct, hsd, hlt, mkT, rc, pr, len, hm1, hv]
        · simp [g0, g1, g2, g3, hf, hle, hct, hsd, hlt, mkT, rc, pr, len, hm1, hv]
      · by_cases h0 : m = 0
        · subst h0
          simp [g0, g1, g2, g3, hf, hle, hct, hsd, hlt, mkT, rc, pr, len, mulOk]
        · have h1 : 0 < m := by omega
          by_cases hv : v = w
          · subst hv
            simp [g0, g1, g2, g3, hf, hle, hct, hsd, hlt, mkT, rc, pr, len, hm1, h0, h1, hnm, natsD, Fm.refs]
          · simp [g0, g1, g2, g3, hf, hle, hct, hsd, hlt, mkT, rc, pr, len, mulOk, hv, h0, h1]
    | again q j =>
      obtain ⟨hj, hw⟩ := ih j (by simp [Fm.refs])
      have hjl := Bk.lens_at (b := b) hj
      have hjc := counts_at (b := b) w hj
      have hjp := S.pos hj
      have hjt := S.top hj
      have hw := hw (m % len (b.t j)) (Int.emod_nonneg _ (by omega))
      have ej := htg j (by simp [Fm.refs])
      have hp0 : 0 < len (b.t j) := by omega
      have hdm := opDivmod_i m (len (b.t j)) hp0 (by omega)
      have hrc := rc_le w (b.t j) (S.t_S hj) S.hl
      simp only [mkT, len, ej] at hpos htop
      have hmul : m < q * len (b.t j) → mulOk (m / len (b.t j)) (rc w (b.t j)) = true := fun hlt => by
        have h1 := Int.ediv_nonneg hm0 (show 0 ≤ len (b.t j) by omega)
        have h2 := Int.ediv_le_self (len (b.t j)) hm0
        have z : (10 ^ 60 * 62 : Nat) < 2 ^ 400 := by decide +kernel
        exact mulOk_lt (by omega) (by omega)
      generalize b.ringsD w = G at *
      by_cases hlt : q * len (b.t j) ≤ m
      · simp [g0, g1, g2, g3, hf, hle, hct, hsd, hlt, mkT, rc, pr, len, hm1, ej]
      · by_cases h0 : m = 0
        · subst h0
          simp [g0, g1, g2, g3, hf, hle, hct, hsd, hlt, mkT, rc, pr, len, ej, mulOk]
        · by_cases hz : rc w (b.t j) * q = 0
          · simp [g0, g1, g2, g3, hf, hle, hct, hsd, hlt, mkT, rc, pr, len, hm1, ej, h0, hz]
          · simp [-methV_ap, -opDivmod_i, mth, g0, g1, g2, g3, hf, hle, hct, hsd, hlt, mkT, rc, pr, len, ej, h0, hz, hnm, natsD, Fm.refs, hjl, hjc, hdm, hmul (by omega), hw]
    | row ks =>
      simp only [Fm.refs] at ih htg hnm
      obtain ⟨m', x6', hlp⟩ := rung_loop b w (m_Rings_part_rung n) (.int (k : Nat)) (.int (k : Nat)) true ((Fm.row ks).toD b.hn b.pn) hf (by rw [hsd]; rfl) none none ks m 0 none hm0 ih
      simp only [if_true, Int.zero_add, oD_none] at hlp
      have et := tmap ks htg
      generalize b.ringsD w = G at *
      by_cases hlt : lens (ks.map b.t) ≤ m
      · simp [g0, g1, g2, g3, hf, hle, hct, hsd, hlt, mkT, rc, pr, len, hm1, et]
      · by_cases h0 : m = 0
        · subst h0
          simp [g0, g1, g2, g3, hf, hle, hct, hsd, hlt, mkT, rc, pr, len, et, mulOk]
        · by_cases hz : rcs w (ks.map b.t) = 0
          · simp [g0, g1, g2, g3, hf, hle, hct, hsd, hlt, mkT, rc, pr, len, hm1, et, h0, hz]
          · simp [g0, g1, g2, g3, hf, hle, hct, hsd, hlt, mkT, rc, pr, len, et, h0, hz, hnm, natsD_items, hlp]
    | side ks =>
      simp only [Fm.refs] at ih htg hnm
      obtain ⟨m', x6', hlp⟩ := rung_loop b w (m_Rings_part_rung n) (.int (k : Nat)) (.int (k : Nat)) false ((Fm.side ks).toD b.hn b.pn) hf (by rw [hsd]; rfl) none none ks m 0 none hm0 ih
      simp only [Bool.false_eq_true, if_false, Int.zero_add, oD_none] at hlp
      have et := tmap ks htg
      generalize b.ringsD w = G at *
      by_cases hlt : maxs (ks.map b.t) ≤ m
      · simp [g0, g1, g2, g3, hf, hle, hct, hsd, hlt, mkT, rc, pr, len, hm1, et]
      · by_cases h0 : m = 0
        · subst h0
          simp [g0, g1, g2, g3, hf, hle, hct, hsd, hlt, mkT, rc, pr, len, et, mulOk]
        · by_cases hz : rcs w (ks.map b.t) = 0
          · simp [g0, g1, g2, g3, hf, hle, hct, hsd, hlt, mkT, rc, pr, len, hm1, et, h0, hz]
          · simp [g0, g1, g2, g3, hf, hle, hct, hsd, hlt, mkT, rc, pr, len, et, h0, hz, hnm, natsD_items, hlp]
end DL.Law

/-! R5: ring_count, ring_beat, the beats of a word -/
namespace DL.Law
open PySem L2 DL
/-- how often w is rung ahead of a beat -/
def Bk.rung (b : Bk) (w : Str) (x : Int) : Int := sm (cw w b.play) x.toNat
theorem ahead_ok (b : Bk) (S : b.S) (w : Str) (x : Int) (h0 : 0 ≤ x) : m_Rings_ahead [.dat (b.ringsD w), .dat (.int x)] = .ok (.dat (.int (b.rung w x))) [none, none] := by
  unfold m_Rings_ahead b_Rings_ahead
  rw [fnD_ap _ _ _ _ rfl]
  have h := List.length_pos_iff.mpr S.ne
  have hpl := S.pl
  have hr := rung_ok b S w 70 (b.ps.length - 1) x (by omega) (by omega) h0
  have hc : ((b.ps.length - 1 : Nat) : Int) = (b.ps.length : Int) - 1 := by omega
  rw [hc, pr_sm (nl := b.nl) w _ x (S.t_S (by omega)) h0] at hr
  have g0 := r_forms b w
  have f1 : opLen [b.formsD] = some (.int (b.ps.length : Nat)) := by simp [Bk.formsD]
  have mth : ∀ (ars : List AR) (x1 : Option SV), methV 0 "part_rung" 0 (m_Rings_part_rung 70) ars [some (.dat (b.ringsD w)), x1] = callD (m_Rings_part_rung 70) (.dat (eC (b.ringsD w)) :: ars) [some (.dat (b.ringsD w)), x1] := fun ars x1 => rings_meth b w _ _ _ ars _ rfl (rm_part b w)
  have e : b.rung w x = sm (cw w (b.t (b.ps.length - 1))) x.toNat := rfl
  generalize b.ringsD w = G at *
  simp [-methV_ap, mth, g0, f1, hr, e]
theorem look_beat_ok (x y : Int) (h0 : 0 ≤ x) (h1 : x ≤ y) : m_look_at_beat [.dat (.int x), .dat (.int y)] = .ok (.dat .non) [none, none] := by
  unfold m_look_at_beat b_look_at_beat
  rw [fnD_ap _ _ _ _ rfl]
  have h2 : ¬ x < 0 := by omega
  have h3 : ¬ y < x := by omega
  simp [h2, h3]
theorem ring_count_ok (b : Bk) (S : b.S) (w : Str) (hw : PyData.strOk w = true) (x : Int) (h0 : 0 ≤ x) (h1 : x ≤ b.L + 1) : m_ring_count [.dat b.toD, .dat (.str w), .dat (.int x)] = .ok (.dat (.int (b.rung w x))) [none, none, none] := by
  unfold m_ring_count b_ring_count
  rw [fnD_ap _ _ _ _ rfl]
  have hl := lengths_ok b S
  have hla := b.lens_last S
  have hlk := look_beat_ok x (b.L + 1) h0 h1
  have hnew := fun e => rings_new b S w hw e
  have hv := rings_view b w
  have ha := ahead_ok b S w x h0
  have hmE : ∀ e, rMethE 0 (Str.ofString "ahead") m_Rings_ahead [.dat (eVar 2)] (b.ringsD w) e = callD m_Rings_ahead (.dat (eC (b.ringsD w)) :: [.dat (eVar 2)]) e := fun e => by
    rw [Bk.ringsD, rMethE_o, if_pos ⟨rfl, rm_ahead b w⟩]
  generalize b.toD = T at *
  generalize b.ringsD w = G at *
  simp [-rNew_some, -view_ins, hl, hla, hlk, hnew, hv, hmE, ha]
/-! ### the first beat behind which there are more -/
theorem rung_mono (b : Bk) (w : Str) {x y : Int} (h : x ≤ y) : b.rung w x ≤ b.rung w y := sm_mono (cw_nn w _) (by omega)
def fbC : EM Bool := bVal (eBin opLt (eVar 2) (eVar 3))
noncomputable def fbB : SM := sSeq (sAsg 4 (sDat (eBin opFdiv (eBin opAdd (eVar 2) (eVar 3)) (eC (.int 2))))) (
    sIf (bVal (eBin opGt (asD (methV 0 "ahead" 0 m_Rings_ahead [.dat (eBin opAdd (eVar 4) (eC (.int 1)))])) (eVar 1))) (sAsg 3 (sDat (eVar 4))) (sAsg 2 (sDat (eBin opAdd (eVar 4) (eC (.int 1))))))
theorem fb_loop (b : Bk) (S : b.S) (w : Str) (num : Int) : ∀ (n e : Nat) (lo hi : Int) (x4 : Option SV), 0 ≤ lo → lo ≤ hi → hi - lo < 2 ^ e → e < n → b.rung w lo ≤ num → num < b.rung w (hi + 1) →
    ∃ (r : Int) (y : Option SV), whileD fbC fbB n [some (.dat (b.ringsD w)), some (.dat (.int num)), some (.dat (.int lo)), some (.dat (.int hi)), x4] = .ok .nx [some (.dat (b.ringsD w)), some (.dat (.int num)), some (.dat (.int r)), some (.dat (.int r)), y] ∧ lo ≤ r ∧ r ≤ hi ∧ b.rung w r ≤ num ∧ num < b.rung w (r + 1)
  | 0, _, _, _, _, _, _, _, he, _, _ => by omega
  | n + 1, e, lo, hi, x4, h0, h1, h2, he, ha, hb => by
    rw [while_ap]
    by_cases hlt : lo < hi
    · obtain ⟨e', rfl⟩ : ∃ e', e = e' + 1 := by
        cases e with
        | zero => simp at h2; omega
        | succ e' => exact ⟨e', rfl⟩
      have e2 : (2 : Int) ^ (e' + 1) = 2 ^ e' * 2 := Int.pow_succ 2 e'
      have hm := ahead_ok b S w ((lo + hi) / 2 + 1) (by omega)
      have mth : ∀ (ars : List AR) (x1 x2 x3 x4 : Option SV), methV 0 "ahead" 0 m_Rings_ahead ars [some (.dat (b.ringsD w)), x1, x2, x3, x4] = callD m_Rings_ahead (.dat (eC (b.ringsD w)) :: ars) [some (.dat (b.ringsD w)), x1, x2, x3, x4] := fun ars x1 x2 x3 x4 => rings_meth b w _ _ _ ars _ rfl (rm_ahead b w)
      by_cases hc : num < b.rung w ((lo + hi) / 2 + 1)
      · obtain ⟨r, y, hw, g1, g2, g3, g4⟩ := fb_loop b S w num n e' lo ((lo + hi) / 2) (some (.dat (.int ((lo + hi) / 2)))) h0 (by omega) (by omega) (by omega) ha hc
        refine ⟨r, y, ?_, g1, by omega, g3, g4⟩
        rw [← hw]
        generalize b.ringsD w = G at *
        simp [fbC, fbB, -methV_ap, mth, hlt, hm, hc]
      · obtain ⟨r, y, hw, g1, g2, g3, g4⟩ := fb_loop b S w num n e' ((lo + hi) / 2 + 1) hi (some (.dat (.int ((lo + hi) / 2)))) (by omega) (by omega) (by omega) (by omega) (by omega) hb
        refine ⟨r, y, ?_, by omega, g2, g3, g4⟩
        rw [← hw]
        generalize b.ringsD w = G at *
        simp [fbC, fbB, -methV_ap, mth, hlt, hm, hc]
    · have : lo = hi := by omega
      subst this
      refine ⟨lo, x4, ?_, by omega, by omega, ha, hb⟩
      generalize b.ringsD w = G at *
      simp [fbC]
theorem first_beyond_ok (b : Bk) (S : b.S) (w : Str) (num : Int) (lo hi : Int) (h0 : 0 ≤ lo) (h1 : lo ≤ hi) (h2 : hi ≤ 10 ^ 60) (ha : b.rung w lo ≤ num) (hb : num < b.rung w (hi + 1)) :
    ∃ r : Int, m_first_beyond [.dat (b.ringsD w), .dat (.int num), .dat (.int lo), .dat (.int hi)] = .ok (.dat (.int r)) [none, none, none, none] ∧ lo ≤ r ∧ r ≤ hi ∧ b.rung w r ≤ num ∧ num < b.rung w (r + 1) := by
  have z : (10 ^ 60 : Int) < 2 ^ 200 := by decide +kernel
  obtain ⟨r, y, hw, g1, g2, g3, g4⟩ := fb_loop b S w num 400 200 lo hi none h0 h1 (by omega) (by omega) ha hb
  refine ⟨r, ?_, g1, g2, g3, g4⟩
  unfold m_first_beyond b_first_beyond
  rw [fnD_ap _ _ _ _ rfl]
  unfold fbC fbB at hw
  generalize b.ringsD w = G at *
  simp [-eBin_ap, hw]
/-- the beat of a ring with a number -/
theorem ring_beat_none (b : Bk) (S : b.S) (w : Str) (hw : PyData.strOk w = true) (num : Int) (h : b.rung w (b.L + 1) ≤ num) : m_ring_beat [.dat b.toD, .dat (.str w), .dat (.int num)] = .ok (.dat .non) [none, none, none] := by
  unfold m_ring_beat b_ring_beat
  rw [fnD_ap _ _ _ _ rfl]
  have hl := lengths_ok b S
  have hla := b.lens_last S
  have hnew := fun e => rings_new b S w hw e
  have hv := rings_view b w
  have hp := S.lpos
  have ha := ahead_ok b S w (b.L + 1) (by omega)
  have mth : ∀ (ars : List AR) (x0 x1 x2 x3 : Option SV), methV 0 "ahead" 4 m_Rings_ahead ars [x0, x1, x2, x3, some (.dat (b.ringsD w))] = callD m_Rings_ahead (.dat (eC (b.ringsD w)) :: ars) [x0, x1, x2, x3, some (.dat (b.ringsD w))] := fun ars x0 x1 x2 x3 => rings_meth b w _ _ _ ars _ rfl (rm_ahead b w)
  generalize b.toD = T at *
  generalize b.ringsD w = G at *
  simp [-rNew_some, -view_ins, -methV_ap, mth, hl, hla, hnew, hv, ha, h]
theorem ring_beat_some (b : Bk) (S : b.S) (w : Str) (hw : PyData.strOk w = true) (num : Int) (hn : 0 ≤ num) (h : num < b.rung w (b.L + 1)) : ∃ r : Int, m_ring_beat [.dat b.toD, .dat (.str w), .dat (.int num)] = .ok (.dat (.int r)) [none, none, none] ∧ 0 ≤ r ∧ r ≤ b.L ∧ b.rung w r ≤ num ∧ num < b.rung w (r + 1) := by
  have hp := S.lpos
  have ht := S.ltop
  obtain ⟨r, hr, g1, g2, g3, g4⟩ := first_beyond_ok b S w num 0 b.L (by omega) (by omega) ht (by show sm _ 0 ≤ num; simpa [sm] using hn) h
  refine ⟨r, ?_, g1, g2, g3, g4⟩
  unfold m_ring_beat b_ring_beat
  rw [fnD_ap _ _ _ _ rfl]
  have hl := lengths_ok b S
  have hla := b.lens_last S
  have hnew := fun e => rings_new b S w hw e
  have hv := rings_view b w
  have ha := ahead_ok b S w (b.L + 1) (by omega)
  have mth : ∀ (ars : List AR) (x0 x1 x2 x3 : Option SV), methV 0 "ahead" 4 m_Rings_ahead ars [x0, x1, x2, x3, some (.dat (b.ringsD w))] = callD m_Rings_ahead (.dat (eC (b.ringsD w)) :: ars) [x0, x1, x2, x3, some (.dat (b.ringsD w))] := fun ars x0 x1 x2 x3 => rings_meth b w _ _ _ ars _ rfl (rm_ahead b w)
  have hng : ¬ b.rung w (b.L + 1) ≤ num := by omega
  generalize b.toD = T at *
  generalize b.ringsD w = G at *
  simp [-rNew_some, -view_ins, -methV_ap, mth, hl, hla, hnew, hv, ha, hng, hr]
end DL.Law

/-! M1: divisors, common multiples -/
namespace DL.Law
structure IsG (g A B : Int) : Prop where
  pos : 0 < g
  dv : ∀ d : Int, d ∣ g ↔ d ∣ A ∧ d ∣ B
theorem IsG.l {g A B : Int} (h : IsG g A B) : g ∣ A := ((h.dv g).mp (Int.dvd_refl g)).1
theorem IsG.r {g A B : Int} (h : IsG g A B) : g ∣ B := ((h.dv g).mp (Int.dvd_refl g)).2
theorem dvd_antisymm_pos {a b : Int} (ha : 0 < a) (hb : 0 < b) (h : a ∣ b) (h' : b ∣ a) : a = b := by
  have h1 := Int.le_of_dvd hb h
  have h2 := Int.le_of_dvd ha h'
  omega
theorem IsG.uniq {g g' A B : Int} (h : IsG g A B) (h' : IsG g' A B) : g = g' :=
  dvd_antisymm_pos h.pos h'.pos ((h'.dv g).mpr ⟨h.l, h.r⟩) ((h.dv g').mpr ⟨h'.l, h'.r⟩)
theorem IsG.symm {g A B : Int} (h : IsG g A B) : IsG g B A := ⟨h.pos, fun d => by rw [h.dv d, and_comm]⟩
theorem dvd_emod {d a b : Int} (h1 : d ∣ b) : d ∣ a % b ↔ d ∣ a := by
  rw [Int.emod_def]
  constructor
  · intro h
    have := Int.dvd_add h (Int.dvd_trans h1 (Int.dvd_mul_right b (a / b)))
    rwa [Int.sub_add_cancel] at this
  · intro h
    exact Int.dvd_sub h (Int.dvd_trans h1 (Int.dvd_mul_right b (a / b)))
theorem emod_dvd {d a b : Int} (h1 : d ∣ b) (h : d ∣ a % b) : d ∣ a := (dvd_emod h1).mp h
/-- the least common multiple by what it divides -/
structure IsL (w A B : Int) : Prop where
  pos : 0 < w
  dv : ∀ x : Int, w ∣ x ↔ A ∣ x ∧ B ∣ x
theorem IsL.uniq {w w' A B : Int} (h : IsL w A B) (h' : IsL w' A B) : w = w' :=
  dvd_antisymm_pos h.pos h'.pos ((h.dv w').mpr ((h'.dv w').mp (Int.dvd_refl _))) ((h'.dv w).mpr ((h.dv w).mp (Int.dvd_refl _)))
theorem mul_dvd_cancel {c a b : Int} (hc : c ≠ 0) (h : c * a ∣ c * b) : a ∣ b := Int.dvd_of_mul_dvd_mul_left hc h
/-- from a sum of multiples -/
theorem lcm_of {g A B t : Int} (hg : IsG g A B) (hA : 0 < A) (hB : 0 < B) (ht : B ∣ g - t * A) : IsL (A * (B / g)) A B := by
  obtain ⟨a, rfl⟩ := hg.l
  obtain ⟨b, hb⟩ := hg.r
  obtain ⟨s, hs⟩ := ht
  have gp := hg.pos
  have gn : g ≠ 0 := by omega
  have hq : B / g = b := by rw [hb]; exact Int.mul_ediv_cancel_left b gn
  have bp : 0 < b := by
    rw [hb] at hB
    rcases Int.lt_or_le 0 b with h | h
    · exact h
    · have := Int.mul_nonpos_of_nonneg_of_nonpos (Int.le_of_lt gp) h
      omega
  rw [hq]
  refine ⟨Int.mul_pos hA bp, fun x => ⟨fun h => ⟨Int.dvd_trans (Int.dvd_mul_right _ _) h, ?_⟩, ?_⟩⟩
  · refine Int.dvd_trans ?_ h
    rw [hb]
    exact ⟨a, by rw [Int.mul_assoc, Int.mul_assoc, Int.mul_comm a b]⟩
  · rintro ⟨⟨u, rfl⟩, h⟩
    have hone : 1 = t * a + b * s := by
      have : g * 1 = g * (t * a + b * s) := by
        have e : g = t * (g * a) + B * s := by omega
        rw [hb] at e
        calc g * 1 = g := Int.mul_one g
          _ = t * (g * a) + g * b * s := e
          _ = g * (t * a + b * s) := by rw [Int.mul_add]; congr 1; rw [Int.mul_left_comm]; rw [Int.mul_assoc]
      exact Int.eq_of_mul_eq_mul_left gn this
    have hb2 : b ∣ a * u := by
      rw [hb, Int.mul_assoc] at h
      exact mul_dvd_cancel gn h
    have hu : b ∣ u := by
      have e : u = t * (a * u) + b * (s * u) := by
        calc u = 1 * u := (Int.one_mul u).symm
          _ = (t * a + b * s) * u := by rw [← hone]
          _ = t * (a * u) + b * (s * u) := by rw [Int.add_mul, Int.mul_assoc, Int.mul_assoc]
      rw [e]
      exact Int.dvd_add (Int.dvd_trans hb2 (Int.dvd_mul_left _ _)) (Int.dvd_mul_right _ _)
    obtain ⟨v, rfl⟩ := hu
    exact ⟨v, by rw [Int.mul_assoc (g * a)]⟩
/-- Euclid: a divisor that is a sum -/
theorem bez : ∀ (n : Nat) (A B : Int), 0 < A → 0 ≤ B → B ≤ n → ∃ g u v : Int, IsG g A B ∧ g = u * A + v * B := by
  intro n
  induction n with
  | zero =>
    intro A B hA hB hn
    have : B = 0 := by omega
    subst this
    exact ⟨A, 1, 0, ⟨hA, fun d => ⟨fun h => ⟨h, Int.dvd_zero d⟩, fun h => h.1⟩⟩, by omega⟩
  | succ n ih =>
    intro A B hA hB hn
    by_cases h : B = 0
    · subst h
      exact ⟨A, 1, 0, ⟨hA, fun d => ⟨fun h => ⟨h, Int.dvd_zero d⟩, fun h => h.1⟩⟩, by omega⟩
    · have hp : 0 < B := by omega
      have h1 := Int.emod_nonneg A h
      have h2 := Int.emod_lt_of_pos A hp
      obtain ⟨g, u, v, hg, e⟩ := ih B (A % B) hp h1 (by omega)
      refine ⟨g, v, u - v * (A / B), ⟨hg.pos, fun d => ?_⟩, ?_⟩
      · rw [hg.dv d]
        constructor
        · rintro ⟨a, b⟩; exact ⟨emod_dvd a b, a⟩
        · rintro ⟨a, b⟩; exact ⟨b, (dvd_emod b).mpr a⟩
      · have := Int.emod_def A B
        rw [e, this, Int.mul_sub, Int.sub_mul, Int.mul_assoc]
        have : v * (B * (A / B)) = v * (A / B * B) := by rw [Int.mul_comm B]
        rw [this]
        omega
theorem bez' {g A B : Int} (hA : 0 < A) (hB : 0 < B) (hg : IsG g A B) : ∃ u v : Int, g = u * A + v * B := by
  obtain ⟨g', u, v, h, e⟩ := bez B.toNat A B hA (by omega) (by omega)
  rw [h.uniq hg] at e
  exact ⟨u, v, e⟩
/-- three moduli: what is asked pair by pair is enough -/
theorem three {A B C L d x y n : Int} (hA : 0 < A) (hB : 0 < B) (hC : 0 < C) (hL : IsL L A B) (hd : IsG d L C) (hx : IsG x A C) (hy : IsG y B C) (nx : x ∣ n) (ny : y ∣ n) : d ∣ n := by
  obtain ⟨g, s, t, hg, e⟩ := bez B.toNat A B hA (by omega) (by omega)
  obtain ⟨a, ha⟩ := hg.l
  obtain ⟨b, hb⟩ := hg.r
  have gn : g ≠ 0 := by have := hg.pos; omega
  obtain ⟨u1, v1, ex⟩ := bez' hA hC hx
  obtain ⟨u2, v2, ey⟩ := bez' hB hC hy
  -- d divides g a b
  have hLab : L ∣ g * a * b := (hL.dv _).mpr ⟨by rw [ha]; exact Int.dvd_mul_right _ _, by rw [hb, Int.mul_assoc, Int.mul_comm a b, ← Int.mul_assoc]; exact Int.dvd_mul_right _ _⟩
  have dab : d ∣ g * a * b := Int.dvd_trans hd.l hLab
  have dC : d ∣ C := hd.r
  have day : d ∣ a * y := by
    rw [ey, Int.mul_add]
    refine Int.dvd_add ?_ ?_
    · have : a * (u2 * B) = u2 * (g * a * b) := by rw [hb, Int.mul_left_comm, Int.mul_left_comm a g b, Int.mul_assoc g a b]
      rw [this]
      exact Int.dvd_trans dab (Int.dvd_mul_left _ _)
    · exact Int.dvd_trans dC (by rw [← Int.mul_assoc]; exact Int.dvd_mul_left _ _)
  have dbx : d ∣ b * x := by
    rw [ex, Int.mul_add]
    refine Int.dvd_add ?_ ?_
    · have : b * (u1 * A) = u1 * (g * a * b) := by rw [ha, Int.mul_left_comm, Int.mul_comm b]
      rw [this]
      exact Int.dvd_trans dab (Int.dvd_mul_left _ _)
    · exact Int.dvd_trans dC (by rw [← Int.mul_assoc]; exact Int.dvd_mul_left _ _)
  obtain ⟨p, rfl⟩ := nx
  obtain ⟨q, hq⟩ := ny
  have hone : 1 = s * a + t * b := by
    have : g * 1 = g * (s * a + t * b) := by
      rw [Int.mul_add, Int.mul_left_comm g s a, Int.mul_left_comm g t b, ← ha, ← hb, Int.mul_one]
      exact e
    exact Int.eq_of_mul_eq_mul_left gn this
  have e3 : x * p = s * (a * y * q) + t * (b * x * p) := by
    calc x * p = 1 * (x * p) := (Int.one_mul _).symm
      _ = s * a * (x * p) + t * b * (x * p) := by rw [hone, Int.add_mul]
      _ = s * (a * y * q) + t * (b * x * p) := by rw [hq, Int.mul_assoc s, Int.mul_assoc a, Int.mul_assoc t, Int.mul_assoc b, hq]
  rw [e3]
  exact Int.dvd_add (Int.dvd_trans (Int.dvd_trans day (Int.dvd_mul_right _ _)) (Int.dvd_mul_left _ _)) (Int.dvd_trans (Int.dvd_trans dbx (Int.dvd_mul_right _ _)) (Int.dvd_mul_left _ _))
end DL.Law

namespace DL.Law
open PySem L2 DL
theorem step_less {one other : Int} (h : other ≤ one) (h0 : 0 < other) : 2 * (other * (one % other)) < one * other := by
  have h1 := Int.emod_nonneg one (by omega : other ≠ 0)
  have h2 := Int.emod_lt_of_pos one h0
  have h3 := Int.emod_add_mul_ediv one other
  have hq : 1 ≤ one / other := (Int.le_ediv_iff_mul_le h0).mpr (by omega)
  have h4 : other ≤ other * (one / other) := by
    have := Int.mul_le_mul_of_nonneg_left hq (by omega : 0 ≤ other)
    omega
  have h5 : 2 * (one % other) < one := by omega
  have := Int.mul_lt_mul_of_pos_left h5 h0
  rw [Int.mul_comm one other]
  calc 2 * (other * (one % other)) = other * (2 * (one % other)) := by rw [Int.mul_left_comm]
    _ < other * one := this
def wsC : EM Bool := bVal (eBin opGt (eVar 1) (eC (.int 0)))
def wsB : SM := sSeq (sAsgT (gT [gN 4, gN 5]) (eCallB opDivmod (aCons (eVar 0) (aCons (eVar 1) (aNil))))) (
    sSeq (sPar 0 1 (aCons (eVar 1) (aCons (eVar 5) (aNil)))) (
    sPar 2 3 (aCons (eVar 3) (aCons (eBin opSub (eVar 2) (eBin opMul (eVar 4) (eVar 3))) (aNil)))))
theorem mulOk_of {i j : Int} (h : i.natAbs < 2 ^ 400000) (h' : j.natAbs < 2 ^ 400000) : mulOk i j = true := by
  unfold mulOk
  simp only [Bool.or_eq_true, decide_eq_true_eq]
  refine .inr ?_
  have l : ∀ n : Nat, n < 2 ^ 400000 → n.log2 < 400000 := fun n hn => by
    by_cases z : n = 0
    · subst z; decide +kernel
    · exact (Nat.log2_lt z).mpr hn
  have := l _ h
  have := l _ h'
  omega
theorem mulOk_e {i j : Int} {a b : Nat} (h : i.natAbs < 2 ^ a) (h' : j.natAbs < 2 ^ b) (hab : a ≤ 400000 ∧ b ≤ 400000) : mulOk i j = true :=
  mulOk_of (Nat.lt_of_lt_of_le h (Nat.pow_le_pow_right (by decide) hab.1)) (Nat.lt_of_lt_of_le h' (Nat.pow_le_pow_right (by decide) hab.2))
theorem ws_loop (A B : Int) : ∀ (n k e : Nat) (one other times later : Int) (x y : Option SV), 0 < one → 0 ≤ other → other ≤ one → one * other < 2 ^ k → k < n → one < 10 ^ 60 → e + 202 * n ≤ 100000 →
    times.natAbs < 2 ^ e → later.natAbs < 2 ^ e → (∀ d : Int, (d ∣ one ∧ d ∣ other) ↔ (d ∣ A ∧ d ∣ B)) → B ∣ one - times * A → B ∣ other - later * A →
    ∃ (g t : Int) (env : Slots), whileD wsC wsB n [some (.dat (.int one)), some (.dat (.int other)), some (.dat (.int times)), some (.dat (.int later)), x, y] = .ok .nx env ∧ env[0]? = some (some (.dat (.int g))) ∧ env[2]? = some (some (.dat (.int t))) ∧ IsG g A B ∧ B ∣ g - t * A ∧ t.natAbs < 2 ^ 100000 ∧
      (∃ o l z w, env = [some (.dat (.int g)), some (.dat (.int o)), some (.dat (.int t)), some (.dat (.int l)), z, w]) := by
  intro n
  induction n with
  | zero => intros; omega
  | succ n ih =>
    intro k e one other times later x y h1 h2 h3 h4 h5 h6 h7 h8 h9 hd d1 d2
    rw [while_ap]
    by_cases hz : other = 0
    · subst hz
      refine ⟨one, times, [some (.dat (.int one)), some (.dat (.int 0)), some (.dat (.int times)), some (.dat (.int later)), x, y], by simp [wsC], rfl, rfl, ⟨h1, fun d => ?_⟩, d1, Nat.lt_of_lt_of_le h8 (Nat.pow_le_pow_right (by decide) (by omega)), ⟨_, _, _, _, rfl⟩⟩
      rw [← hd d]
      exact ⟨fun h => ⟨h, Int.dvd_zero d⟩, fun h => h.1⟩
    · have hp : 0 < other := by omega
      have r1 := Int.emod_nonneg one hz
      have r2 := Int.emod_lt_of_pos one hp
      have hs := step_less h3 hp
      have hq0 : 0 ≤ one / other := Int.ediv_nonneg (by omega) (by omega)
      have hq1 : one / other ≤ one := Int.ediv_le_self _ (by omega)
      have hqb : (one / other).natAbs < 2 ^ 200 := by
        have : one / other < 10 ^ 60 := by omega
        have e1 : (10 ^ 60 : Nat) < 2 ^ 200 := by decide +kernel
        omega
      have hmul : mulOk (one / other) later = true := mulOk_e hqb h9 ⟨by decide, by omega⟩
      have hk : ∃ k', k = k' + 1 := by
        cases k with
        | zero =>
          have : one * other < 1 := by simpa using h4
          have : 1 ≤ one * other := by
            have := Int.mul_pos h1 hp
            omega
          omega
        | succ k' => exact ⟨k', rfl⟩
      obtain ⟨k', rfl⟩ := hk
      have e2 : (2 : Int) ^ (k' + 1) = 2 ^ k' * 2 := Int.pow_succ 2 k'
      have hnew : (times - one / other * later).natAbs < 2 ^ (e + 202) := by
        have m1 : (one / other * later).natAbs = (one / other).natAbs * later.natAbs := Int.natAbs_mul _ _
        have m2 : (one / other).natAbs * later.natAbs ≤ 2 ^ 200 * 2 ^ e := Nat.mul_le_mul (Nat.le_of_lt hqb) (Nat.le_of_lt h9)
        have m3 : (2 : Nat) ^ (e + 202) = 4 * (2 ^ 200 * 2 ^ e) := by
          rw [show e + 202 = 2 + (200 + e) by omega, Nat.pow_add, Nat.pow_add]
        have m4 : (2 : Nat) ^ e ≤ 2 ^ 200 * 2 ^ e := Nat.le_mul_of_pos_left _ (by decide +kernel)
        have m5 : 0 < (2 : Nat) ^ e := Nat.pow_pos (by decide)
        omega
      have hlat : later.natAbs < 2 ^ (e + 202) := Nat.lt_of_lt_of_le h9 (Nat.pow_le_pow_right (by decide) (by omega))
      obtain ⟨g, t, env, hw, hr⟩ := ih k' (e + 202) other (one % other) later (times - one / other * later) (some (.dat (.int (one / other)))) (some (.dat (.int (one % other)))) hp r1 (by omega) (by omega) (by omega) (by omega) (by omega) hlat hnew (fun d => by
        rw [← hd d]
        constructor
        · rintro ⟨a, b⟩; exact ⟨emod_dvd a b, a⟩
        · rintro ⟨a, b⟩; exact ⟨b, (dvd_emod b).mpr a⟩) d2 (by
        have e3 : one % other - (times - one / other * later) * A = (one - times * A) - (other - later * A) * (one / other) := by
          have := Int.emod_add_mul_ediv one other
          rw [Int.sub_mul, Int.sub_mul]
          have e4 : one / other * later * A = later * A * (one / other) := by rw [Int.mul_assoc, Int.mul_comm]
          omega
        rw [e3]
        exact Int.dvd_sub d1 (Int.dvd_trans d2 (Int.dvd_mul_right _ _)))
      refine ⟨g, t, env, ?_, hr⟩
      rw [← hw]
      have hb : other < 10 ^ 100 := by omega
      have hb' : other < 10000000000000000000000000000000000000000000000000000000000000000000000000000000000000000000000000000 := hb
      simp [wsC, wsB, hp, hmul, hb']
theorem prod_lt {A B : Int} (hA : 0 < A) (hB : 0 < B) (hA2 : A < 10 ^ 50) (hB2 : B < 10 ^ 50) : A * B < 2 ^ 350 := by
  have h1 : A * B ≤ 10 ^ 50 * B := Int.mul_le_mul_of_nonneg_right (by omega) (by omega)
  have h2 : (10 ^ 50 : Int) * B ≤ 10 ^ 50 * 10 ^ 50 := Int.mul_le_mul_of_nonneg_left (by omega) (by decide +kernel)
  have h3 : (10 ^ 50 * 10 ^ 50 : Int) < 2 ^ 350 := by decide +kernel
  omega
theorem whole_steps (A B : Int) (hA : 0 < A) (hB : 0 < B) (hA2 : A < 10 ^ 50) (hB2 : B < 10 ^ 50) : ∃ g t : Int, m_whole_steps [.dat (.int A), .dat (.int B)] = .ok (.dat (.tup [.int g, .int t])) [none, none] ∧ IsG g A B ∧ B ∣ g - t * A ∧ t.natAbs < 2 ^ 100000 := by
  have hAB := prod_lt hA hB hA2 hB2
  have key : ∃ (g t : Int) (env : Slots), whileD wsC wsB 400 [some (.dat (.int A)), some (.dat (.int B)), some (.dat (.int 1)), some (.dat (.int 0)), none, none] = .ok .nx env ∧ IsG g A B ∧ B ∣ g - t * A ∧ t.natAbs < 2 ^ 100000 ∧
      (∃ o l z w, env = [some (.dat (.int g)), some (.dat (.int o)), some (.dat (.int t)), some (.dat (.int l)), z, w]) := by
    by_cases hle : B ≤ A
    · obtain ⟨g, t, env, hw, _, _, r⟩ := ws_loop A B 400 350 1 A B 1 0 none none hA (by omega) hle hAB (by omega) (by omega) (by omega) (by decide) (by decide) (fun d => Iff.rfl) ⟨0, by omega⟩ ⟨1, by omega⟩
      exact ⟨g, t, env, hw, r⟩
    · obtain ⟨g, t, env, hw, _, _, r⟩ := ws_loop A B 399 350 1 B A 0 1 (some (.dat (.int 0))) (some (.dat (.int A))) hB (by omega) (by omega) (by rw [Int.mul_comm]; exact hAB) (by omega) (by omega) (by omega) (by decide) (by decide) (fun d => and_comm) ⟨1, by omega⟩ ⟨0, by omega⟩
      refine ⟨g, t, env, ?_, r⟩
      rw [show (400 : Nat) = 399 + 1 from rfl, while_ap, ← hw]
      have e1 : A / B = 0 := Int.ediv_eq_zero_of_lt (by omega) (by omega)
      have e2 : A % B = A := Int.emod_eq_of_lt (by omega) (by omega)
      have hb : B < 10000000000000000000000000000000000000000000000000000000000000000000000000000000000000000000000000000 := by omega
      simp [wsC, wsB, hB, hb, e1, e2, mulOk]
  obtain ⟨g, t, env, hw, h1, h2, h3, o, l, z, w, rfl⟩ := key
  refine ⟨g, t, ?_, h1, h2, h3⟩
  unfold m_whole_steps b_whole_steps
  rw [fnD_ap _ _ _ _ rfl]
  have hw' := hw
  unfold wsC wsB at hw'
  simp [-eBin_ap, hw']
end DL.Law

namespace DL.Law
open PySem L2 DL
/-- what joined answers -/
def rowD : Option (Int × Int) → D
  | none => .non
  | some p => .tup [.int p.1, .int p.2]
/-- f, w: all that is f's by w is beat's by turn and other's by ot -/
structure JoinS (beat turn other ot f w : Int) : Prop where
  lcm : IsL w turn ot
  f0 : 0 ≤ f
  fw : f < w
  a1 : turn ∣ f - beat
  a2 : ot ∣ f - other
theorem join_math {beat turn other ot g t : Int} (hT : 0 < turn) (hO : 0 < ot) (hg : IsG g turn ot) (ht : ot ∣ g - t * turn) (hd : (other - beat) % g = 0) :
    JoinS beat turn other ot ((beat + turn * ((other - beat) / g * t % (ot / g))) % (turn * (ot / g))) (turn * (ot / g)) := by
  have hl := lcm_of hg hT hO ht
  have gp := hg.pos
  have c1 := Int.emod_nonneg (beat + turn * ((other - beat) / g * t % (ot / g))) (by have := hl.pos; omega : turn * (ot / g) ≠ 0)
  have c2 := Int.emod_lt_of_pos (beat + turn * ((other - beat) / g * t % (ot / g))) hl.pos
  have wd := (hl.dv _).mp (Int.dvd_refl _)
  -- up to the whole
  have hm : turn * (ot / g) ∣ (beat + turn * ((other - beat) / g * t % (ot / g))) % (turn * (ot / g)) - (beat + turn * ((other - beat) / g * t % (ot / g))) := by
    have := Int.emod_add_mul_ediv (beat + turn * ((other - beat) / g * t % (ot / g))) (turn * (ot / g))
    exact ⟨-((beat + turn * ((other - beat) / g * t % (ot / g))) / (turn * (ot / g))), by rw [Int.mul_neg]; omega⟩
  refine ⟨hl, c1, c2, ?_, ?_⟩
  · have := Int.dvd_add (Int.dvd_trans wd.1 hm) (Int.dvd_mul_right turn ((other - beat) / g * t % (ot / g)))
    have e : ∀ a b c : Int, a - (b + c) + c = a - b := by intros; omega
    rwa [e] at this
  · have h1 := Int.dvd_trans wd.2 hm
    have hD : other - beat = g * ((other - beat) / g) := by
      have := Int.emod_add_mul_ediv (other - beat) g
      omega
    -- share = D t up to ot / g
    have hs : turn * (ot / g) ∣ turn * ((other - beat) / g * t % (ot / g)) - turn * ((other - beat) / g * t) := by
      rw [← Int.mul_sub]
      refine Int.mul_dvd_mul (Int.dvd_refl _) ?_
      have := Int.emod_add_mul_ediv ((other - beat) / g * t) (ot / g)
      exact ⟨-((other - beat) / g * t / (ot / g)), by rw [Int.mul_neg]; omega⟩
    have h2 := Int.dvd_trans wd.2 hs
    have h3 : ot ∣ turn * ((other - beat) / g * t) - g * ((other - beat) / g) := by
      have e : turn * ((other - beat) / g * t) - g * ((other - beat) / g) = -((g - t * turn) * ((other - beat) / g)) := by
        rw [Int.sub_mul, Int.neg_sub]
        congr 1
        rw [Int.mul_comm ((other - beat) / g) t, ← Int.mul_assoc, Int.mul_comm turn t]
      rw [e]
      exact Int.dvd_neg.mpr (Int.dvd_trans ht (Int.dvd_mul_right _ _))
    have := Int.dvd_add (Int.dvd_add h1 h2) h3
    rw [← hD] at this
    have e : ∀ a b c d : Int, a - (b + c) + (c - d) + (d - (other - b)) = a - other := by intros; omega
    rwa [e] at this
theorem joined (beat turn other ot : Int) (hT : 0 < turn) (hO : 0 < ot) (hT2 : turn < 10 ^ 50) (hO2 : ot < 10 ^ 50) (hb : 0 ≤ beat ∧ beat < 10 ^ 50) (ho : 0 ≤ other ∧ other < 10 ^ 50) :
    ∃ r : Option (Int × Int), m_joined [.dat (.int beat), .dat (.int turn), .dat (.int other), .dat (.int ot)] = .ok (.dat (rowD r)) [none, none, none, none] ∧
      ((r = none ∧ ∃ g, IsG g turn ot ∧ ¬ g ∣ other - beat) ∨ ∃ p, r = some p ∧ JoinS beat turn other ot p.1 p.2) := by
  obtain ⟨g, t, hw, hg, ht, htb⟩ := whole_steps turn ot hT hO hT2 hO2
  have gp := hg.pos
  have gle : g ≤ ot := Int.le_of_dvd hO hg.r
  have g2 : g < 10000000000000000000000000000000000000000000000000000000000000000000000000000000000000000000000000000 := by omega
  unfold m_joined b_joined
  rw [fnD_ap _ _ _ _ rfl]
  by_cases hd : (other - beat) % g = 0
  · have hj := join_math hT hO hg ht hd
    refine ⟨some (_, _), ?_, .inr ⟨_, rfl, hj⟩⟩
    have og : 0 < ot / g := by
      obtain ⟨b, hb⟩ := hg.r
      have gn : g ≠ 0 := by omega
      have hq : ot / g = b := by rw [hb]; exact Int.mul_ediv_cancel_left b gn
      rw [hq]
      rcases Int.lt_or_le 0 b with h | h
      · exact h
      · have := Int.mul_nonpos_of_nonneg_of_nonpos (Int.le_of_lt gp) h
        omega
    have og2 : ot / g ≤ ot := Int.ediv_le_self _ (by omega)
    have hs0 := Int.emod_nonneg ((other - beat) / g * t) (by omega : ot / g ≠ 0)
    have hs1 := Int.emod_lt_of_pos ((other - beat) / g * t) og
    have bnd : ∀ x : Int, 0 ≤ x → x < 10 ^ 50 → x.natAbs < 2 ^ 200 := fun x h0 h1 => by
      have : (10 ^ 50 : Nat) < 2 ^ 200 := by decide +kernel
      omega
    have m1 : mulOk ((other - beat) / g) t = true := by
      refine mulOk_e (a := 200) (b := 100000) ?_ htb ⟨by decide, by decide⟩
      have h1 : ((other - beat) / g).natAbs ≤ (other - beat).natAbs := Int.natAbs_ediv_le_natAbs _ _
      have : (10 ^ 50 : Nat) < 2 ^ 200 := by decide +kernel
      omega
    have m2 : mulOk turn (ot / g) = true := mulOk_e (a := 200) (b := 200) (bnd _ (by omega) hT2) (bnd _ (by omega) (by omega)) ⟨by decide, by decide⟩
    have m3 : mulOk turn ((other - beat) / g * t % (ot / g)) = true := mulOk_e (a := 200) (b := 200) (bnd _ (by omega) hT2) (bnd _ hs0 (by omega)) ⟨by decide, by decide⟩
    have wp : 0 < turn * (ot / g) := Int.mul_pos hT og
    simp [hw, gp, hd, g2, m1, m2, m3, og, wp, rowD]
  · refine ⟨none, ?_, .inl ⟨rfl, g, hg, fun h => hd (Int.emod_eq_zero_of_dvd h)⟩⟩
    simp [hw, gp, hd, rowD]
end DL.Law

namespace DL.Law
open PySem L2 DL
def meetI (p : Int × Int) (beat : Int) : Int := p.1 + max 0 ((beat - p.1 + p.2 - 1) / p.2) * p.2
theorem meetI_ok {p : Int × Int} {beat : Int} (hb : 0 ≤ beat) (hf : 0 ≤ p.1) (hfw : p.1 < p.2) : beat ≤ meetI p beat ∧ meetI p beat < beat + p.2 ∧ p.2 ∣ meetI p beat - p.1 := by
  unfold meetI
  have hw : 0 < p.2 := by omega
  refine ⟨?_, ?_, ?_⟩
  · have e1 := Int.emod_add_mul_ediv (beat - p.1 + p.2 - 1) p.2
    have e2 := Int.emod_lt_of_pos (beat - p.1 + p.2 - 1) hw
    rcases Int.le_total ((beat - p.1 + p.2 - 1) / p.2) 0 with h | h
    · rw [Int.max_eq_left h]
      have := Int.mul_nonpos_of_nonneg_of_nonpos (Int.le_of_lt hw) h
      omega
    · rw [Int.max_eq_right h, Int.mul_comm]
      omega
  · have e1 := Int.emod_add_mul_ediv (beat - p.1 + p.2 - 1) p.2
    have e2 := Int.emod_nonneg (beat - p.1 + p.2 - 1) (by omega : p.2 ≠ 0)
    rcases Int.le_total ((beat - p.1 + p.2 - 1) / p.2) 0 with h | h
    · rw [Int.max_eq_left h]
      omega
    · rw [Int.max_eq_right h, Int.mul_comm]
      omega
  · exact ⟨max 0 ((beat - p.1 + p.2 - 1) / p.2), by rw [Int.mul_comm p.2]; omega⟩
theorem meetI_next {p : Int × Int} {beat : Int} (hb : 0 ≤ beat) (hf : 0 ≤ p.1) (hfw : p.1 < p.2) : meetI p (meetI p beat + 1) = meetI p beat + p.2 := by
  obtain ⟨a, b, c⟩ := meetI_ok hb hf hfw
  obtain ⟨a', b', c'⟩ := meetI_ok (p := p) (beat := meetI p beat + 1) (by omega) hf hfw
  have hd := Int.dvd_sub c' c
  obtain ⟨k, hk⟩ := hd
  have hw : 0 < p.2 := by omega
  have h1 : meetI p (meetI p beat + 1) - meetI p beat = p.2 * k := by omega
  have h2 : 0 < p.2 * k := by omega
  have h3 : p.2 * k < p.2 * 2 := by omega
  have hk2 : k < 2 := Int.lt_of_mul_lt_mul_left h3 (by omega)
  have hk1 : 0 < k := by
    rcases Int.lt_or_le 0 k with h | h
    · exact h
    · have := Int.mul_nonpos_of_nonneg_of_nonpos (Int.le_of_lt hw) h
      omega
  have : k = 1 := by omega
  subst this
  omega
theorem lawW {g A B : Int} (hA : 0 < A) (hB : 0 < B) (hg : IsG g A B) : IsL (A / g * B) A B := by
  obtain ⟨u, v, e⟩ := bez' hA hB hg
  have h := lcm_of hg hA hB (t := u) ⟨v, by rw [Int.mul_comm B v]; omega⟩
  obtain ⟨a, ha⟩ := hg.l
  obtain ⟨b, hb⟩ := hg.r
  have gn : g ≠ 0 := by have := hg.pos; omega
  have e1 : A / g = a := by rw [ha]; exact Int.mul_ediv_cancel_left a gn
  have e2 : B / g = b := by rw [hb]; exact Int.mul_ediv_cancel_left b gn
  rw [e2] at h
  rw [e1]
  have : a * B = A * b := by rw [ha, hb, ← Int.mul_assoc, Int.mul_comm a g]
  rw [this]
  exact h
theorem IsL.le {w A B : Int} (h : IsL w A B) (hA : 0 < A) (hB : 0 < B) : w ≤ A * B :=
  Int.le_of_dvd (Int.mul_pos hA hB) ((h.dv _).mpr ⟨Int.dvd_mul_right _ _, Int.dvd_mul_left _ _⟩)
theorem IsL.one {w B : Int} (h : IsL w 1 B) (hB : 0 < B) : w = B :=
  dvd_antisymm_pos h.pos hB ((h.dv B).mpr ⟨Int.one_dvd _, Int.dvd_refl _⟩) ((h.dv w).mp (Int.dvd_refl _)).2
end DL.Law

namespace DL.Law
open PySem L2 DL
def rD (p : Int × Int) : D := .tup [.int p.1, .int p.2]
/-- m_joined's answer -/
noncomputable def jn (p : Int × Int) (L b : Int) : Option (Int × Int) := Classical.epsilon fun r => m_joined [.dat (.int p.1), .dat (.int p.2), .dat (.int b), .dat (.int L)] = .ok (.dat (rowD r)) [none, none, none, none]
structure JnOk (p : Int × Int) (L b : Int) : Prop where
  run : m_joined [.dat (.int p.1), .dat (.int p.2), .dat (.int b), .dat (.int L)] = .ok (.dat (rowD (jn p L b))) [none, none, none, none]
  spec : (jn p L b = none ∧ ∃ g, IsG g p.2 L ∧ ¬ g ∣ b - p.1) ∨ ∃ q, jn p L b = some q ∧ JoinS p.1 p.2 b L q.1 q.2
theorem rowD_inj {r r' : Option (Int × Int)} (h : rowD r = rowD r') : r = r' := by
  cases r with
  | none => cases r' with
    | none => rfl
    | some p => simp [rowD] at h
  | some q => cases r' with
    | none => simp [rowD] at h
    | some p =>
      simp [rowD] at h
      congr
      exact Prod.ext h.1 h.2
theorem jn_ok {p : Int × Int} {L b : Int} (h0 : 0 ≤ p.1) (h1 : p.1 < p.2) (h2 : p.2 < 10 ^ 50) (h3 : 0 < L) (h4 : L < 10 ^ 50) (h5 : 0 ≤ b) (h6 : b < L) : JnOk p L b := by
  obtain ⟨r, hr, hs⟩ := joined p.1 p.2 b L (by omega) h3 h2 h4 ⟨h0, by omega⟩ ⟨h5, by omega⟩
  have he := Classical.epsilon_spec (p := fun r => m_joined [.dat (.int p.1), .dat (.int p.2), .dat (.int b), .dat (.int L)] = .ok (.dat (rowD r)) [none, none, none, none]) ⟨r, hr⟩
  have e : jn p L b = r := by
    have h := he.symm.trans hr
    simp only [RE.ok.injEq, SV.dat.injEq, and_true] at h
    exact rowD_inj h
  exact ⟨he, by rw [e]; exact hs⟩
noncomputable def jnF : EM D := asD (callD m_joined [.dat (eVar 10), .dat (eVar 11), .dat (eVar 12), .dat (eVar 8)])
theorem lcJ {p : Int × Int} {L : Int} (s0 s1 s2 s3 s4 s5 s6 s7 s9 s13 s14 s15 : Option SV) : ∀ (bs : List Int) (acc : List D) (x12 : Option SV), acc.length + bs.length ≤ 100000 → (∀ b ∈ bs, JnOk p L b) → ∃ x,
    lcLoop [12] (gN 12) bYes jnF (bs.map D.int) acc [s0, s1, s2, s3, s4, s5, s6, s7, some (.dat (.int L)), s9, some (.dat (.int p.1)), some (.dat (.int p.2)), x12, s13, s14, s15]
      = .ok (acc ++ bs.map fun b => rowD (jn p L b)) [s0, s1, s2, s3, s4, s5, s6, s7, some (.dat (.int L)), s9, some (.dat (.int p.1)), some (.dat (.int p.2)), x, s13, s14, s15] := by
  intro bs
  induction bs with
  | nil => intro acc x12 _ _; exact ⟨x12, by simp⟩
  | cons b bs ih =>
    intro acc x12 hl hb
    have hj := (hb b (by simp)).run
    simp only [List.length_cons] at hl
    obtain ⟨x, hx⟩ := ih (acc ++ [rowD (jn p L b)]) (some (.dat (.int b))) (by simp; omega) fun c hc => hb c (by simp [hc])
    refine ⟨x, ?_⟩
    have hz : acc.length < sizeLine := by rw [sizeLine_eq]; omega
    rw [List.map_cons, lcLoop_cons']
    unfold jnF at hx ⊢
    simp [hj, hz, hx]
noncomputable def rowB : SM := sExt 9 (lcF (eLc [12] (iSeq (eVar 7)) (gN 12) (bYes) jnF))
theorem rowsB {L : Int} (s0 s1 s2 s3 s4 s5 s6 s13 s14 s15 : Option SV) (bs : List Int) (hbs : bs.length ≤ 100) : ∀ (R : List (Int × Int)) (acc : List D) (x10 x11 : Option SV), acc.length + R.length * bs.length ≤ 100000 → (∀ p ∈ R, ∀ b ∈ bs, JnOk p L b) → ∃ y z,
    loopD (gT [gN 10, gN 11]) rowB (R.map rD) [s0, s1, s2, s3, s4, s5, s6, some (.dat (.lst (bs.map D.int))), some (.dat (.int L)), some (.own (.lf (.lst acc))), x10, x11, none, s13, s14, s15]
      = .ok .nx [s0, s1, s2, s3, s4, s5, s6, some (.dat (.lst (bs.map D.int))), some (.dat (.int L)), some (.own (.lf (.lst (acc ++ R.flatMap fun p => bs.map fun b => rowD (jn p L b))))), y, z, none, s13, s14, s15] := by
  intro R
  induction R with
  | nil => intro acc x10 x11 _ _; exact ⟨x10, x11, by simp⟩
  | cons p R ih =>
    intro acc x10 x11 hl hb
    simp only [List.length_cons, Nat.add_mul, Nat.one_mul] at hl
    obtain ⟨x, hx⟩ := lcJ (p := p) (L := L) s0 s1 s2 s3 s4 s5 s6 (some (.dat (.lst (bs.map D.int)))) (some (.own (.lf (.lst acc)))) s13 s14 s15 bs [] none (by simp; omega) (hb p (by simp))
    obtain ⟨y, z, h⟩ := ih (acc ++ bs.map fun b => rowD (jn p L b)) (some (.dat (.int p.1))) (some (.dat (.int p.2))) (by simp; omega) fun q hq => hb q (by simp [hq])
    refine ⟨y, z, ?_⟩
    have hz : acc.length + bs.length ≤ sizeLine := by rw [sizeLine_eq]; omega
    rw [List.map_cons, loop_cons]
    unfold rowB at h ⊢
    unfold rD
    simp [hx, hz]
    unfold rD at h
    simp [h]
end DL.Law

namespace DL.Law
open PySem L2 DL
def notN : EM Bool := bVal (eBin opNotN (eVar 13) (eC .non))
theorem lcN (s0 s1 s2 s3 s4 s5 s6 s7 s8 s9 s10 s11 s12 s14 s15 : Option SV) : ∀ (os : List (Option (Int × Int))) (acc : List D) (x13 : Option SV), acc.length + os.length ≤ 200000 → ∃ x,
    lcLoop [13] (gN 13) notN (eVar 13) (os.map rowD) acc [s0, s1, s2, s3, s4, s5, s6, s7, s8, s9, s10, s11, s12, x13, s14, s15]
      = .ok (acc ++ (os.filterMap id).map rD) [s0, s1, s2, s3, s4, s5, s6, s7, s8, s9, s10, s11, s12, x, s14, s15] := by
  intro os
  induction os with
  | nil => intro acc x13 _; exact ⟨x13, by simp⟩
  | cons o os ih =>
    intro acc x13 hl
    simp only [List.length_cons] at hl
    have hz : acc.length < sizeLine := by rw [sizeLine_eq]; omega
    cases o with
    | none =>
      obtain ⟨x, hx⟩ := ih acc (some (.dat .non)) (by omega)
      refine ⟨x, ?_⟩
      rw [List.map_cons, lcLoop_cons']
      unfold notN at hx ⊢
      simp [rowD, hx]
    | some p =>
      obtain ⟨x, hx⟩ := ih (acc ++ [rD p]) (some (.dat (rD p))) (by simp; omega)
      refine ⟨x, ?_⟩
      rw [List.map_cons, lcLoop_cons']
      unfold notN rD at hx ⊢
      simp [rowD, hz, hx]
/-- one book: it, the word asked, its beats, its length -/
structure Item where
  book : D
  word : D
  bs : List Int
  L : Int
structure Item.Ok (t : Item) : Prop where
  len : ∃ ls, m_lengths [.dat t.book] = .ok (.dat (.lst ls)) [none] ∧ atI ls (-1) = some (.int t.L)
  beats : m_beats_of [.dat t.book, .dat t.word] = .ok (.dat (.lst (t.bs.map D.int))) [none, none]
  few : t.bs.length ≤ 12
  pos : 0 < t.L
  bnd : ∀ b ∈ t.bs, 0 ≤ b ∧ b < t.L
noncomputable def stepR (R : List (Int × Int)) (bs : List Int) (L : Int) : List (Int × Int) := (R.flatMap fun p => bs.map fun b => jn p L b).filterMap id
noncomputable def foldR (R : List (Int × Int)) : List Item → List (Int × Int)
  | [] => R
  | t :: ts => foldR (stepR R t.bs t.L) ts
noncomputable def outB : SM := sSeq (sAsg 8 (sDat (eBin opIx (asD (callD m_lengths [.dat (eVar 4)])) (eUn unNeg (eC (.int 1)))))) (
    sSeq (sAsg 9 (sLst (aNil))) (
    sSeq (sFor (iSeq (eVar 6)) (gT [gN 10, gN 11]) rowB) (
    sAsg 6 (lcO (eLc [13] (iSeq (eVar 9)) (gN 13) notN (eVar 13))))))
def keepL (own : Bool) (ds : List D) : SV := if own = true then .own (.lf (.lst ds)) else .dat (.lst ds)
theorem outB1 (own : Bool) (t : Item) (ht : t.Ok) (R : List (Int × Int)) (s0 s1 s2 s3 s5 s14 s15 x8 x9 x10 x11 : Option SV) (hl : R.length ≤ 2000) (hj : ∀ p ∈ R, ∀ b ∈ t.bs, JnOk p t.L b) : ∃ y8 y9 y10 y11,
    outB [s0, s1, s2, s3, some (.dat t.book), s5, some (keepL own (R.map rD)), some (.dat (.lst (t.bs.map D.int))), x8, x9, x10, x11, none, none, s14, s15]
      = .ok .nx [s0, s1, s2, s3, some (.dat t.book), s5, some (keepL true ((stepR R t.bs t.L).map rD)), some (.dat (.lst (t.bs.map D.int))), y8, y9, y10, y11, none, none, s14, s15] := by
  obtain ⟨ls, hls, hat⟩ := ht.len
  have hbs := ht.few
  have hm : R.length * t.bs.length ≤ 2000 * 12 := Nat.mul_le_mul hl hbs
  obtain ⟨y, z, h⟩ := rowsB (L := t.L) s0 s1 s2 s3 (some (.dat t.book)) s5 (some (.dat (.lst (R.map rD)))) none s14 s15 t.bs (by omega) R [] x10 x11 (by simp; omega) hj
  have eA : ([] ++ R.flatMap fun p => t.bs.map fun b => rowD (jn p t.L b)) = (R.flatMap fun p => t.bs.map fun b => jn p t.L b).map rowD := by
    rw [List.nil_append, List.map_flatMap]
    simp [Function.comp_def]
  rw [eA] at h
  have hlen : (R.flatMap fun p => t.bs.map fun b => jn p t.L b).length ≤ 24000 := by
    have : ∀ R : List (Int × Int), (R.flatMap fun p => t.bs.map fun b => jn p t.L b).length = R.length * t.bs.length := fun R => by
      induction R with
      | nil => simp
      | cons p R ih => simp only [List.flatMap_cons, List.length_append, List.length_map, List.length_cons, ih, Nat.add_mul, Nat.one_mul]; omega
    rw [this]; omega
  obtain ⟨x, hx⟩ := lcN s0 s1 s2 s3 (some (.dat t.book)) s5 (some (.dat (.lst (R.map rD)))) (some (.dat (.lst (t.bs.map D.int)))) (some (.dat (.int t.L))) (some (.dat (.lst ((R.flatMap fun p => t.bs.map fun b => jn p t.L b).map rowD)))) y z none s14 s15 (R.flatMap fun p => t.bs.map fun b => jn p t.L b) [] none (by rw [List.length_nil]; omega)
  generalize hA : (R.flatMap fun p => t.bs.map fun b => jn p t.L b) = A at *
  have hst : stepR R t.bs t.L = A.filterMap id := by unfold stepR; rw [hA]
  rw [hst]
  refine ⟨some (.dat (.int t.L)), some (.dat (.lst (A.map rowD))), y, z, ?_⟩
  generalize R.map rD = RR at *
  generalize A.map rowD = AA at *
  generalize t.bs.map D.int = BB at *
  cases own <;> simp [outB, keepL, hls, hat, h, hx]
theorem outL (books : List D) (words : List D) (beat : Int) (s3 s5 s14 s15 : Option SV) : ∀ (ts : List Item) (R : List (Int × Int)) (own : Bool) (x4 x7 x8 x9 x10 x11 : Option SV), (∀ t ∈ ts, t.Ok) →
    (∀ (pre post : List Item) (t : Item), ts = pre ++ t :: post → (foldR R pre).length ≤ 2000 ∧ ∀ p ∈ foldR R pre, ∀ b ∈ t.bs, JnOk p t.L b) → ∃ own' y4 y7 y8 y9 y10 y11,
    loopD (gT [gN 4, gN 7]) outB (ts.map fun t => .tup [t.book, .lst (t.bs.map D.int)]) [some (.dat (.lst books)), some (.dat (.lst words)), some (.dat (.int beat)), s3, x4, s5, some (keepL own (R.map rD)), x7, x8, x9, x10, x11, none, none, s14, s15]
      = .ok .nx [some (.dat (.lst books)), some (.dat (.lst words)), some (.dat (.int beat)), s3, y4, s5, some (keepL own' ((foldR R ts).map rD)), y7, y8, y9, y10, y11, none, none, s14, s15] := by
  intro ts
  induction ts with
  | nil => intro R own x4 x7 x8 x9 x10 x11 _ _; exact ⟨own, x4, x7, x8, x9, x10, x11, by simp [foldR]⟩
  | cons t ts ih =>
    intro R own x4 x7 x8 x9 x10 x11 ho hp
    obtain ⟨p1, p2⟩ := hp [] ts t rfl
    obtain ⟨y8, y9, y10, y11, h⟩ := outB1 own t (ho t (by simp)) R (some (.dat (.lst books))) (some (.dat (.lst words))) (some (.dat (.int beat))) s3 s5 s14 s15 x8 x9 x10 x11 p1 p2
    obtain ⟨own', z4, z7, z8, z9, z10, z11, h'⟩ := ih (stepR R t.bs t.L) true (some (.dat t.book)) (some (.dat (.lst (t.bs.map D.int)))) y8 y9 y10 y11 (fun u hu => ho u (by simp [hu])) (fun pre post u e => hp (t :: pre) post u (by rw [e]; rfl))
    refine ⟨own', z4, z7, z8, z9, z10, z11, ?_⟩
    rw [List.map_cons, loop_cons]
    simp [h, h', foldR]
end DL.Law

namespace DL.Law
open PySem L2 DL
/-- the first comprehension -/
theorem lcB (s0 s1 s2 s3 s6 s7 s8 s9 s10 s11 s12 s13 s14 s15 : Option SV) : ∀ (ts : List Item) (acc : List D) (x4 x5 : Option SV), (∀ t ∈ ts, t.Ok) → acc.length + ts.length ≤ 1000 → ∃ x y,
    lcLoop [4, 5] (gT [gN 4, gN 5]) bYes (asD (callD m_beats_of [.dat (eVar 4), .dat (eVar 5)])) (ts.map fun t => .tup [t.book, t.word]) acc [s0, s1, s2, s3, x4, x5, s6, s7, s8, s9, s10, s11, s12, s13, s14, s15]
      = .ok (acc ++ ts.map fun t => .lst (t.bs.map D.int)) [s0, s1, s2, s3, x, y, s6, s7, s8, s9, s10, s11, s12, s13, s14, s15] := by
  intro ts
  induction ts with
  | nil => intro acc x4 x5 _ _; exact ⟨x4, x5, by simp⟩
  | cons t ts ih =>
    intro acc x4 x5 ho hl
    simp only [List.length_cons] at hl
    have hb := (ho t (by simp)).beats
    obtain ⟨x, y, h⟩ := ih (acc ++ [.lst (t.bs.map D.int)]) (some (.dat t.book)) (some (.dat t.word)) (fun u hu => ho u (by simp [hu])) (by simp; omega)
    refine ⟨x, y, ?_⟩
    have hz : acc.length < sizeLine := by rw [sizeLine_eq]; omega
    rw [List.map_cons, lcLoop_cons']
    simp [hb, hz, h]
/-- the least of what is found -/
def meetI' (p : Int × Int) (beat : Int) : Int := p.1 + max 0 ((beat - p.1 + p.2 - 1) / p.2) * p.2
def oDI : Option Int → D
  | none => .non
  | some h => .int h
def better (o : Option Int) (h : Int) : Option Int := match o with
  | none => some h
  | some g => if h < g then some h else some g
noncomputable def fndB : SM := sSeq (sAsg 15 (sDat (eBin opAdd (eVar 10) (eBin opMul (eCallB opMax (aCons (eC (.int 0)) (aCons (eBin opFdiv (eBin opSub (eBin opAdd (eBin opSub (eVar 2) (eVar 10)) (eVar 11)) (eC (.int 1))) (eVar 11)) (aNil)))) (eVar 11))))) (
    sIf (bOr (bVal (eBin opIsN (eVar 14) (eC .non))) (bVal (eBin opLt (eVar 15) (eVar 14)))) (sAsg 14 (sDat (eVar 15))) (sNx))
structure RowOk (beat : Int) (p : Int × Int) : Prop where
  w0 : 0 < p.2
  wb : p.2 < 10 ^ 100
  ml : mulOk (max 0 ((beat - p.1 + p.2 - 1) / p.2)) p.2 = true
theorem fndL (beat : Int) (s0 s1 s3 s4 s5 s6 s7 s8 s9 s12 s13 : Option SV) : ∀ (R : List (Int × Int)) (o : Option Int) (x10 x11 x15 : Option SV), (∀ p ∈ R, RowOk beat p) → ∃ y10 y11 y15,
    loopD (gT [gN 10, gN 11]) fndB (R.map rD) [s0, s1, some (.dat (.int beat)), s3, s4, s5, s6, s7, s8, s9, x10, x11, s12, s13, some (.dat (oDI o)), x15]
      = .ok .nx [s0, s1, some (.dat (.int beat)), s3, s4, s5, s6, s7, s8, s9, y10, y11, s12, s13, some (.dat (oDI (R.foldl (fun o p => better o (meetI' p beat)) o))), y15] := by
  intro R
  induction R with
  | nil => intro o x10 x11 x15 _; exact ⟨x10, x11, x15, by simp⟩
  | cons p R ih =>
    intro o x10 x11 x15 hr
    have hp := hr p (by simp)
    have w0 := hp.w0
    have wb := hp.wb
    have wb' : p.2 < 10000000000000000000000000000000000000000000000000000000000000000000000000000000000000000000000000000 := wb
    have ml := hp.ml
    obtain ⟨y10, y11, y15, h⟩ := ih (better o (meetI' p beat)) (some (.dat (.int p.1))) (some (.dat (.int p.2))) (some (.dat (.int (meetI' p beat)))) fun q hq => hr q (by simp [hq])
    refine ⟨y10, y11, y15, ?_⟩
    rw [List.map_cons, loop_cons, List.foldl_cons]
    unfold rD at h ⊢
    cases o with
    | none =>
      simp only [better, oDI] at h
      simp only [better]
      unfold fndB at h ⊢
      simp [oDI, w0, wb', ml]
      exact h
    | some g =>
      by_cases hlt : meetI' p beat < g
      · simp only [better, if_pos hlt, oDI] at h
        simp only [better, if_pos hlt]
        have hlt' := hlt
        unfold meetI' at hlt'
        unfold fndB at h ⊢
        simp [oDI, w0, wb', ml, hlt']
        exact h
      · simp only [better, if_neg hlt, oDI] at h
        simp only [better, if_neg hlt]
        have hlt' := hlt
        unfold meetI' at hlt'
        unfold fndB at h ⊢
        simp [oDI, w0, wb', ml, hlt']
        exact h
theorem meet_run (ts : List Item) (beat : Int) (ho : ∀ t ∈ ts, t.Ok) (hl : ts.length ≤ 100) (hp : ∀ (pre post : List Item) (t : Item), ts = pre ++ t :: post → (foldR [(0, 1)] pre).length ≤ 2000 ∧ ∀ p ∈ foldR [(0, 1)] pre, ∀ b ∈ t.bs, JnOk p t.L b) (hr : ∀ p ∈ foldR [(0, 1)] ts, RowOk beat p) :
    m_meeting [.dat (.lst (ts.map (·.book))), .dat (.lst (ts.map (·.word))), .dat (.int beat)] = .ok (.dat (oDI ((foldR [(0, 1)] ts).foldl (fun o p => better o (meetI' p beat)) none))) [none, none, none] := by
  unfold m_meeting b_meeting
  rw [fnD_ap _ _ _ _ rfl]
  obtain ⟨x, y, h1⟩ := lcB (some (.dat (.lst (ts.map (·.book))))) (some (.dat (.lst (ts.map (·.word))))) (some (.dat (.int beat))) none none none none none none none none none none none ts [] none none ho (by simp; omega)
  have z1 : zipD (ts.map (·.book)) (ts.map (·.word)) = ts.map fun t => .tup [t.book, t.word] := by
    unfold zipD
    rw [List.zip_map', List.map_map]
    rfl
  have z2 : zipD (ts.map (·.book)) (ts.map fun t => .lst (t.bs.map D.int)) = ts.map fun t => .tup [t.book, .lst (t.bs.map D.int)] := by
    unfold zipD
    rw [List.zip_map', List.map_map]
    rfl
  obtain ⟨own', y4, y7, y8, y9, y10, y11, h2⟩ := outL (ts.map (·.book)) (ts.map (·.word)) beat (some (.dat (.lst (ts.map fun t => .lst (t.bs.map D.int))))) none none none ts [(0, 1)] false none none none none none none ho hp
  obtain ⟨u10, u11, u15, h3⟩ := fndL beat (some (.dat (.lst (ts.map (·.book))))) (some (.dat (.lst (ts.map (·.word))))) (some (.dat (.lst (ts.map fun t => .lst (t.bs.map D.int))))) y4 none (some (.dat (.lst ((foldR [(0, 1)] ts).map rD)))) y7 y8 y9 none none (foldR [(0, 1)] ts) none y10 y11 none hr
  generalize (foldR [(0, 1)] ts).foldl (fun o p => better o (meetI' p beat)) none = res at *
  generalize hF : (foldR [(0, 1)] ts).map rD = FR at *
  generalize ts.map (fun t => D.lst (t.bs.map D.int)) = RG at *
  generalize ts.map (fun t => D.tup [t.book, t.word]) = Z1 at *
  generalize ts.map (fun t => D.tup [t.book, D.lst (t.bs.map D.int)]) = Z2 at *
  generalize ts.map (·.book) = BK at *
  generalize ts.map (·.word) = WD at *
  unfold outB rowB jnF notN at h2
  unfold fndB at h3
  simp [keepL, rD] at h2
  rw [show oDI none = D.non from rfl] at h3
  cases own' <;> simp at h2 <;> simp [z1, z2, h1, h2, h3]
end DL.Law

namespace DL.Law
open PySem L2 DL
/-- each book has one of its beats at x -/
def Sol (ts : List Item) (x : Int) : Prop := ∀ t ∈ ts, ∃ b ∈ t.bs, t.L ∣ x - b
structure RInv (R : List (Int × Int)) (w : Int) (ts : List Item) : Prop where
  pos : 0 < w
  at_ : ∀ p ∈ R, p.2 = w ∧ 0 ≤ p.1 ∧ p.1 < w
  sol : ∀ x : Int, (∃ p ∈ R, w ∣ x - p.1) ↔ Sol ts x
theorem rinv0 : RInv [(0, 1)] 1 [] := ⟨by omega, fun p hp => by
  have : p = (0, 1) := by simpa using hp
  subst this; exact ⟨rfl, by omega, by omega⟩, fun x => ⟨fun _ t ht => by simp at ht, fun _ => ⟨(0, 1), by simp, Int.one_dvd _⟩⟩⟩
theorem jn_all {R : List (Int × Int)} {w : Int} {pre : List Item} (h : RInv R w pre) (hw : w < 10 ^ 50) {t : Item} (ht : t.Ok) (hL : t.L < 10 ^ 50) : ∀ p ∈ R, ∀ b ∈ t.bs, JnOk p t.L b := fun p hp b hb => by
  obtain ⟨e, f0, f1⟩ := h.at_ p hp
  obtain ⟨b0, b1⟩ := ht.bnd b hb
  exact jn_ok f0 (by omega) (by omega) ht.pos hL b0 b1
theorem rinv_step {R : List (Int × Int)} {w : Int} {pre : List Item} (h : RInv R w pre) (hw : w < 10 ^ 50) {t : Item} (ht : t.Ok) (hL : t.L < 10 ^ 50) : ∃ w', w' ≤ w * t.L ∧ RInv (stepR R t.bs t.L) w' (pre ++ [t]) := by
  have hj := jn_all h hw ht hL
  obtain ⟨g, u, v, hg, _⟩ := bez t.L.toNat w t.L h.pos (by have := ht.pos; omega) (by have := ht.pos; omega)
  have L := lawW h.pos ht.pos hg
  generalize w / g * t.L = w' at L
  refine ⟨w', L.le h.pos ht.pos, L.pos, ?_, ?_⟩
  · intro q hq
    unfold stepR at hq
    simp only [List.mem_filterMap, List.mem_flatMap, List.mem_map, id_eq] at hq
    obtain ⟨_, ⟨p, hp, b, hb, rfl⟩, e⟩ := hq
    rcases (hj p hp b hb).spec with ⟨e2, _⟩ | ⟨q', e2, J⟩
    · rw [e2] at e; cases e
    · rw [e2] at e
      cases e
      have lc := J.lcm
      rw [(h.at_ p hp).1] at lc
      have ew := lc.uniq L
      exact ⟨ew, J.f0, by rw [← ew]; exact J.fw⟩
  · intro x
    have wd := (L.dv _).mp (Int.dvd_refl _)
    constructor
    · rintro ⟨q, hq, hx⟩
      unfold stepR at hq
      simp only [List.mem_filterMap, List.mem_flatMap, List.mem_map, id_eq] at hq
      obtain ⟨_, ⟨p, hp, b, hb, rfl⟩, e⟩ := hq
      rcases (hj p hp b hb).spec with ⟨e2, _⟩ | ⟨q', e2, J⟩
      · rw [e2] at e; cases e
      · rw [e2] at e
        cases e
        have a1 := J.a1
        rw [(h.at_ p hp).1] at a1
        have x1 := Int.dvd_add (Int.dvd_trans wd.1 hx) a1
        have x2 := Int.dvd_add (Int.dvd_trans wd.2 hx) J.a2
        rw [show x - q.1 + (q.1 - p.1) = x - p.1 by omega] at x1
        rw [show x - q.1 + (q.1 - b) = x - b by omega] at x2
        intro s hs
        rcases List.mem_append.mp hs with hs | hs
        · exact (h.sol x).mp ⟨p, hp, x1⟩ s hs
        · have : s = t := by simpa using hs
          subst this
          exact ⟨b, hb, x2⟩
    · intro hs
      obtain ⟨p, hp, x1⟩ := (h.sol x).mpr fun s m => hs s (List.mem_append_left _ m)
      obtain ⟨b, hb, x2⟩ := hs t (by simp)
      have e1 := (h.at_ p hp).1
      rcases (hj p hp b hb).spec with ⟨_, g', hg', hn⟩ | ⟨q, e2, J⟩
      · refine absurd ?_ hn
        rw [e1] at hg'
        have := Int.dvd_sub (Int.dvd_trans hg'.l x1) (Int.dvd_trans hg'.r x2)
        rwa [show x - p.1 - (x - b) = b - p.1 by omega] at this
      · refine ⟨q, ?_, ?_⟩
        · unfold stepR
          simp only [List.mem_filterMap, List.mem_flatMap, List.mem_map, id_eq]
          exact ⟨_, ⟨p, hp, b, hb, rfl⟩, e2⟩
        · have a1 := J.a1
          rw [e1] at a1
          refine (L.dv _).mpr ⟨?_, ?_⟩
          · have := Int.dvd_sub x1 a1
            rwa [show x - p.1 - (q.1 - p.1) = x - q.1 by omega] at this
          · have := Int.dvd_sub x2 J.a2
            rwa [show x - b - (q.1 - b) = x - q.1 by omega] at this
def prodL : List Item → Int
  | [] => 1
  | t :: ts => t.L * prodL ts
theorem stepR_len (R : List (Int × Int)) (bs : List Int) (L : Int) (h : bs.length ≤ 12) : (stepR R bs L).length ≤ R.length * 12 := by
  unfold stepR
  refine Nat.le_trans (List.length_filterMap_le _ _) ?_
  have : ∀ R : List (Int × Int), (R.flatMap fun p => bs.map fun b => jn p L b).length = R.length * bs.length := fun R => by
    induction R with
    | nil => simp
    | cons p R ih => simp only [List.flatMap_cons, List.length_append, List.length_map, List.length_cons, ih, Nat.add_mul, Nat.one_mul]; omega
  rw [this]
  exact Nat.mul_le_mul_left _ h
/-- all of the books: the rows at each -/
theorem rinv_all : ∀ (ts pre : List Item) (R : List (Int × Int)) (w : Int), RInv R w pre → (∀ t ∈ ts, t.Ok ∧ t.L < 10 ^ 50) → (∀ a b t, ts = a ++ t :: b → w * prodL a < 10 ^ 50) →
    (∃ w', w' ≤ w * prodL ts ∧ RInv (foldR R ts) w' (pre ++ ts)) ∧ ∀ a b t, ts = a ++ t :: b → (foldR R a).length ≤ R.length * 12 ^ a.length ∧ ∀ p ∈ foldR R a, ∀ c ∈ t.bs, JnOk p t.L c := by
  intro ts
  induction ts with
  | nil =>
    intro pre R w h _ _
    refine ⟨⟨w, by simp [prodL], by simpa [foldR] using h⟩, fun a b t e => by simp at e⟩
  | cons t ts ih =>
    intro pre R w h ho hb
    obtain ⟨h1, h2⟩ := ho t (by simp)
    have hw : w < 10 ^ 50 := by
      have := hb [] ts t rfl
      simpa [prodL] using this
    obtain ⟨w', hle, h'⟩ := rinv_step h hw h1 h2
    have pp : ∀ a : List Item, (∀ s ∈ a, s.Ok) → 0 ≤ prodL a := fun a => by
      induction a with
      | nil => intro _; simp [prodL]
      | cons s a ih =>
        intro hs
        exact Int.mul_nonneg (by have := (hs s (by simp)).pos; omega) (ih fun u hu => hs u (by simp [hu]))
    have mono : ∀ a : List Item, (∀ s ∈ a, s.Ok) → w' * prodL a ≤ w * (t.L * prodL a) := fun a hs => by
      rw [← Int.mul_assoc]
      exact Int.mul_le_mul_of_nonneg_right hle (pp a hs)
    obtain ⟨⟨w2, hle2, h3⟩, h4⟩ := ih (pre ++ [t]) (stepR R t.bs t.L) w' h' (fun s hs => ho s (by simp [hs])) (fun a b s e => by
      have := hb (t :: a) b s (by rw [e]; rfl)
      refine Int.lt_of_le_of_lt (mono a fun u hu => (ho u (by rw [e]; simp [hu])).1) this)
    refine ⟨⟨w2, Int.le_trans hle2 (mono ts fun u hu => (ho u (by simp [hu])).1), by simpa [foldR] using h3⟩, ?_⟩
    intro a b s e
    cases a with
    | nil =>
      have e1 : t = s := by simpa using congrArg List.head? e
      subst e1
      exact ⟨by simp [foldR], jn_all h hw h1 h2⟩
    | cons c a =>
      rw [List.cons_append] at e
      obtain ⟨rfl, e2⟩ := List.cons.inj e
      obtain ⟨l1, l2⟩ := h4 a b s e2
      refine ⟨?_, l2⟩
      have := stepR_len R t.bs t.L h1.few
      simp only [foldR, List.length_cons, Nat.pow_succ]
      refine Nat.le_trans l1 ?_
      have := Nat.mul_le_mul_right (12 ^ a.length) this
      rw [Nat.mul_assoc] at this
      rw [Nat.mul_comm (12 ^ a.length) 12]
      exact this
theorem fold_least (f : Int × Int → Int) : ∀ (R : List (Int × Int)) (o : Option Int), match R.foldl (fun o p => better o (f p)) o with
    | none => o = none ∧ R = []
    | some h => ((∃ p ∈ R, h = f p) ∨ o = some h) ∧ (∀ p ∈ R, h ≤ f p) ∧ ∀ g, o = some g → h ≤ g := by
  intro R
  induction R with
  | nil =>
    intro o
    cases o with
    | none => exact ⟨rfl, rfl⟩
    | some h => exact ⟨.inr rfl, by simp, fun g e => by cases e; exact Int.le_refl _⟩
  | cons p R ih =>
    intro o
    rw [List.foldl_cons]
    have := ih (better o (f p))
    revert this
    have bs : ∃ z, better o (f p) = some z ∧ (z = f p ∨ o = some z) ∧ z ≤ f p ∧ ∀ g, o = some g → z ≤ g := by
      unfold better
      cases o with
      | none => exact ⟨_, rfl, .inl rfl, Int.le_refl _, fun g e => by cases e⟩
      | some g =>
        by_cases hl : f p < g
        · simp only [if_pos hl]
          exact ⟨_, rfl, .inl rfl, Int.le_refl _, fun g' e => by cases e; omega⟩
        · simp only [if_neg hl]
          exact ⟨_, rfl, .inr rfl, by omega, fun g' e => by cases e; omega⟩
    obtain ⟨z, e, z1, z2, z3⟩ := bs
    rw [e]
    cases R.foldl (fun o p => better o (f p)) (some z) with
    | none => rintro ⟨a, _⟩; cases a
    | some h =>
      rintro ⟨a1, a2, a3⟩
      have hz := a3 z rfl
      refine ⟨?_, ?_, fun g e => Int.le_trans hz (z3 g e)⟩
      · rcases a1 with ⟨q, hq, rfl⟩ | a1
        · exact .inl ⟨q, by simp [hq], rfl⟩
        · cases a1
          rcases z1 with rfl | z1
          · exact .inl ⟨p, by simp, rfl⟩
          · exact .inr z1
      · intro q hq
        rcases List.mem_cons.mp hq with rfl | hq
        · exact Int.le_trans hz z2
        · exact a2 q hq
theorem meetI_least {p : Int × Int} {beat x : Int} (hw : 0 < p.2) (hx : beat ≤ x) (hd : p.2 ∣ x - p.1) (h0 : meetI' p beat < beat + p.2) (h1 : p.2 ∣ meetI' p beat - p.1) : meetI' p beat ≤ x := by
  have := Int.dvd_sub hd h1
  obtain ⟨k, hk⟩ := this
  rcases Int.lt_or_le k 0 with h | h
  · have : p.2 * k ≤ p.2 * (-1) := Int.mul_le_mul_of_nonneg_left (by omega) (by omega)
    omega
  · have := Int.mul_nonneg (Int.le_of_lt hw) h
    omega
/-- THE MEETING: the least beat from the given one on -/
theorem meet_all (ts : List Item) (beat : Int) (ho : ∀ t ∈ ts, t.Ok ∧ t.L < 10 ^ 50) (hl : ts.length ≤ 3) (hb : ∀ a b t, ts = a ++ t :: b → prodL a < 10 ^ 50) (hp : prodL ts < 10 ^ 60) (h0 : 0 ≤ beat) (h1 : beat < 10 ^ 62) :
    ∃ res : Option Int, m_meeting [.dat (.lst (ts.map (·.book))), .dat (.lst (ts.map (·.word))), .dat (.int beat)] = .ok (.dat (oDI res)) [none, none, none] ∧
      (res = none → ∀ x, ¬ Sol ts x) ∧ ∀ h, res = some h → beat ≤ h ∧ h < beat + prodL ts ∧ Sol ts h ∧ ∀ x, beat ≤ x → Sol ts x → h ≤ x := by
  obtain ⟨⟨w, hw, RI⟩, hpre⟩ := rinv_all ts [] [(0, 1)] 1 rinv0 ho (fun a b t e => by rw [Int.one_mul]; exact hb a b t e)
  rw [Int.one_mul] at hw
  rw [List.nil_append] at RI
  have hpos := RI.pos
  have hr : ∀ p ∈ foldR [(0, 1)] ts, RowOk beat p := fun p hp => by
    obtain ⟨e, f0, f1⟩ := RI.at_ p hp
    refine ⟨by omega, by omega, ?_⟩
    have e1 : (beat - p.1 + p.2 - 1) / p.2 ≤ beat + p.2 := by
      refine Int.ediv_le_of_le_mul (by omega) ?_
      have := Int.mul_le_mul_of_nonneg_left (by omega : 1 ≤ p.2) (by omega : 0 ≤ beat + p.2)
      omega
    have z : (10 ^ 63 : Nat) < 2 ^ 220 := by decide +kernel
    exact mulOk_e (a := 220) (b := 220) (by omega) (by omega) ⟨by decide, by decide⟩
  refine ⟨_, meet_run ts beat (fun t m => (ho t m).1) (by omega) (fun a b t e => ?_) hr, ?_, ?_⟩
  · obtain ⟨l1, l2⟩ := hpre a b t e
    refine ⟨?_, l2⟩
    have : a.length ≤ 2 := by rw [e] at hl; simp at hl; omega
    have : 12 ^ a.length ≤ 12 ^ 2 := Nat.pow_le_pow_right (by decide) this
    simp only [List.length_cons, List.length_nil] at l1
    omega
  · intro hres x hx
    have := fold_least (fun p => meetI' p beat) (foldR [(0, 1)] ts) none
    rw [hres] at this
    obtain ⟨p, hp, _⟩ := (RI.sol x).mpr hx
    rw [this.2] at hp
    simp at hp
  · intro h hres
    have := fold_least (fun p => meetI' p beat) (foldR [(0, 1)] ts) none
    rw [hres] at this
    obtain ⟨a1, a2, _⟩ := this
    rcases a1 with ⟨p, hp, rfl⟩ | a1
    · obtain ⟨e, f0, f1⟩ := RI.at_ p hp
      obtain ⟨m1, m2, m3⟩ := meetI_ok (p := p) h0 f0 (by omega)
      have em : meetI' p beat = meetI p beat := rfl
      rw [em]
      refine ⟨m1, by omega, (RI.sol _).mp ⟨p, hp, by rw [← e]; exact m3⟩, fun x hx hs => ?_⟩
      obtain ⟨q, hq, hd⟩ := (RI.sol x).mpr hs
      obtain ⟨e', g0, g1⟩ := RI.at_ q hq
      obtain ⟨n1, n2, n3⟩ := meetI_ok (p := q) h0 g0 (by omega)
      have := a2 q hq
      have l := meetI_least (p := q) (beat := beat) (x := x) (by omega) hx (by rw [e']; exact hd) n2 n3
      exact Int.le_trans this l
    · cases a1
end DL.Law

/-! R6: the beats of a word; a book as one of a meeting -/
namespace DL.Law
open PySem L2 DL
theorem opNotInS_ints (r : Int) (ns : List Int) : opNotInS (.int r) (.lst (ns.map D.int)) = some (.bl (!decide (r ∈ ns))) := by
  have h := opInS_pl (n := 0) (x := .int r) (ds := ns.map D.int) (b := decide (r ∈ ns)) rfl (Pls_ints 0 ns) (by omega) (by simp)
  unfold opNotInS
  rw [h]; rfl
noncomputable def boB : SM := sSeq (sAsg 5 (callD m_ring_beat [.dat (eVar 0), .dat (eVar 1), .dat (eVar 4)])) (
    sIf (bQ (bVal (eBin opNotInS (eVar 5) (eVar 3)))) (sApp 3 (eVar 5)) (sNx))
theorem bo_loop (T : D) (w : Str) (many : D) (R : Int → Int) : ∀ (ks : List Nat) (acc : List Int) (x4 x5 : Option D), (∀ k ∈ ks, m_ring_beat [.dat T, .dat (.str w), .dat (.int (k : Nat))] = .ok (.dat (.int (R k))) [none, none, none]) → acc.length + ks.length ≤ 1000 →
    ∃ (x4' x5' : Option D) (acc' : List Int), loopD (gN 4) boB (ks.map fun k => .int (k : Nat)) [some (.dat T), some (.dat (.str w)), some (.dat many), some (.own (.lf (.lst (acc.map D.int)))), oD x4, oD x5] =
      .ok .nx [some (.dat T), some (.dat (.str w)), some (.dat many), some (.own (.lf (.lst (acc'.map D.int)))), oD x4', oD x5'] ∧ acc'.length ≤ acc.length + ks.length ∧ ∀ x, x ∈ acc' ↔ x ∈ acc ∨ ∃ k ∈ ks, x = R (k : Nat)
  | [], acc, x4, x5, _, _ => ⟨x4, x5, acc, by simp, by omega, by simp⟩
  | k :: ks, acc, x4, x5, h, hl => by
    simp only [List.length_cons] at hl
    have hk := h k (by simp)
    have hz : acc.length < sizeLine := by have := sizeLine_eq; omega
    by_cases hm : R k ∈ acc
    · obtain ⟨x4', x5', acc', h1, h2, h3⟩ := bo_loop T w many R ks acc (some (.int (k : Nat))) (some (.int (R k))) (fun j m => h j (List.mem_cons_of_mem _ m)) (by omega)
      refine ⟨x4', x5', acc', ?_, by simp only [List.length_cons]; omega, fun x => ?_⟩
      · rw [List.map_cons, ← h1]
        simp [boB, hk, opNotInS_ints, hm]
      · rw [h3]
        constructor
        · rintro (a | ⟨j, m, e⟩)
          · exact .inl a
          · exact .inr ⟨j, List.mem_cons_of_mem _ m, e⟩
        · rintro (a | ⟨j, m, e⟩)
          · exact .inl a
          · rcases List.mem_cons.mp m with rfl | m
            · rw [e]; exact .inl hm
            · exact .inr ⟨j, m, e⟩
    · obtain ⟨x4', x5', acc', h1, h2, h3⟩ := bo_loop T w many R ks (acc ++ [R k]) (some (.int (k : Nat))) (some (.int (R k))) (fun j m => h j (List.mem_cons_of_mem _ m)) (by simp; omega)
      refine ⟨x4', x5', acc', ?_, by simp at h2; simp; omega, fun x => ?_⟩
      · rw [List.map_cons, ← h1]
        simp [boB, hk, opNotInS_ints, hm, hz]
      · rw [h3]
        constructor
        · rintro (a | ⟨j, m, e⟩)
          · rcases List.mem_append.mp a with a | a
            · exact .inl a
            · simp at a; exact .inr ⟨k, by simp, a⟩
          · exact .inr ⟨j, List.mem_cons_of_mem _ m, e⟩
        · rintro (a | ⟨j, m, e⟩)
          · exact .inl (List.mem_append_left _ a)
          · rcases List.mem_cons.mp m with rfl | m
            · rw [e]; exact .inl (by simp)
            · exact .inr ⟨j, m, e⟩
theorem rung_succ (b : Bk) (w : Str) {x : Int} (h : 0 ≤ x) : b.rung w (x + 1) = b.rung w x + cw w b.play x := by
  unfold Bk.rung
  rw [show (x + 1).toNat = x.toNat + 1 by omega, sm, show ((x.toNat : Nat) : Int) = x by omega]
theorem cw_pos (w : Str) (t : Tr) (x : Int) : 0 < cw w t x ↔ w ∈ wd t x := by
  unfold cw
  rw [← List.count_pos_iff]
  omega
theorem beats_ok (b : Bk) (S : b.S) (w : Str) (hw : PyData.strOk w = true) (hm : b.rung w b.L ≤ 12) : ∃ bs : List Int, m_beats_of [.dat b.toD, .dat (.str w)] = .ok (.dat (.lst (bs.map D.int))) [none, none] ∧ bs.length ≤ 12 ∧ ∀ x, x ∈ bs ↔ 0 ≤ x ∧ x < b.L ∧ w ∈ wd b.play x := by
  have hp := S.lpos
  have hr0 : 0 ≤ b.rung w b.L := sm_nonneg (cw_nn w _) _
  have hL1 : b.rung w (b.L + 1) = b.rung w b.L := by
    rw [rung_succ b w (by omega), cw_over w b.play b.L (by show len b.play ≤ b.L; exact Int.le_refl _)]; omega
  have hex : ∀ i : Int, ∃ r : Int, 0 ≤ i → i < b.rung w b.L → m_ring_beat [.dat b.toD, .dat (.str w), .dat (.int i)] = .ok (.dat (.int r)) [none, none, none] ∧ 0 ≤ r ∧ r ≤ b.L ∧ b.rung w r ≤ i ∧ i < b.rung w (r + 1) := fun i => by
    by_cases hi : 0 ≤ i ∧ i < b.rung w b.L
    · obtain ⟨r, h⟩ := ring_beat_some b S w hw i hi.1 (by omega)
      exact ⟨r, fun _ _ => h⟩
    · exact ⟨0, fun h1 h2 => absurd ⟨h1, h2⟩ hi⟩
  obtain ⟨R, hR⟩ := Classical.axiomOfChoice hex
  have hnat : ((b.rung w b.L).toNat : Int) = b.rung w b.L := by omega
  obtain ⟨x4', x5', acc', h1, h2, h3⟩ := bo_loop b.toD w (.int (b.rung w b.L)) R (List.range (b.rung w b.L).toNat) [] none none (fun k m => (hR k (by omega) (by have := List.mem_range.mp m; omega)).1) (by simp; omega)
  refine ⟨acc', ?_, by simp at h2; omega, fun x => ?_⟩
  · unfold m_beats_of b_beats_of
    rw [fnD_ap _ _ _ _ rfl]
    have hl := lengths_ok b S
    have hla := b.lens_last S
    have hct := ring_count_ok b S w hw b.L (by omega) (by omega)
    have hng : ¬ 12 < b.rung w b.L := by omega
    have hrn := fun e => rRng_n (b.rung w b.L).toNat (by omega) e
    rw [hnat] at hrn
    unfold boB at h1
    generalize b.toD = T at *
    simp only [oD_none, List.map_nil] at h1
    simp [hl, hla, hct, hng, -rRng_1, hrn, h1]
  · rw [h3]
    constructor
    · rintro (a | ⟨k, m, rfl⟩)
      · simp at a
      · have hk := List.mem_range.mp m
        obtain ⟨_, r0, r1, r2, r3⟩ := hR k (by omega) (by omega)
        rw [rung_succ b w r0] at r3
        have hc : 0 < cw w b.play (R k) := by omega
        refine ⟨r0, ?_, (cw_pos w _ _).mp hc⟩
        by_cases hlt : R k < b.L
        · exact hlt
        · rw [cw_over w b.play _ (by show b.L ≤ _; omega)] at hc; omega
    · rintro ⟨x0, x1, x2⟩
      refine .inr ⟨(b.rung w x).toNat, ?_, ?_⟩
      · have hc := (cw_pos w b.play x).mpr x2
        have h4 := rung_succ b w x0
        have h5 := rung_mono b w (show x + 1 ≤ b.L by omega)
        have h6 : 0 ≤ b.rung w x := sm_nonneg (cw_nn w _) _
        rw [List.mem_range]; omega
      · have hc := (cw_pos w b.play x).mpr x2
        have h4 := rung_succ b w x0
        have h5 := rung_mono b w (show x + 1 ≤ b.L by omega)
        have h6 : 0 ≤ b.rung w x := sm_nonneg (cw_nn w _) _
        have e6 : (((b.rung w x).toNat : Nat) : Int) = b.rung w x := by omega
        obtain ⟨_, r0, r1, r2, r3⟩ := hR ((b.rung w x).toNat : Nat) (by omega) (by omega)
        rw [e6] at r0 r1 r2 r3 ⊢
        by_cases c1 : R (b.rung w x) < x
        · have := rung_mono b w (show R (b.rung w x) + 1 ≤ x by omega)
          omega
        · by_cases c2 : x < R (b.rung w x)
          · have := rung_mono b w (show x + 1 ≤ R (b.rung w x) by omega)
            omega
          · omega
/-- a book and a word, to meet with others -/
theorem item_ok (b : Bk) (S : b.S) (w : Str) (hw : PyData.strOk w = true) (hm : b.rung w b.L ≤ 12) : ∃ t : Item, t.Ok ∧ t.book = b.toD ∧ t.word = .str w ∧ t.L = b.L ∧ ∀ x, x ∈ t.bs ↔ 0 ≤ x ∧ x < b.L ∧ w ∈ wd b.play x := by
  obtain ⟨bs, h1, h2, h3⟩ := beats_ok b S w hw hm
  have hp := S.lpos
  exact ⟨⟨b.toD, .str w, bs, b.L⟩, ⟨⟨_, lengths_ok b S, b.lens_last S⟩, h1, h2, by simp only; omega, fun x hx => ⟨((h3 x).mp hx).1, ((h3 x).mp hx).2.1⟩⟩, rfl, rfl, rfl, h3⟩
end DL.Law

/-! T14: more operations, run; sound books, part by part -/
namespace DL
open PySem L2
@[simp] theorem oNo_ap (e : Slots) : oNo e = .ok none e := rfl
def rYes (d : D) : EM (Option Int) := lift ((dI d).map some)
@[simp] theorem rYes_i (i : Int) (e : Slots) : rYes (.int i) e = .ok (some i) e := rfl
@[simp] theorem oYes_ap (f : EM D) (e : Slots) : oYes f e = (f e).bind rYes := rfl
@[simp] theorem eSl_ap (f : EM D) (lo hi : EM (Option Int)) (e : Slots) : eSl f lo hi e = (f e).bind fun d => lo.bind fun l => hi.bind fun h => lift (opSl d l h) := rfl
@[simp] theorem opSl_l (ds : List D) (lo hi : Option Int) : opSl (.lst ds) lo hi = some (.lst (cutD ds lo hi)) := rfl
@[simp] theorem opSl_t (ds : List D) (lo hi : Option Int) : opSl (.tup ds) lo hi = some (.tup (cutD ds lo hi)) := rfl
@[simp] theorem opSl_c (ds : List Int) (lo hi : Option Int) : opSl (.scr ds) lo hi = some (.lst ((cutI ds lo hi).map D.int)) := rfl
theorem cutD_nn (xs : List D) (a b : Nat) : cutD xs (some (a : Int)) (some (b : Int)) = (xs.drop a).take (b - a) := by
  unfold cutD
  rw [HT.sIx_nat, HT.sIx_nat]
  by_cases h : a ≤ xs.length
  · rw [show min a xs.length = a by omega]
    by_cases h2 : b ≤ xs.length
    · rw [show min b xs.length = b by omega]
    · rw [show min b xs.length = xs.length by omega, List.take_of_length_le (by simp), List.take_of_length_le (by simp; omega)]
  · rw [List.drop_of_length_le (by omega), List.drop_of_length_le (by omega), List.take_nil, List.take_nil]
theorem cutD_0n (xs : List D) (b : Nat) : cutD xs none (some (b : Int)) = xs.take b := by
  unfold cutD
  rw [HT.sIx_nat, HT.sIx_none, List.drop_zero, Nat.sub_zero]
  by_cases h2 : b ≤ xs.length
  · rw [show min b xs.length = b by omega]
  · rw [show min b xs.length = xs.length by omega, List.take_of_length_le (Nat.le_refl _), List.take_of_length_le (by omega)]
theorem cutI_nn (xs : List Int) (a b : Nat) : cutI xs (some (a : Int)) (some (b : Int)) = (xs.drop a).take (b - a) := by
  unfold cutI
  rw [HT.sIx_nat, HT.sIx_nat]
  by_cases h : a ≤ xs.length
  · rw [show min a xs.length = a by omega]
    by_cases h2 : b ≤ xs.length
    · rw [show min b xs.length = b by omega]
    · rw [show min b xs.length = xs.length by omega, List.take_of_length_le (by simp), List.take_of_length_le (by simp; omega)]
  · rw [List.drop_of_length_le (by omega), List.drop_of_length_le (by omega), List.take_nil, List.take_nil]
@[simp] theorem opList_l (ds : List D) : opList [.lst ds] = some (.lst ds) := rfl
@[simp] theorem opList_t (ds : List D) : opList [.tup ds] = some (.lst ds) := rfl
@[simp] theorem opTuple_l (ds : List D) : opTuple [.lst ds] = some (.tup ds) := rfl
@[simp] theorem eIsB_ap (T : String) (f : EM D) (e : Slots) : eIsB T f e = (f e).bind fun d => lift ((tyD d).map fun t => .bl (isB t T)) := rfl
theorem opAll_map {α : Type} (p : α → Bool) (l : List α) : opAll [.lst (l.map fun a => .bl (p a))] = some (.bl (l.all p)) := by
  have : (l.map fun a => D.bl (p a)) = (l.map p).map D.bl := by rw [List.map_map]; rfl
  show (blsOf _).map _ = _
  rw [this, blsOf_map]
  simp
noncomputable def rRng2 (ds : List D) : EM (List D) := match ds with
  | [.int i, .int j] => lift (if smallI i ∧ smallI j then some (rangeD i j) else none)
  | _ => fun _ => .stuck
theorem iRange2_ap (g : EM (List D)) (e : Slots) : iRange2 g e = (g e).bind rRng2 := id rfl
theorem rRng2_nn (i j : Int) (hi : smallI i) (hj : smallI j) (e : Slots) : rRng2 [.int i, .int j] e = .ok (rangeD i j) e := by
  show lift (if smallI i ∧ smallI j then some (rangeD i j) else none) e = _
  rw [if_pos ⟨hi, hj⟩]; rfl
end DL
namespace DL.Law
open PySem L2 DL
theorem FmsS.snoc {nl : Nat} : ∀ {fs : List Fm} {acc : List Tr} {f : Fm}, FmsS nl acc fs → FmS nl (trsA acc fs) f → FmsS nl acc (fs ++ [f])
  | [], acc, f, _, h => ⟨h, trivial⟩
  | g :: fs, acc, f, s, h => ⟨s.1, FmsS.snoc s.2 h⟩
theorem lens_le {c : Int} : ∀ (ts : List Tr), (∀ t ∈ ts, len t ≤ c) → lens ts ≤ ts.length * c
  | [], _ => by simp [lens]
  | t :: ts, h => by
    have := lens_le ts fun x m => h x (List.mem_cons_of_mem _ m)
    have := h t (by simp)
    rw [lens, List.length_cons, Int.natCast_add, Int.add_mul]
    omega
theorem maxs_le {c : Int} (h0 : 0 ≤ c) : ∀ (ts : List Tr), (∀ t ∈ ts, len t ≤ c) → maxs ts ≤ c
  | [], _ => by simpa [maxs] using h0
  | t :: ts, h => by
    have := maxs_le h0 ts fun x m => h x (List.mem_cons_of_mem _ m)
    have := h t (by simp)
    rw [maxs]; omega
/-- forms that name no parts -/
theorem FmS.hold' {nl : Nat} {acc : List Tr} {b : Int} (h : 1 ≤ b) (h2 : b ≤ 10 ^ 60) : FmS nl acc (.hold b) where
  ok := ⟨by simp [Fm.refs], by simp [Fm.refs], by simp [Fm.refs], nofun⟩
  top := h2
  rais := nofun
  hold := fun b' e => by cases e; exact h
  ring := nofun
  row := nofun
  side := nofun
  again := nofun
theorem FmS.ring' {nl : Nat} {acc : List Tr} {w : Str} {b : Int} (h : 1 ≤ b) (h2 : b ≤ 10 ^ 60) (hw : PyData.strOk w = true) : FmS nl acc (.ring w b) where
  ok := ⟨by simp [Fm.refs], by simp [Fm.refs], by simp [Fm.refs], nofun⟩
  top := h2
  rais := nofun
  hold := nofun
  ring := fun w' b' e => by cases e; exact ⟨h, hw⟩
  row := nofun
  side := nofun
  again := nofun
theorem FmS.raise' {nl : Nat} {acc : List Tr} {l : Nat} {g b : Int} (hl : l < nl) (h : 1 ≤ b) (h2 : b ≤ 10 ^ 60) : FmS nl acc (.raise l g b) where
  ok := ⟨by simp [Fm.refs], by simp [Fm.refs], by simp [Fm.refs], fun l' h' b' e => by cases e; exact hl⟩
  top := h2
  rais := fun l' h' b' e => by cases e; exact h
  hold := nofun
  ring := nofun
  row := nofun
  side := nofun
  again := nofun
theorem FmS.row' {nl : Nat} {acc : List Tr} {ks : List Nat} (hk : ∀ k ∈ ks, k < acc.length) (hne : ks ≠ []) (few : ks.length * nl < 63) (few2 : ks.length < 63) (top : lens (ks.map (tg acc)) ≤ 10 ^ 60) : FmS nl acc (.row ks) where
  ok := ⟨hk, few, few2, nofun⟩
  top := top
  rais := nofun
  hold := nofun
  ring := nofun
  row := fun ks' e => by cases e; exact hne
  side := nofun
  again := nofun
theorem FmS.side' {nl : Nat} {acc : List Tr} {ks : List Nat} (hk : ∀ k ∈ ks, k < acc.length) (hs : SideOk nl (ks.map (tg acc))) (few : ks.length * nl < 63) (few2 : ks.length < 63) (top : maxs (ks.map (tg acc)) ≤ 10 ^ 60) : FmS nl acc (.side ks) where
  ok := ⟨hk, few, few2, nofun⟩
  top := top
  rais := nofun
  hold := nofun
  ring := nofun
  row := nofun
  side := fun ks' e => by cases e; exact hs
  again := nofun
theorem FmS.again' {nl : Nat} {acc : List Tr} {n : Int} {k : Nat} (hk : k < acc.length) (h1 : 1 ≤ n) (h2 : n < 2 ^ 64) (few : nl < 63) (top : n * len (tg acc k) ≤ 10 ^ 60) : FmS nl acc (.again n k) where
  ok := ⟨by simpa [Fm.refs] using hk, by simpa [Fm.refs] using few, by simp [Fm.refs], nofun⟩
  top := top
  rais := nofun
  hold := nofun
  ring := nofun
  row := nofun
  side := nofun
  again := fun n' k' e => by cases e; exact ⟨h1, h2⟩
/-! words rung are texts of good signs -/
mutual
theorem wd_str {nl : Nat} : ∀ (t : Tr) (x : Int), TrS nl t → ∀ v ∈ wd t x, PyData.strOk v = true
  | .raise _ _ _, _, _ => by simp [wd]
  | .hold _, _, _ => by simp [wd]
  | .ring w b, x, h => by
    simp only [TrS] at h
    simp only [wd]
    intro v hv
    split at hv
    · simp at hv
    · split at hv
      · simp at hv; rw [hv]; exact h.2
      · simp at hv
  | .row ts, x, h => by
    simp only [TrS] at h
    have := wdR_str ts x h.2
    simp only [wd]
    split
    · simp
    · exact this
  | .side ts, x, h => by
    simp only [TrS] at h
    have := wdS_str ts x h.2
    simp only [wd]
    split
    · simp
    · exact this
  | .again n t, x, h => by
    simp only [TrS] at h
    have := wd_str t (x % len t) h.2
    simp only [wd]
    split
    · simp
    · exact this
theorem wdR_str {nl : Nat} : ∀ (ts : List Tr) (x : Int), TrSs nl ts → ∀ v ∈ wdR ts x, PyData.strOk v = true
  | [], _, _ => by simp [wdR]
  | t :: ts, x, h => by
    simp only [TrSs] at h
    have h1 := wd_str t x h.1
    have h2 := wdR_str ts (x - len t) h.2
    intro v hv
    rw [wdR] at hv
    rcases List.mem_append.mp hv with hv | hv
    · split at hv
      · exact h1 v hv
      · simp at hv
    · exact h2 v hv
theorem wdS_str {nl : Nat} : ∀ (ts : List Tr) (x : Int), TrSs nl ts → ∀ v ∈ wdS ts x, PyData.strOk v = true
  | [], _, _ => by simp [wdS]
  | t :: ts, x, h => by
    simp only [TrSs] at h
    have h1 := wd_str t x h.1
    have h2 := wdS_str ts x h.2
    intro v hv
    rw [wdS] at hv
    rcases List.mem_append.mp hv with hv | hv
    · exact h1 v hv
    · exact h2 v hv
end
theorem Bk.S.play_S {b : Bk} (S : b.S) : TrS b.nl b.play := S.t_S (by have := List.length_pos_iff.mpr S.ne; omega)
theorem rings_in (b : Bk) (S : b.S) (w : Str) (hw : PyData.strOk w = true) (x : Int) : opInS (.str w) (.lst ((b.rings x).map D.str)) = some (.bl (decide (w ∈ b.rings x))) := by
  refine opInS_pl (n := 0) (by simpa [Pl] using hw) (Pls_map fun v m => ?_) (by omega) (by simp)
  have : ∀ v ∈ b.rings x, PyData.strOk v = true := by
    unfold Bk.rings
    split
    · simp
    · exact wd_str _ _ S.play_S
  simpa [Pl] using this v m
theorem rings_lt (b : Bk) {x : Int} (h : x < b.L) : b.rings x = wd b.play x := by unfold Bk.rings; rw [if_neg (by omega)]
end DL.Law

namespace DL.Law
open PySem L2 DL
theorem cell_at (ns : List Int) (k : Nat) : m_x_law_cell_at [.dat (.scr ns), .dat (.int k)] = .ok (.dat (.int (ns.getD k 0))) [none, none] := by
  unfold m_x_law_cell_at b_x_law_cell_at
  rw [fnD_ap _ _ _ _ rfl]
  have hix : opIx (.scr ns) (.int k) = (ns[k]?).map D.int := by show (atI ns k).map D.int = _; rw [atI_nat]
  by_cases h : k < ns.length
  · simp [h, hix]
  · simp [h]
def nm8 (k : Nat) : Str := ⟨#[97 + k]⟩
def num47 (c : Int) (k : Nat) : Int := c / (3 * ((k : Int) + 1)) + k * k
def bt47 (c : Int) (k : Nat) : Int := 1 + num47 c k / 3 % 4
def wd47 (x : Int) : Str := if x = 0 then "bell" else "gong"
def fm47 (c : Int) (k : Nat) : Fm := if num47 c k % 3 = 2 then .raise 0 (num47 c k / 24 % 9) (bt47 c k) else if num47 c k % 3 = 1 then .hold (bt47 c k) else .ring (wd47 (num47 c k / 12 % 2)) (bt47 c k)
def tr47 (c : Int) (k : Nat) : Tr := if num47 c k % 3 = 2 then .raise 0 (num47 c k / 24 % 9) (bt47 c k) else if num47 c k % 3 = 1 then .hold (bt47 c k) else .ring (wd47 (num47 c k / 12 % 2)) (bt47 c k)
theorem mk47 (acc : List Tr) (c : Int) (k : Nat) : mkT acc (fm47 c k) = tr47 c k := by
  unfold fm47 tr47
  split
  · rfl
  · split <;> rfl
theorem bt47_le (c : Int) (k : Nat) : 1 ≤ bt47 c k ∧ bt47 c k ≤ 4 := by unfold bt47; omega
theorem len47 (c : Int) (k : Nat) : len (tr47 c k) = bt47 c k := by
  unfold tr47
  split
  · rfl
  · split <;> rfl
theorem wd47_ok (x : Int) : PyData.strOk (wd47 x) = true := by unfold wd47; split <;> exact strOk_ofS _
theorem fm47_S (acc : List Tr) (c : Int) (k : Nat) : FmS 1 acc (fm47 c k) := by
  have h := bt47_le c k
  unfold fm47
  split
  · exact FmS.raise' (by omega) h.1 (by omega)
  · split
    · exact FmS.hold' h.1 (by omega)
    · exact FmS.ring' h.1 (by omega) (wd47_ok _)
def n47 (c : Int) : Nat := (3 + c % 3).toNat
theorem n47_eq (c : Int) : (n47 c : Int) = 3 + c % 3 := by unfold n47; omega
theorem n47_le (c : Int) : 3 ≤ n47 c ∧ n47 c ≤ 5 := by unfold n47; omega
def bk47 (c : Int) : Bk := ⟨[("arm", 1)], (List.range (n47 c)).map (fun k => (nm8 k, fm47 c k)) ++ [(("play" : Str), Fm.row (List.range (n47 c)))]⟩
theorem fms47 (c : Int) : ∀ (l : List Nat) (acc : List Tr), FmsS 1 acc (l.map (fm47 c)) ∧ trsA acc (l.map (fm47 c)) = acc ++ l.map (tr47 c)
  | [], acc => ⟨trivial, by simp [trsA]⟩
  | k :: l, acc => by
    obtain ⟨h1, h2⟩ := fms47 c l (acc ++ [tr47 c k])
    rw [List.map_cons]
    refine ⟨⟨fm47_S acc c k, by rw [mk47]; exact h1⟩, ?_⟩
    rw [trsA, mk47, h2]; simp
theorem fs47 (c : Int) : (bk47 c).fs = (List.range (n47 c)).map (fm47 c) ++ [.row (List.range (n47 c))] := by
  simp [bk47, Bk.fs, Function.comp_def]
theorem pn47 (c : Int) : (bk47 c).pn = (List.range (n47 c)).map nm8 ++ [("play" : Str)] := by
  simp [bk47, Bk.pn, Function.comp_def]
theorem tg47 (c : Int) (k : Nat) (h : k < n47 c) : tg ((List.range (n47 c)).map (tr47 c)) k = tr47 c k := by
  have h1 := tg_get (acc := (List.range (n47 c)).map (tr47 c)) (k := k) (by simpa using h)
  rw [List.getElem?_map, List.getElem?_range h] at h1
  exact (Option.some.inj h1).symm
theorem row47 (c : Int) : mkT ((List.range (n47 c)).map (tr47 c)) (.row (List.range (n47 c))) = .row ((List.range (n47 c)).map (tr47 c)) := by
  simp only [mkT]
  congr 1
  exact List.map_congr_left fun k m => tg47 c k (List.mem_range.mp m)
theorem ts47 (c : Int) : (bk47 c).ts = (List.range (n47 c)).map (tr47 c) ++ [.row ((List.range (n47 c)).map (tr47 c))] := by
  rw [Bk.ts, fs47, trs_snoc, trs, (fms47 c _ []).2, List.nil_append, row47]
theorem lens47 (c : Int) : lens ((List.range (n47 c)).map (tr47 c)) = ((List.range (n47 c)).map (bt47 c)).sum := by
  rw [lens_sum, List.map_map]
  congr 1
  exact List.map_congr_left fun k _ => len47 c k
theorem lens47_le (c : Int) : lens ((List.range (n47 c)).map (tr47 c)) ≤ 20 := by
  have h := n47_le c
  have := lens_le (c := 4) ((List.range (n47 c)).map (tr47 c)) fun t m => by
    obtain ⟨k, _, rfl⟩ := List.mem_map.mp m
    rw [len47]; exact (bt47_le c k).2
  rw [List.length_map, List.length_range] at this
  omega
theorem nm8_inj {i j : Nat} (h : nm8 i = nm8 j) : i = j := by
  unfold nm8 at h
  have := congrArg (fun s : Str => s.cps.toList) h
  simp at this
  exact this
theorem S47 (c : Int) : (bk47 c).S where
  hdn := by simp [bk47, Bk.hn]
  hdp := by
    rw [pn47, List.nodup_append]
    refine ⟨?_, by simp, ?_⟩
    · exact List.pairwise_map.mpr (List.nodup_range.imp fun h e => h (nm8_inj e))
    · intro a ha b hb e
      simp at hb
      obtain ⟨k, _, rfl⟩ := List.mem_map.mp ha
      subst hb
      have := congrArg (fun s : Str => s.cps.size) e
      simp [nm8] at this
      exact absurd this (by decide)
  hl := by simp [bk47]
  pl := by have := n47_le c; simp [bk47]; omega
  ne := by simp [bk47]
  fs := by
    have hn := n47_le c
    rw [fs47]
    refine FmsS.snoc (fms47 c _ []).1 ?_
    rw [(fms47 c _ []).2, List.nil_append]
    refine FmS.row' (fun k m => by simpa using m) (by simp; omega) (by simp [bk47, Bk.nl]; omega) (by simp; omega) ?_
    have := lens47_le c
    have e := row47 c
    simp only [mkT, Tr.row.injEq] at e
    rw [e]; omega
  so := by
    intro n m
    rcases List.mem_append.mp m with m | m
    · simp [bk47, Bk.hn] at m; subst m; exact strOk_ofS _
    · rw [pn47] at m
      rcases List.mem_append.mp m with m | m
      · obtain ⟨k, mk, rfl⟩ := List.mem_map.mp m
        have := List.mem_range.mp mk
        have := n47_le c
        simp [nm8, PyData.strOk]; omega
      · simp at m; subst m; exact strOk_ofS _
theorem play47 (c : Int) : (bk47 c).play = .row ((List.range (n47 c)).map (tr47 c)) := by
  have e : (bk47 c).ps.length - 1 = n47 c := by simp [bk47]
  rw [Bk.play, e, Bk.t, ts47]
  have h := tg_get (acc := (List.range (n47 c)).map (tr47 c) ++ [.row ((List.range (n47 c)).map (tr47 c))]) (k := n47 c) (by simp)
  rw [List.getElem?_append_right (by simp)] at h
  simp at h
  exact h.symm
theorem L47 (c : Int) : (bk47 c).L = ((List.range (n47 c)).map (bt47 c)).sum := by rw [Bk.L, play47, len, lens47]
theorem L47_le (c : Int) : 1 ≤ (bk47 c).L ∧ (bk47 c).L ≤ 20 := ⟨(S47 c).lpos, by rw [L47, ← lens47]; exact lens47_le c⟩
/-! the builder, run -/
theorem small_step (c : Int) (k : Nat) (hk : k < 5) (ps ns : List D) (long : Int) (x5 x6 x7 : Option D) (hc : 0 ≤ c) (hp : ps.length ≤ 100) (hn : ns.length ≤ 100) : ∃ x5' x6' x7', L_x_law_small_1 [some (.dat (.int c)), some (.own (.lf (.lst ps))), some (.own (.lf (.lst ns))), some (.dat (.int long)), some (.dat (.int (k : Nat))), oD x5, oD x6, oD x7] =
    .ok .nx [some (.dat (.int c)), some (.own (.lf (.lst (ps ++ [partD ["arm"] [] (nm8 k, fm47 c k)])))), some (.own (.lf (.lst (ns ++ [.str (nm8 k)])))), some (.dat (.int (long + bt47 c k))), some (.dat (.int (k : Nat))), oD x5', oD x6', oD x7'] := by
  have hz : ps.length < sizeLine := by have := sizeLine_eq; omega
  have hz2 : ns.length < sizeLine := by have := sizeLine_eq; omega
  have hix : opIx (.str "abcdefgh") (.int (k : Nat)) = some (.str (nm8 k)) := by
    have h5 : k = 0 ∨ k = 1 ∨ k = 2 ∨ k = 3 ∨ k = 4 := by omega
    rcases h5 with rfl | rfl | rfl | rfl | rfl <;> rfl
  have hlast : (Lf.lst (ns ++ [.str (nm8 k)])).at_ (.int (-1)) = some (.str (nm8 k)) := atI_last _ _
  have hm1 : mulOk 3 ((k : Int) + 1) = true := by simp [mulOk]
  have hm2 : mulOk (k : Int) (k : Int) = true := by simp [mulOk]; left; omega
  have hd1 : (0 : Int) < 3 * ((k : Int) + 1) := by omega
  have hd2 : 3 * ((k : Int) + 1) < 10 ^ 100 := by
    have : 3 * ((k : Int) + 1) < 100 := by omega
    exact Int.lt_trans this (by decide +kernel)
  have hfd := opFdiv_i c (3 * ((k : Int) + 1)) hd1 hd2
  refine ⟨some (.int (num47 c k)), some (.int (bt47 c k)), some ((fm47 c k).toD ["arm"] []), ?_⟩
  have e0 : c / (3 * ((k : Int) + 1)) + (k : Int) * k = num47 c k := rfl
  have e1 : 1 + num47 c k / 3 % 4 = bt47 c k := rfl
  unfold L_x_law_small_1
  have h2 : num47 c k / 12 % 2 = 0 ∨ num47 c k / 12 % 2 = 1 := by omega
  by_cases h3 : num47 c k % 3 = 2
  · have h4 : ¬ num47 c k % 3 = 1 := by omega
    rcases h2 with h2 | h2 <;> simp [hix, hlast, hm1, hm2, -opFdiv_i, hfd, e0, e1, h2, h3, h4, hz, hz2, opFdiv_i, fm47, Fm.toD, partD, nmD]
  · by_cases h4 : num47 c k % 3 = 1
    · rcases h2 with h2 | h2 <;> simp [hix, hlast, hm1, hm2, -opFdiv_i, hfd, e0, e1, h2, h3, h4, hz, hz2, opFdiv_i, fm47, Fm.toD, partD, nmD]
    · rcases h2 with h2 | h2 <;> simp [hix, hlast, hm1, hm2, -opFdiv_i, hfd, e0, e1, h2, h3, h4, hz, hz2, opFdiv_i, fm47, Fm.toD, partD, nmD, wd47]
end DL.Law

/-! T15: books as plain data; several books to meet -/
namespace DL.Law
open PySem L2 DL
theorem nmD_pl {n : Nat} {ns : List Str} (h : ∀ s ∈ ns, PyData.strOk s = true) (k : Nat) : Pl n (nmD ns k) = true := by
  have : PyData.strOk (ns.getD k ⟨#[]⟩) = true := by
    by_cases hk : k < ns.length
    · rw [getD_lt _ _ _ hk]; exact h _ (List.getElem_mem _)
    · rw [List.getD_eq_getElem?_getD, List.getElem?_eq_none (by omega)]; decide +kernel
  cases n <;> simpa [nmD, Pl] using this
theorem pl_str {n : Nat} {s : Str} (h : PyData.strOk s = true) : Pl n (.str s) = true := by cases n <;> simpa [Pl] using h
theorem pl_int {n : Nat} {i : Int} : Pl n (.int i) = true := by cases n <;> rfl
theorem pl_ofS {n : Nat} {s : String} : Pl n (.str (Str.ofString s)) = true := pl_str (strOk_ofS s)
theorem Fm.toD_pl {hn pn : List Str} (hh : ∀ s ∈ hn, PyData.strOk s = true) (hp : ∀ s ∈ pn, PyData.strOk s = true) {f : Fm} (hw : ∀ w b, f = .ring w b → PyData.strOk w = true) : Pl 2 (f.toD hn pn) = true := by
  cases f with
  | raise l h b => simp [Fm.toD, Pl, Pls, strOk_ofS, nmD_pl hh l]
  | hold b => simp [Fm.toD, Pl, Pls, strOk_ofS]
  | ring w b => simp [Fm.toD, Pl, Pls, strOk_ofS, hw w b rfl]
  | row ks => simp [Fm.toD, Pl, Pls, strOk_ofS, Pls_map (n := 0) fun k (_ : k ∈ ks) => nmD_pl hp k]
  | side ks => simp [Fm.toD, Pl, Pls, strOk_ofS, Pls_map (n := 0) fun k (_ : k ∈ ks) => nmD_pl hp k]
  | again n k => simp [Fm.toD, Pl, Pls, strOk_ofS, nmD_pl hp k]
theorem Bk.S.pl5 {b : Bk} (S : b.S) : Pl 5 b.toD = true := by
  have hh : ∀ s ∈ b.hn, PyData.strOk s = true := fun s m => S.so s (List.mem_append_left _ m)
  have hp : ∀ s ∈ b.pn, PyData.strOk s = true := fun s m => S.so s (List.mem_append_right _ m)
  have h1 : Pls 3 (b.hs.map limbD) = true := Pls_map fun l m => by
    have := hh l.1 (List.mem_map.mpr ⟨l, m, rfl⟩)
    simp [limbD, Pl, Pls, this]
  have h2 : Pls 3 (b.ps.map (partD b.hn b.pn)) = true := Pls_map fun p m => by
    have h := hp p.1 (List.mem_map.mpr ⟨p, m, rfl⟩)
    obtain ⟨i, hi, e⟩ := List.getElem_of_mem m
    obtain ⟨acc, hs, _⟩ := S.form (k := i) (p := p) (by rw [List.getElem?_eq_getElem hi, e])
    simp [partD, Pl, Pls, h, Fm.toD_pl hh hp fun w b e => (hs.ring w b e).2]
  simp [Bk.toD, Pl, Pls, h1, h2]
/-- books and words, of which each is rung at times x, played for ever -/
def sol (bs : List (Bk × Str)) (x : Int) : Bool := bs.all fun p => decide (p.2 ∈ wd p.1.play (x % p.1.L))
structure GB (p : Bk × Str) : Prop where
  S : p.1.S
  w : PyData.strOk p.2 = true
  few : p.1.rung p.2 p.1.L ≤ 12
def prodB : List (Bk × Str) → Int
  | [] => 1
  | p :: r => p.1.L * prodB r
theorem items_ok : ∀ (bs : List (Bk × Str)), (∀ p ∈ bs, GB p ∧ p.1.L < 10 ^ 50) → ∃ ts : List Item, ts.length = bs.length ∧ ts.map (·.book) = bs.map (fun p => p.1.toD) ∧ ts.map (·.word) = bs.map (fun p => .str p.2) ∧ prodL ts = prodB bs ∧ (∀ t ∈ ts, t.Ok ∧ t.L < 10 ^ 50) ∧ (∀ x, Sol ts x ↔ sol bs x = true) ∧ (∀ n, prodL (ts.take n) = prodB (bs.take n))
  | [], _ => ⟨[], rfl, rfl, rfl, rfl, by simp, fun x => by simp [Sol, sol], by simp [prodL, prodB]⟩
  | p :: bs, h => by
    obtain ⟨ts, h1, h2, h3, h4, h5, h6, h7⟩ := items_ok bs fun q m => h q (List.mem_cons_of_mem _ m)
    obtain ⟨g, hL⟩ := h p (by simp)
    obtain ⟨t, t1, t2, t3, t4, t5⟩ := item_ok p.1 g.S p.2 g.w g.few
    refine ⟨t :: ts, by simp [h1], by simp [h2, t2], by simp [h3, t3], by simp [prodL, prodB, h4, t4], ?_, ?_, ?_⟩
    · intro u m
      rcases List.mem_cons.mp m with rfl | m
      · exact ⟨t1, by rw [t4]; exact hL⟩
      · exact h5 u m
    · intro x
      have hp := g.S.lpos
      have e : (∃ b ∈ t.bs, t.L ∣ x - b) ↔ p.2 ∈ wd p.1.play (x % p.1.L) := by
        rw [t4]
        have m0 := Int.emod_nonneg x (show p.1.L ≠ 0 by omega)
        have m1 := Int.emod_lt_of_pos x (show 0 < p.1.L by omega)
        constructor
        · rintro ⟨b, hb, hd⟩
          obtain ⟨b0, b1, b2⟩ := (t5 b).mp hb
          have : x % p.1.L = b := by
            have e1 := Int.emod_emod_of_dvd x (Int.dvd_refl p.1.L)
            have e2 := Int.emod_eq_emod_iff_emod_sub_eq_zero.mpr (Int.emod_eq_zero_of_dvd hd)
            rw [e2]
            exact Int.emod_eq_of_lt b0 b1
          rw [this]; exact b2
        · intro hw
          refine ⟨x % p.1.L, (t5 _).mpr ⟨m0, m1, hw⟩, ?_⟩
          exact ⟨x / p.1.L, by have := Int.emod_add_mul_ediv x p.1.L; omega⟩
      have e0 : sol (p :: bs) x = (decide (p.2 ∈ wd p.1.play (x % p.1.L)) && sol bs x) := rfl
      rw [e0, Bool.and_eq_true, decide_eq_true_eq, ← e, ← h6]
      constructor
      · intro hs
        exact ⟨hs t (by simp), fun u m => hs u (List.mem_cons_of_mem _ m)⟩
      · rintro ⟨a, b⟩ u m
        rcases List.mem_cons.mp m with rfl | m
        · exact a
        · exact b u m
    · intro n
      cases n with
      | zero => rfl
      | succ n => simp [prodL, prodB, h7, t4]
theorem meeting_ok (bs : List (Bk × Str)) (beat : Int) (hb : ∀ p ∈ bs, GB p ∧ p.1.L < 10 ^ 50) (hl : bs.length ≤ 3) (hp : ∀ n < bs.length, prodB (bs.take n) < 10 ^ 50) (hq : prodB bs < 10 ^ 60) (h0 : 0 ≤ beat) (h1 : beat < 10 ^ 62) :
    ∃ res : Option Int, m_meeting [.dat (.lst (bs.map fun p => p.1.toD)), .dat (.lst (bs.map fun p => .str p.2)), .dat (.int beat)] = .ok (.dat (oDI res)) [none, none, none] ∧
      (res = none → ∀ x, sol bs x = false) ∧ ∀ h, res = some h → beat ≤ h ∧ h < beat + prodB bs ∧ sol bs h = true ∧ ∀ x, beat ≤ x → sol bs x = true → h ≤ x := by
  obtain ⟨ts, t1, t2, t3, t4, t5, t6, t7⟩ := items_ok bs hb
  obtain ⟨res, r1, r2, r3⟩ := meet_all ts beat t5 (by omega) (fun a b t e => by
    have : a = ts.take a.length := by rw [e]; simp
    rw [this, t7]
    exact hp _ (by rw [← t1, e]; simp)) (by rw [t4]; exact hq) h0 h1
  rw [t2, t3] at r1
  refine ⟨res, r1, fun e x => ?_, fun h e => ?_⟩
  · have := r2 e x
    rw [t6] at this
    simpa using this
  · obtain ⟨a, b, c, d⟩ := r3 h e
    rw [t4] at b
    exact ⟨a, b, (t6 h).mp c, fun x hx hs => d x hx ((t6 x).mpr hs)⟩
end DL.Law

namespace DL.Law
open PySem L2 DL
theorem app1 {α : Type} (l : List α) (a : α) (m : List α) : l ++ a :: m = l ++ [a] ++ m := by simp
theorem mulOk_r {i j : Int} (h : j.natAbs < 2 ^ 64) : mulOk i j = true := by
  unfold mulOk
  simp only [Bool.or_eq_true, decide_eq_true_eq]
  exact .inl (.inr h)
theorem small_loop (c : Int) (hc : 0 ≤ c) : ∀ (ks : List Nat) (ps ns : List D) (long : Int) (x4 x5 x6 x7 : Option D), (∀ k ∈ ks, k < 5) → ps.length + ks.length ≤ 100 → ns.length + ks.length ≤ 100 → ∃ x4' x5' x6' x7', loopD (gN 4) L_x_law_small_1 (ks.map fun k => .int (k : Nat)) [some (.dat (.int c)), some (.own (.lf (.lst ps))), some (.own (.lf (.lst ns))), some (.dat (.int long)), oD x4, oD x5, oD x6, oD x7] =
    .ok .nx [some (.dat (.int c)), some (.own (.lf (.lst (ps ++ ks.map fun k => partD ["arm"] [] (nm8 k, fm47 c k))))), some (.own (.lf (.lst (ns ++ ks.map fun k => .str (nm8 k))))), some (.dat (.int (long + (ks.map (bt47 c)).sum))), oD x4', oD x5', oD x6', oD x7']
  | [], ps, ns, long, x4, x5, x6, x7, _, _, _ => ⟨x4, x5, x6, x7, by simp⟩
  | k :: ks, ps, ns, long, x4, x5, x6, x7, hk, hp, hn => by
    simp only [List.length_cons] at hp hn
    obtain ⟨y5, y6, y7, h⟩ := small_step c k (hk k (by simp)) ps ns long x5 x6 x7 hc (by omega) (by omega)
    obtain ⟨x4', x5', x6', x7', ih⟩ := small_loop c hc ks (ps ++ [partD ["arm"] [] (nm8 k, fm47 c k)]) (ns ++ [.str (nm8 k)]) (long + bt47 c k) (some (.int (k : Nat))) y5 y6 y7 (fun j m => hk j (List.mem_cons_of_mem _ m)) (by simp; omega) (by simp; omega)
    refine ⟨x4', x5', x6', x7', ?_⟩
    rw [List.map_cons, List.map_cons, List.map_cons, List.map_cons, List.sum_cons, app1 ps, app1 ns, ← Int.add_assoc, ← ih]
    simp only [loop_cons, gN_ap]
    simp [h]
theorem leafD (c : Int) (k : Nat) (pn : List Str) : (fm47 c k).toD ["arm"] pn = (fm47 c k).toD ["arm"] [] := by
  unfold fm47
  split
  · rfl
  · split <;> rfl
theorem bk47_D (c : Int) : (bk47 c).toD = .tup [.lst [.tup [.str "arm", .int 1]], .lst ((List.range (n47 c)).map (fun k => partD ["arm"] [] (nm8 k, fm47 c k)) ++ [.tup [.str "play", .tup [.str "row", .tup ((List.range (n47 c)).map fun k => .str (nm8 k))]]])] := by
  have e1 : (bk47 c).hn = [("arm" : Str)] := rfl
  rw [Bk.toD, e1]
  have e2 : (bk47 c).ps = (List.range (n47 c)).map (fun k => (nm8 k, fm47 c k)) ++ [(("play" : Str), Fm.row (List.range (n47 c)))] := rfl
  have h1 : ((List.range (n47 c)).map (fun k => (nm8 k, fm47 c k))).map (partD [("arm" : Str)] (bk47 c).pn) = (List.range (n47 c)).map (fun k => partD [("arm" : Str)] [] (nm8 k, fm47 c k)) := by
    rw [List.map_map]
    exact List.map_congr_left fun k _ => by simp only [Function.comp, partD, leafD]
  have h2 : (List.range (n47 c)).map (nmD (bk47 c).pn) = (List.range (n47 c)).map fun k => D.str (nm8 k) := by
    refine List.map_congr_left fun k m => ?_
    have hk := List.mem_range.mp m
    rw [nmD, pn47, List.getD_eq_getElem?_getD, List.getElem?_append_left (by simpa using hk), List.getElem?_map, List.getElem?_range hk]
    rfl
  rw [e2, List.map_append, h1, List.map_cons, List.map_nil, partD, Fm.toD, h2]
  rfl
theorem small_ok (c : Int) (hc : 0 ≤ c) : m_x_law_small [.dat (.int c)] = .ok (.dat (.tup [(bk47 c).toD, .int (bk47 c).L])) [none] := by
  unfold m_x_law_small b_x_law_small
  rw [fnD_ap _ _ _ _ rfl]
  have hn := n47_le c
  obtain ⟨x4, x5, x6, x7, h⟩ := small_loop c hc (List.range (n47 c)) [] [] 0 none none none none (fun k m => by have := List.mem_range.mp m; omega) (by simp; omega) (by simp; omega)
  have hr := fun e => rRng_n (n47 c) (by omega) e
  rw [n47_eq] at hr
  simp only [oD_none, List.nil_append, Int.zero_add] at h
  have hz : ((List.range (n47 c)).map fun k => partD ["arm"] [] (nm8 k, fm47 c k)).length < sizeLine := by have := sizeLine_eq; simp; omega
  have hz2 : n47 c < sizeLine := by have := sizeLine_eq; omega
  rw [bk47_D, L47]
  simp [-rRng_1, hr, h, hz2]
/-! the first one -/
structure G47 (p : Bk × Str) : Prop where
  S : p.1.S
  w : PyData.strOk p.2 = true
  L : p.1.L ≤ 20
def seenD (p : Bk × Str) : D := .lst ((List.range p.1.L.toNat).map fun x => .bl (decide (p.2 ∈ wd p.1.play (x : Nat))))
theorem seen_comp (bs : List (Bk × Str)) (hb : ∀ p ∈ bs, G47 p) (hl : bs.length ≤ 10) (k : Nat) (p : Bk × Str) (hp : bs[k]? = some p) (beat : D) (acc : D) (x5 : Int) (sn : List D) :
    eLc [7] (iRange (aCons (eBin opIx (eVar 2) (eVar 6)) aNil)) (gN 7) bYes C_x_law_first_1 [some (.dat (.lst (bs.map fun p => p.1.toD))), some (.dat (.lst (bs.map fun p => .str p.2))), some (.dat (.lst (bs.map fun p => .int p.1.L))), some (.dat beat), some (.own (.lf (.lst sn))), some (.dat (.int x5)), some (.dat (.int (k : Nat))), none] =
    .ok ((List.range p.1.L.toNat).map fun x => .bl (decide (p.2 ∈ wd p.1.play (x : Nat)))) [some (.dat (.lst (bs.map fun p => p.1.toD))), some (.dat (.lst (bs.map fun p => .str p.2))), some (.dat (.lst (bs.map fun p => .int p.1.L))), some (.dat beat), some (.own (.lf (.lst sn))), some (.dat (.int x5)), some (.dat (.int (k : Nat))), none] := by
  have g := hb p (List.mem_of_getElem? hp)
  have hL := g.S.lpos
  have hL2 := g.L
  have hr := fun e => rRng_n p.1.L.toNat (by omega) e
  rw [show ((p.1.L.toNat : Nat) : Int) = p.1.L by omega] at hr
  refine eLc_n (List.range p.1.L.toNat) (fun x => .int (x : Nat)) (fun x => .bl (decide (p.2 ∈ wd p.1.play (x : Nat)))) ?_ rfl (fun x m => ?_) (by simp; omega)
  · simp [-rRng_1, hr, atI_nat, hp]
  · have hx := List.mem_range.mp m
    have h1 := rings_ever_ok p.1 g.S (x : Nat) (by omega)
    have h2 := rings_in p.1 g.S p.2 g.w ((x : Nat) % p.1.L)
    rw [Int.emod_eq_of_lt (by omega) (by omega)] at h1 h2
    rw [rings_lt p.1 (x := (x : Nat)) (by omega)] at h1 h2
    simp [C_x_law_first_1, atI_nat, hp, h1, h2]
theorem seen_loop (bs : List (Bk × Str)) (hb : ∀ p ∈ bs, G47 p) (hl : bs.length ≤ 10) (beat : D) : ∀ (post pre : List (Bk × Str)) (x6 : Option D), pre ++ post = bs → 
    ∃ x6', loopD (gN 6) L_x_law_first_2 ((List.range' pre.length post.length).map fun k => .int (k : Nat)) [some (.dat (.lst (bs.map fun p => p.1.toD))), some (.dat (.lst (bs.map fun p => .str p.2))), some (.dat (.lst (bs.map fun p => .int p.1.L))), some (.dat beat), some (.own (.lf (.lst (pre.map seenD)))), some (.dat (.int (prodB pre))), oD x6, none] =
    .ok .nx [some (.dat (.lst (bs.map fun p => p.1.toD))), some (.dat (.lst (bs.map fun p => .str p.2))), some (.dat (.lst (bs.map fun p => .int p.1.L))), some (.dat beat), some (.own (.lf (.lst (bs.map seenD)))), some (.dat (.int (prodB bs))), oD x6', none]
  | [], pre, x6, e => ⟨x6, by rw [List.append_nil] at e; subst e; simp⟩
  | p :: post, pre, x6, e => by
    have hpl : pre.length ≤ 10 := by rw [← e] at hl; simp at hl; omega
    have hz : pre.length < sizeLine := by have := sizeLine_eq; omega
    have hk : bs[pre.length]? = some p := by rw [← e]; simp
    have hc := seen_comp bs hb hl pre.length p hk beat (.lst (pre.map seenD)) (prodB pre) (pre.map seenD)
    have g := hb p (List.mem_of_getElem? hk)
    have hm : mulOk (prodB pre) p.1.L = true := by
      have := g.L; have := g.S.lpos
      exact mulOk_r (by omega)
    have hpr : prodB (pre ++ [p]) = prodB pre * p.1.L := by
      have : ∀ l : List (Bk × Str), prodB (l ++ [p]) = prodB l * p.1.L := by
        intro l
        induction l with
        | nil => simp [prodB]
        | cons q l ih => rw [List.cons_append, prodB, ih, prodB, Int.mul_assoc]
      exact this pre
    obtain ⟨x6', ih⟩ := seen_loop bs hb hl beat post (pre ++ [p]) (some (.int (pre.length : Nat))) (by rw [← e]; simp)
    refine ⟨x6', ?_⟩
    rw [List.length_append, List.length_cons, List.length_nil, hpr] at ih
    rw [List.length_cons, List.range'_succ, List.map_cons, ← ih]
    simp only [loop_cons, gN_ap]
    simp [-eLc_ap, L_x_law_first_2, hc, hz, atI_nat, hk, hm, seenD]
end DL.Law

namespace DL.Law
open PySem L2 DL
def solAt (bs : List (Bk × Str)) (x : Int) (k : Nat) : Bool := match bs[k]? with
  | some p => decide (p.2 ∈ wd p.1.play (x % p.1.L))
  | none => true
theorem sol_all (bs : List (Bk × Str)) (x : Int) : (List.range bs.length).all (solAt bs x) = sol bs x := by
  rw [Bool.eq_iff_iff, List.all_eq_true, sol, List.all_eq_true]
  constructor
  · intro h p m
    obtain ⟨i, hi, e⟩ := List.getElem_of_mem m
    have := h i (List.mem_range.mpr hi)
    simp only [solAt, List.getElem?_eq_getElem hi, e] at this
    exact this
  · intro h k m
    have hk := List.mem_range.mp m
    simp only [solAt, List.getElem?_eq_getElem hk]
    exact h _ (List.getElem_mem _)
section
variable (bs : List (Bk × Str)) (hb : ∀ p ∈ bs, G47 p) (hl : bs.length ≤ 10)
abbrev fE (beat : D) (whole : Int) (x6 x7 : Option D) : Slots := [some (.dat (.lst (bs.map fun p => p.1.toD))), some (.dat (.lst (bs.map fun p => .str p.2))), some (.dat (.lst (bs.map fun p => .int p.1.L))), some (.dat beat), some (.own (.lf (.lst (bs.map seenD)))), some (.dat (.int whole)), oD x6, oD x7]
include hb hl in
theorem all_comp (beat : D) (whole : Int) (x6 : Option D) (x : Int) (hx : 0 ≤ x) : eLc [6] (iRange (aCons (eCallB opLen (aCons (eVar 0) aNil)) aNil)) (gN 6) bYes C_x_law_first_3 (fE bs beat whole x6 (some (.int x))) =
    .ok ((List.range bs.length).map fun k => .bl (solAt bs x k)) (fE bs beat whole x6 (some (.int x))) := by
  have hr := fun e => rRng_n bs.length (by omega) e
  refine eLc_nx (List.range bs.length) (fun k => .int (k : Nat)) (fun k => .bl (solAt bs x k)) (by simp [-rRng_1, hr]) x6 rfl (fun k m => ?_) (by simp; omega)
  have hk := List.mem_range.mp m
  obtain ⟨p, hp⟩ : ∃ p, bs[k]? = some p := ⟨_, List.getElem?_eq_getElem hk⟩
  have g := hb p (List.mem_of_getElem? hp)
  have hL := g.S.lpos
  have hL2 := g.L
  have m0 := Int.emod_nonneg x (show p.1.L ≠ 0 by omega)
  have m1 := Int.emod_lt_of_pos x (show 0 < p.1.L by omega)
  have hix : opIx (seenD p) (.int (x % p.1.L)) = some (.bl (decide (p.2 ∈ wd p.1.play (x % p.1.L)))) := by
    have e : x % p.1.L = (((x % p.1.L).toNat : Nat) : Int) := by omega
    rw [seenD, opIx_l, e, atI_nat, List.getElem?_map, List.getElem?_range (by omega)]
    simp [← e]
  have hs : solAt bs x k = decide (p.2 ∈ wd p.1.play (x % p.1.L)) := by simp only [solAt, hp]
  have h0 : 0 < p.1.L := by omega
  rw [hs]
  simp [C_x_law_first_3, atI_nat, hp, hix, h0]
include hb hl in
theorem search (beat : Int) (whole : Int) (h0 : 0 ≤ beat) : ∀ (l : List Nat) (x6 x7 : Option D), ∃ x6' x7', loopD (gN 7) L_x_law_first_4 (l.map fun i => .int (beat + (i : Nat))) (fE bs (.int beat) whole x6 x7) =
    match l.find? fun i => sol bs (beat + (i : Nat)) with
    | some i => .ok (.rt (.dat (.int (beat + (i : Nat))))) (fE bs (.int beat) whole x6' x7')
    | none => .ok .nx (fE bs (.int beat) whole x6' x7')
  | [], x6, x7 => ⟨x6, x7, by simp⟩
  | i :: l, x6, x7 => by
    have hc := all_comp bs hb hl (.int beat) whole x6 (beat + (i : Nat)) (by omega)
    have ha := opAll_map (solAt bs (beat + (i : Nat))) (List.range bs.length)
    rw [sol_all] at ha
    rw [List.map_cons, List.find?_cons]
    by_cases hs : sol bs (beat + (i : Nat)) = true
    · refine ⟨x6, some (.int (beat + (i : Nat))), ?_⟩
      simp only [hs]
      simp only [fE, oD_some] at hc ⊢
      simp [-eLc_ap, L_x_law_first_4, hc, ha, hs]
    · have hs' : sol bs (beat + (i : Nat)) = false := by simpa using hs
      obtain ⟨x6', x7', ih⟩ := search beat whole h0 l x6 (some (.int (beat + (i : Nat))))
      refine ⟨x6', x7', ?_⟩
      simp only [hs']
      rw [← ih]
      simp only [fE, oD_some] at hc ⊢
      simp [-eLc_ap, L_x_law_first_4, hc, ha, hs']
def firstOf (beat : Int) : Option Int := ((List.range (prodB bs).toNat).find? fun i => sol bs (beat + (i : Nat))).map fun i => beat + (i : Nat)
include hb hl in
theorem first_ok (beat : Int) (h0 : 0 ≤ beat) (h1 : beat ≤ 10 ^ 15) (h2 : prodB bs ≤ 10 ^ 15) (h3 : 0 ≤ prodB bs) : m_x_law_first [.dat (.lst (bs.map fun p => p.1.toD)), .dat (.lst (bs.map fun p => .str p.2)), .dat (.lst (bs.map fun p => .int p.1.L)), .dat (.int beat)] = .ok (.dat (oDI (firstOf bs beat))) [none, none, none, none] := by
  unfold m_x_law_first b_x_law_first
  rw [fnD_ap _ _ _ _ rfl]
  have hr := fun e => rRng_n bs.length (by omega) e
  obtain ⟨x6, hseen⟩ := seen_loop bs hb hl (.int beat) bs [] none rfl
  obtain ⟨x6', x7', hs⟩ := search bs hb hl beat (prodB bs) h0 (List.range (prodB bs).toNat) x6 none
  have hr2 := fun e => rRng2_nn beat (beat + prodB bs) (by unfold smallI; omega) (by unfold smallI; omega) e
  have hrd : rangeD beat (beat + prodB bs) = (List.range (prodB bs).toNat).map fun i => .int (beat + (i : Nat)) := by
    unfold rangeD
    rw [show beat + prodB bs - beat = prodB bs by omega]
  have e0 : List.range' ([] : List (Bk × Str)).length bs.length = List.range bs.length := by rw [List.length_nil, List.range_eq_range']
  have e1 : prodB [] = 1 := rfl
  rw [e0, e1] at hseen
  simp only [List.map_nil, oD_none] at hseen
  simp only [fE, oD_none] at hs
  unfold firstOf
  cases hf : (List.range (prodB bs).toNat).find? fun i => sol bs (beat + (i : Nat)) with
  | none =>
    rw [hf] at hs
    simp [-rRng_1, hr, hseen, iRange2_ap, hr2, hrd, hs, oDI]
  | some i =>
    rw [hf] at hs
    simp [-rRng_1, hr, hseen, iRange2_ap, hr2, hrd, hs, oDI]
end
/-- what is found is the first one -/
theorem first_meet (bs : List (Bk × Str)) (beat : Int) (res : Option Int) (h0 : res = none → ∀ x, sol bs x = false) (h1 : ∀ h, res = some h → beat ≤ h ∧ h < beat + prodB bs ∧ sol bs h = true ∧ ∀ x, beat ≤ x → sol bs x = true → h ≤ x) : firstOf bs beat = res := by
  unfold firstOf
  cases hf : (List.range (prodB bs).toNat).find? fun i => sol bs (beat + (i : Nat)) with
  | none =>
    cases res with
    | none => rfl
    | some h =>
      obtain ⟨a, b, c, _⟩ := h1 h rfl
      rw [List.find?_eq_none] at hf
      have := hf (h - beat).toNat (List.mem_range.mpr (by omega))
      rw [show beat + ((h - beat).toNat : Nat) = h by omega] at this
      exact absurd c (by simpa using this)
  | some i =>
    have hs := List.find?_some hf
    cases res with
    | none => rw [h0 rfl] at hs; cases hs
    | some h =>
      obtain ⟨a, b, c, d⟩ := h1 h rfl
      have := d (beat + (i : Nat)) (by omega) hs
      obtain ⟨_, as, cs, e, hn⟩ := List.find?_eq_some_iff_append.mp hf
      congr 1
      by_cases hlt : h < beat + (i : Nat)
      · have hm : (h - beat).toNat ∈ as := by
          have hi : i = as.length := by
            have := congrArg (fun l => l[as.length]?) e
            simp at this
            rw [List.getElem?_range] at this
            · simpa using this.symm
            · have := congrArg List.length e
              simp at this; omega
          have : as = List.range as.length := by
            have := congrArg (fun l => l.take as.length) e
            simp [List.take_range] at this
            have hle := congrArg List.length e
            simp at hle
            rw [show min as.length (prodB bs).toNat = as.length by omega] at this
            exact this.symm
          rw [this, List.mem_range]; omega
        have := hn _ hm
        rw [show beat + ((h - beat).toNat : Nat) = h by omega, c] at this
        cases this
      · simp; omega
end DL.Law

namespace DL.Law
open PySem L2 DL
def pair47 (ns : List Int) (k : Nat) : Bk × Str := (bk47 (ns.getD (1 + k) 0 % 10 ^ 9), wd47 (ns.getD (4 + k) 0 % 2))
theorem cnt_leaf (w : Str) (c : Int) (k : Nat) : rc w (tr47 c k) ≤ 1 := by
  unfold tr47
  split
  · simp [rc]
  · split
    · simp [rc]
    · simp only [rc]; split <;> omega
theorem rcs_le {w : Str} {c : Int} : ∀ (ts : List Tr), (∀ t ∈ ts, rc w t ≤ c) → rcs w ts ≤ ts.length * c
  | [], _ => by simp [rcs]
  | t :: ts, h => by
    have := rcs_le ts fun x m => h x (List.mem_cons_of_mem _ m)
    have := h t (by simp)
    rw [rcs, List.length_cons, Int.natCast_add, Int.add_mul]
    omega
theorem rung_L (b : Bk) (S : b.S) (w : Str) : b.rung w b.L = rc w b.play := by
  rw [Bk.rung, rc_sm w _ S.play_S]; rfl
theorem g47 (ns : List Int) (k : Nat) : G47 (pair47 ns k) ∧ GB (pair47 ns k) ∧ (pair47 ns k).1.L ≤ 20 := by
  have hL := L47_le (ns.getD (1 + k) 0 % 10 ^ 9)
  refine ⟨⟨S47 _, wd47_ok _, hL.2⟩, ⟨S47 _, wd47_ok _, ?_⟩, hL.2⟩
  have hn := n47_le (ns.getD (1 + k) 0 % 10 ^ 9)
  show (bk47 (ns.getD (1 + k) 0 % 10 ^ 9)).rung (pair47 ns k).2 (bk47 (ns.getD (1 + k) 0 % 10 ^ 9)).L ≤ 12
  rw [rung_L _ (S47 _), play47, rc]
  have := rcs_le (w := (pair47 ns k).2) (c := 1) ((List.range (n47 (ns.getD (1 + k) 0 % 10 ^ 9))).map (tr47 (ns.getD (1 + k) 0 % 10 ^ 9))) fun t m => by
    obtain ⟨j, _, rfl⟩ := List.mem_map.mp m
    exact cnt_leaf _ _ _
  simp only [List.length_map, List.length_range, Int.mul_one] at this
  omega
def bs47 (ns : List Int) (n : Nat) : List (Bk × Str) := (List.range n).map (pair47 ns)
theorem prod_le : ∀ (bs : List (Bk × Str)), (∀ p ∈ bs, 1 ≤ p.1.L ∧ p.1.L ≤ 20) → 1 ≤ prodB bs ∧ prodB bs ≤ 20 ^ bs.length
  | [], _ => by simp [prodB]
  | p :: bs, h => by
    obtain ⟨h1, h2⟩ := prod_le bs fun q m => h q (List.mem_cons_of_mem _ m)
    obtain ⟨h3, h4⟩ := h p (by simp)
    refine ⟨mul_ge_one h3 h1, ?_⟩
    rw [prodB, List.length_cons, Int.pow_succ, Int.mul_comm]
    exact Int.mul_le_mul h2 h4 (by omega) (Int.pow_nonneg (by omega))
theorem pow20 : ∀ n : Nat, n ≤ 3 → (20 : Int) ^ n ≤ 8000
  | 0, _ => by decide
  | 1, _ => by decide
  | 2, _ => by decide
  | 3, _ => by decide
  | n + 4, h => by omega
theorem meet47 (bs : List (Bk × Str)) (hg : ∀ p ∈ bs, GB p ∧ 1 ≤ p.1.L ∧ p.1.L ≤ 20) (hl : bs.length ≤ 3) (beat : Int) (h0 : 0 ≤ beat) (h1 : beat ≤ 100) :
    ∃ res : Option Int, m_meeting [.dat (.lst (bs.map fun p => p.1.toD)), .dat (.lst (bs.map fun p => .str p.2)), .dat (.int beat)] = .ok (.dat (oDI res)) [none, none, none] ∧
      (res = none → ∀ x, sol bs x = false) ∧ ∀ h, res = some h → beat ≤ h ∧ h < beat + prodB bs ∧ sol bs h = true ∧ ∀ x, beat ≤ x → sol bs x = true → h ≤ x := by
  have key : ∀ l : List (Bk × Str), (∀ p ∈ l, 1 ≤ p.1.L ∧ p.1.L ≤ 20) → l.length ≤ 3 → prodB l ≤ 8000 := fun l h hl => by
    have := (prod_le l h).2
    have h2 := pow20 l.length hl
    omega
  refine meeting_ok bs beat (fun p m => ⟨(hg p m).1, by have := (hg p m).2; omega⟩) hl (fun n hn => ?_) ?_ h0 (by omega)
  · have := key (bs.take n) (fun p m => (hg p (List.mem_of_mem_take m)).2) (by simp; omega)
    omega
  · have := key bs (fun p m => (hg p m).2) hl
    omega
section
variable (ns : List Int)
theorem law_step1 (n : Nat) (hn : n ≤ 3) (k : Nat) (hk : k < n) (x5 x6 : Option D) (bs ws : List D) (ls : List D) (hb : bs.length ≤ 10) (hl : ls.length ≤ 10) (hw : ws.length ≤ 10) :
    ∃ x5' x6', L_law_1 [some (.dat (.scr ns)), some (.own (.lf (.lst bs))), some (.own (.lf (.lst ls))), some (.own (.lf (.lst ws))), some (.dat (.int (k : Nat))), oD x5, oD x6, none, none, none, none, none, none] =
    .ok .nx [some (.dat (.scr ns)), some (.own (.lf (.lst (bs ++ [(pair47 ns k).1.toD])))), some (.own (.lf (.lst (ls ++ [.int (pair47 ns k).1.L])))), some (.own (.lf (.lst (ws ++ [.str (pair47 ns k).2])))), some (.dat (.int (k : Nat))), oD x5', oD x6', none, none, none, none, none, none] := by
  have z1 : bs.length < sizeLine := by have := sizeLine_eq; omega
  have z2 : ls.length < sizeLine := by have := sizeLine_eq; omega
  have z3 : ws.length < sizeLine := by have := sizeLine_eq; omega
  have c1 := cell_at ns (1 + k)
  have c4 := cell_at ns (4 + k)
  rw [show ((1 + k : Nat) : Int) = 1 + (k : Int) by omega] at c1
  rw [show ((4 + k : Nat) : Int) = 4 + (k : Int) by omega] at c4
  have hs := small_ok (ns.getD (1 + k) 0 % 10 ^ 9) (Int.emod_nonneg _ (by decide))
  have hp : (10 : Int) ^ (9 : Int).toNat = 1000000000 := by decide
  have hp2 : (10 : Int) ^ 9 = 1000000000 := by decide
  rw [hp2] at hs
  have e1 : (pair47 ns k).1 = bk47 (ns.getD (1 + k) 0 % 1000000000) := rfl
  have e2 : (pair47 ns k).2 = wd47 (ns.getD (4 + k) 0 % 2) := rfl
  refine ⟨some (bk47 (ns.getD (1 + k) 0 % 1000000000)).toD, some (.int (bk47 (ns.getD (1 + k) 0 % 1000000000)).L), ?_⟩
  rw [e1, e2]
  generalize bk47 (ns.getD (1 + k) 0 % 1000000000) = B at *
  generalize ns.getD (1 + k) 0 = y1 at *
  generalize ns.getD (4 + k) 0 = y4 at *
  have h2 : y4 % 2 = 0 ∨ y4 % 2 = 1 := by omega
  rcases h2 with h2 | h2 <;> simp [L_law_1, c1, c4, hs, hp, z1, z2, z3, h2, wd47]
theorem law_loop1 (n : Nat) (hn : n ≤ 3) : ∀ (m k : Nat) (x4 x5 x6 : Option D), k + m = n →
    ∃ x4' x5' x6', loopD (gN 4) L_law_1 ((List.range' k m).map fun k => .int (k : Nat)) [some (.dat (.scr ns)), some (.own (.lf (.lst ((bs47 ns k).map fun p => p.1.toD)))), some (.own (.lf (.lst ((bs47 ns k).map fun p => .int p.1.L)))), some (.own (.lf (.lst ((bs47 ns k).map fun p => .str p.2)))), oD x4, oD x5, oD x6, none, none, none, none, none, none] =
    .ok .nx [some (.dat (.scr ns)), some (.own (.lf (.lst ((bs47 ns n).map fun p => p.1.toD)))), some (.own (.lf (.lst ((bs47 ns n).map fun p => .int p.1.L)))), some (.own (.lf (.lst ((bs47 ns n).map fun p => .str p.2)))), oD x4', oD x5', oD x6', none, none, none, none, none, none]
  | 0, k, x4, x5, x6, e => ⟨x4, x5, x6, by rw [Nat.add_zero] at e; subst e; simp⟩
  | m + 1, k, x4, x5, x6, e => by
    have hlen : (bs47 ns k).length = k := by simp [bs47]
    obtain ⟨y5, y6, h⟩ := law_step1 ns n hn k (by omega) x5 x6 ((bs47 ns k).map fun p => p.1.toD) ((bs47 ns k).map fun p => .str p.2) ((bs47 ns k).map fun p => .int p.1.L) (by simp [hlen]; omega) (by simp [hlen]; omega) (by simp [hlen]; omega)
    obtain ⟨x4', x5', x6', ih⟩ := law_loop1 n hn m (k + 1) (some (.int (k : Nat))) y5 y6 (by omega)
    refine ⟨x4', x5', x6', ?_⟩
    have e1 : bs47 ns (k + 1) = bs47 ns k ++ [pair47 ns k] := by simp [bs47, List.range_succ]
    rw [List.range'_succ, List.map_cons, ← ih, e1]
    simp only [loop_cons, gN_ap]
    simp [h]
end
def kp (own : Bool) (ds : List D) : SV := if own then .own (.lf (.lst ds)) else .dat (.lst ds)
theorem pl_books (ns : List Int) (n : Nat) : Pls 6 ((bs47 ns n).map fun p => p.1.toD) = true := Pls_map fun p m => by
  obtain ⟨k, _, rfl⟩ := List.mem_map.mp m
  exact Pl.mono (by omega) (g47 ns k).1.S.pl5
theorem pl_words (ns : List Int) (n : Nat) : Pls 6 ((bs47 ns n).map fun p => .str p.2) = true := Pls_map fun p m => by
  obtain ⟨k, _, rfl⟩ := List.mem_map.mp m
  exact pl_str (g47 ns k).1.w
theorem law_step2 (ns : List Int) (n : Nat) (hn : n ≤ 3) (own : Bool) (cell : Int) (x4 x5 x6 x8 x9 x10 x11 : Option D) : ∃ x8' x9' x10' x11', L_law_2 [some (.dat (.scr ns)), some (kp own ((bs47 ns n).map fun p => p.1.toD)), some (kp own ((bs47 ns n).map fun p => .int p.1.L)), some (kp own ((bs47 ns n).map fun p => .str p.2)), oD x4, oD x5, oD x6, some (.dat (.int cell)), oD x8, oD x9, oD x10, oD x11, none] =
    .ok .nx [some (.dat (.scr ns)), some (kp false ((bs47 ns n).map fun p => p.1.toD)), some (kp false ((bs47 ns n).map fun p => .int p.1.L)), some (kp false ((bs47 ns n).map fun p => .str p.2)), oD x4, oD x5, oD x6, some (.dat (.int cell)), oD x8', oD x9', oD x10', oD x11', none] := by
  have hlen : (bs47 ns n).length = n := by simp [bs47]
  have hmem : ∀ p ∈ bs47 ns n, ∃ k, p = pair47 ns k := fun p m => by
    obtain ⟨k, _, rfl⟩ := List.mem_map.mp m
    exact ⟨k, rfl⟩
  have hL : ∀ p ∈ bs47 ns n, 1 ≤ p.1.L ∧ p.1.L ≤ 20 := fun p m => by
    obtain ⟨k, rfl⟩ := hmem p m
    exact ⟨(g47 ns k).1.S.lpos, (g47 ns k).2.2⟩
  have hpr := prod_le (bs47 ns n) hL
  have hpr2 := pow20 (bs47 ns n).length (by omega)
  have hb0 : 0 ≤ cell % 51 := Int.emod_nonneg _ (by omega)
  have hb1 : cell % 51 < 51 := Int.emod_lt_of_pos _ (by omega)
  obtain ⟨res, hm, r0, r1⟩ := meet47 (bs47 ns n) (fun p m => by
    obtain ⟨k, rfl⟩ := hmem p m
    exact ⟨(g47 ns k).2.1, hL _ m⟩) (by omega) (cell % 51) hb0 (by omega)
  have hf := first_ok (bs47 ns n) (fun p m => by
    obtain ⟨k, rfl⟩ := hmem p m
    exact (g47 ns k).1) (by omega) (cell % 51) hb0 (by omega) (by omega) (by omega)
  rw [first_meet _ _ res r0 r1] at hf
  have hpl : Pl 8 (.lst [.lst ((bs47 ns n).map fun p => p.1.toD), .lst ((bs47 ns n).map fun p => .str p.2)]) = true := by
    simp [Pl, Pls, pl_books, pl_words]
  have hne := opNe_self hpl (by omega)
  generalize ((bs47 ns n).map fun p => p.1.toD) = BD at *
  generalize ((bs47 ns n).map fun p => D.str p.2) = WD at *
  generalize ((bs47 ns n).map fun p => D.int p.1.L) = LD at *
  refine ⟨some (.int (cell % 51)), some (.lst [.lst BD, .lst WD]), some (oDI res), some (oDI res), ?_⟩
  cases res with
  | none => cases own <;> simp [L_law_2, kp, hm, hf, hne, oDI]
  | some r => cases own <;> simp [L_law_2, kp, hm, hf, hne, oDI, tyD, isB]
theorem law_loop2 (ns : List Int) (n : Nat) (hn : n ≤ 3) (x4 x5 x6 : Option D) : ∀ (cs : List Int) (x7 x8 x9 x10 x11 : Option D), ∃ x7' x8' x9' x10' x11', loopD (gN 7) L_law_2 (cs.map D.int) [some (.dat (.scr ns)), some (kp false ((bs47 ns n).map fun p => p.1.toD)), some (kp false ((bs47 ns n).map fun p => .int p.1.L)), some (kp false ((bs47 ns n).map fun p => .str p.2)), oD x4, oD x5, oD x6, oD x7, oD x8, oD x9, oD x10, oD x11, none] =
    .ok .nx [some (.dat (.scr ns)), some (kp false ((bs47 ns n).map fun p => p.1.toD)), some (kp false ((bs47 ns n).map fun p => .int p.1.L)), some (kp false ((bs47 ns n).map fun p => .str p.2)), oD x4, oD x5, oD x6, oD x7', oD x8', oD x9', oD x10', oD x11', none]
  | [], x7, x8, x9, x10, x11 => ⟨x7, x8, x9, x10, x11, by simp⟩
  | c :: cs, x7, x8, x9, x10, x11 => by
    obtain ⟨y8, y9, y10, y11, h⟩ := law_step2 ns n hn false c x4 x5 x6 x8 x9 x10 x11
    obtain ⟨x7', x8', x9', x10', x11', ih⟩ := law_loop2 ns n hn x4 x5 x6 cs (some (.int c)) y8 y9 y10 y11
    refine ⟨x7', x8', x9', x10', x11', ?_⟩
    rw [List.map_cons, ← ih]
    simp only [loop_cons, gN_ap]
    simp [h]
theorem plain_law (ns : List Int) (hl : ns.length ≤ 63) : ∃ o, m_law [.dat (.scr ns)] = .ok (.dat (.bl true)) o := by
  refine ⟨[none], ?_⟩
  unfold m_law b_law
  rw [fnD_ap _ _ _ _ rfl]
  have c0 := cell_at ns 0
  obtain ⟨n, hn⟩ : ∃ n : Nat, (n : Int) = 2 + ns.getD 0 0 % 2 := ⟨(2 + ns.getD 0 0 % 2).toNat, by omega⟩
  have hn2 : 2 ≤ n ∧ n ≤ 3 := by omega
  have hr := fun e => rRng_n n (by omega) e
  rw [hn] at hr
  obtain ⟨x4, x5, x6, h1⟩ := law_loop1 ns n hn2.2 n 0 none none none (by omega)
  rw [← List.range_eq_range'] at h1
  obtain ⟨y8, y9, y10, y11, h2⟩ := law_step2 ns n hn2.2 true 0 x4 x5 x6 none none none none
  have h3' := law_loop2 ns n hn2.2 x4 x5 x6 ((ns.drop 7).take 2) (some (.int 0)) y8 y9 y10 y11
  obtain ⟨x7', x8', x9', x10', x11', h3⟩ := h3'
  have hsl : cutI ns (some 7) (some 9) = (ns.drop 7).take 2 := cutI_nn ns 7 9
  have hbs : ∃ r, bs47 ns n = pair47 ns 0 :: r := by
    refine ⟨(List.range' 1 (n - 1)).map (pair47 ns), ?_⟩
    unfold bs47
    rw [List.range_eq_range', show n = (n - 1) + 1 by omega, List.range'_succ, List.map_cons]
    simp
  obtain ⟨r, hbs⟩ := hbs
  have hr10 : r.length ≤ 10 := by
    have := congrArg List.length hbs
    simp [bs47] at this; omega
  rw [hbs] at h1 h2 h3
  have g := g47 ns 0
  have gl := g.1.S.lpos
  obtain ⟨res, hm, r0, r1⟩ := meet47 [pair47 ns 0] (fun p m => by
    simp at m; subst m; exact ⟨g.2.1, gl, g.2.2⟩) (by simp) 3 (by omega) (by omega)
  obtain ⟨res2, hm2, s0, s1⟩ := meet47 [pair47 ns 0, pair47 ns 0] (fun p m => by
    have : p = pair47 ns 0 := by simp at m; exact m
    subst this; exact ⟨g.2.1, gl, g.2.2⟩) (by simp) 3 (by omega) (by omega)
  have hsol : ∀ x, sol [pair47 ns 0, pair47 ns 0] x = sol [pair47 ns 0] x := fun x => by simp [sol]
  have hres : res2 = res := by
    cases res with
    | none =>
      cases res2 with
      | none => rfl
      | some h =>
        obtain ⟨_, _, c, _⟩ := s1 h rfl
        rw [hsol, r0 rfl] at c; cases c
    | some h =>
      obtain ⟨a, b, c, d⟩ := r1 h rfl
      cases res2 with
      | none => have := s0 rfl h; rw [hsol, c] at this; cases this
      | some h' =>
        obtain ⟨a', b', c', d'⟩ := s1 h' rfl
        have e1 := d h' a' (by rw [← hsol]; exact c')
        have e2 := d' h a (by rw [hsol]; exact c)
        congr 1; omega
  subst hres
  simp only [List.map_cons, List.map_nil] at h1 h2 h3 hm hm2
  have heq : opEq (oDI res2) (oDI res2) = some (.bl true) := opEq_self (n := 0) (by cases res2 <;> rfl) (by omega)
  have ht : ∀ (x : D) (l : List D), cutD (x :: l) none (some 1) = [x] := fun x l => by
    have := cutD_0n (x :: l) 1
    simpa using this
  have e0 : ∀ l : List D, bs47 ns 0 = [] := fun _ => rfl
  rw [show bs47 ns 0 = [] from rfl] at h1
  simp only [List.map_nil, oD_none, oD_some, kp, if_true, Bool.false_eq_true, if_false] at h1 h2 h3
  have hlen : ((ns.drop 7).take 2).length ≤ 2 := by simp; omega
  have hz : 1 + ((ns.drop 7).take 2).length ≤ sizeLine := by have := sizeLine_eq; omega
  have hadd : opAdd (.lst [.int 0]) (.lst (((ns.drop 7).take 2).map D.int)) = some (.lst (.int 0 :: ((ns.drop 7).take 2).map D.int)) := by
    show (if _ then _ else _) = _
    rw [if_pos (by simpa using hz)]; rfl
  generalize (ns.drop 7).take 2 = cs at *
  simp only [Int.natCast_zero] at c0
  generalize ns.getD 0 0 = y0 at *
  simp [-loop_cons, c0, -rRng_1, hr, h1, hsl, hadd]
  simp [h2, h3, hm, hm2, ht, heq]
end DL.Law

namespace DL.Law
open PySem L2 DL
def spLaw (K : PySem.W.Frag) : Sp := fun vs H Q _ => ∃ (a : Addr) (ns : List Int), vs = [.ref a] ∧ SqL K H a (ns.map V.int) ∧ ns.length ≤ 63 ∧ ∀ H', Q (.bl true) H'
theorem law_sp {K : PySem.W.Frag} {mg : Str → Option Value} (T : Fs K mg) {vs : List V} {H : Hp} {Q : VK} {E : XK} (h : spLaw K vs H Q E) : spD K T.kap m_law vs H Q E := by
  obtain ⟨a, ns, rfl, hS, hl, k⟩ := h
  exact sp_start hS (plain_law ns hl) k
theorem all_mk {l : PySem.W.OpenLaw} {w : World} {K : PySem.W.Frag} {h : Heap} {mg : Str → Option Value} {fa : Addr} (X : K.In h) (G : h.Ns mainGlobals mg) (hfa : mg "law" = some (.ref fa))
    {a_Rings : Addr}
    {a_Guide : Addr}
    {f_x_law_cell_at : Addr} {oc_x_law_cell_at kV_x_law_cell_at dc_x_law_cell_at pm_x_law_cell_at cd_x_law_cell_at ct_x_law_cell_at : Value} {od_x_law_cell_at an_x_law_cell_at : Option Addr} {sl_x_law_cell_at : Array (Option Value)}
    {f_x_law_small : Addr} {oc_x_law_small kV_x_law_small dc_x_law_small pm_x_law_small cd_x_law_small ct_x_law_small : Value} {od_x_law_small an_x_law_small : Option Addr} {sl_x_law_small : Array (Option Value)}
    {f_numbers_of : Addr} {oc_numbers_of kV_numbers_of dc_numbers_of pm_numbers_of cd_numbers_of ct_numbers_of : Value} {od_numbers_of an_numbers_of : Option Addr} {sl_numbers_of : Array (Option Value)}
    {f_named : Addr} {oc_named kV_named dc_named pm_named cd_named ct_named : Value} {od_named an_named : Option Addr} {sl_named : Array (Option Value)}
    {f_moved : Addr} {oc_moved kV_moved dc_moved pm_moved cd_moved ct_moved : Value} {od_moved an_moved : Option Addr} {sl_moved : Array (Option Value)}
    {f_look_at_side : Addr} {oc_look_at_side kV_look_at_side dc_look_at_side pm_look_at_side cd_look_at_side ct_look_at_side : Value} {od_look_at_side an_look_at_side : Option Addr} {sl_look_at_side : Array (Option Value)}
    {f_length_of : Addr} {oc_length_of kV_length_of dc_length_of pm_length_of cd_length_of ct_length_of : Value} {od_length_of an_length_of : Option Addr} {sl_length_of : Array (Option Value)}
    {f_lengths : Addr} {oc_lengths kV_lengths dc_lengths pm_lengths cd_lengths ct_lengths : Value} {od_lengths an_lengths : Option Addr} {sl_lengths : Array (Option Value)}
    {f_ends : Addr} {oc_ends kV_ends dc_ends pm_ends cd_ends ct_ends : Value} {od_ends an_ends : Option Addr} {sl_ends : Array (Option Value)}
    {f_Guide_init : Addr} {oc_Guide_init kV_Guide_init dc_Guide_init pm_Guide_init cd_Guide_init ct_Guide_init : Value} {od_Guide_init an_Guide_init : Option Addr} {sl_Guide_init : Array (Option Value)}
    {f_Guide_look_at : Addr} {oc_Guide_look_at kV_Guide_look_at dc_Guide_look_at pm_Guide_look_at cd_Guide_look_at ct_Guide_look_at : Value} {od_Guide_look_at an_Guide_look_at : Option Addr} {sl_Guide_look_at : Array (Option Value)}
    {f_Guide_words : Addr} {oc_Guide_words kV_Guide_words dc_Guide_words pm_Guide_words cd_Guide_words ct_Guide_words : Value} {od_Guide_words an_Guide_words : Option Addr} {sl_Guide_words : Array (Option Value)}
    {f_rings : Addr} {oc_rings kV_rings dc_rings pm_rings cd_rings ct_rings : Value} {od_rings an_rings : Option Addr} {sl_rings : Array (Option Value)}
    {f_turn_of : Addr} {oc_turn_of kV_turn_of dc_turn_of pm_turn_of cd_turn_of ct_turn_of : Value} {od_turn_of an_turn_of : Option Addr} {sl_turn_of : Array (Option Value)}
    {f_rings_ever : Addr} {oc_rings_ever kV_rings_ever dc_rings_ever pm_rings_ever cd_rings_ever ct_rings_ever : Value} {od_rings_ever an_rings_ever : Option Addr} {sl_rings_ever : Array (Option Value)}
    {f_x_law_first : Addr} {oc_x_law_first kV_x_law_first dc_x_law_first pm_x_law_first cd_x_law_first ct_x_law_first : Value} {od_x_law_first an_x_law_first : Option Addr} {sl_x_law_first : Array (Option Value)}
    {f_look_at_beat : Addr} {oc_look_at_beat kV_look_at_beat dc_look_at_beat pm_look_at_beat cd_look_at_beat ct_look_at_beat : Value} {od_look_at_beat an_look_at_beat : Option Addr} {sl_look_at_beat : Array (Option Value)}
    {f_Rings_part_rung : Addr} {oc_Rings_part_rung kV_Rings_part_rung dc_Rings_part_rung pm_Rings_part_rung cd_Rings_part_rung ct_Rings_part_rung : Value} {od_Rings_part_rung an_Rings_part_rung : Option Addr} {sl_Rings_part_rung : Array (Option Value)}
    {f_Rings_ahead : Addr} {oc_Rings_ahead kV_Rings_ahead dc_Rings_ahead pm_Rings_ahead cd_Rings_ahead ct_Rings_ahead : Value} {od_Rings_ahead an_Rings_ahead : Option Addr} {sl_Rings_ahead : Array (Option Value)}
    {f_inner_parts : Addr} {oc_inner_parts kV_inner_parts dc_inner_parts pm_inner_parts cd_inner_parts ct_inner_parts : Value} {od_inner_parts an_inner_parts : Option Addr} {sl_inner_parts : Array (Option Value)}
    {f_Rings_init : Addr} {oc_Rings_init kV_Rings_init dc_Rings_init pm_Rings_init cd_Rings_init ct_Rings_init : Value} {od_Rings_init an_Rings_init : Option Addr} {sl_Rings_init : Array (Option Value)}
    {f_ring_count : Addr} {oc_ring_count kV_ring_count dc_ring_count pm_ring_count cd_ring_count ct_ring_count : Value} {od_ring_count an_ring_count : Option Addr} {sl_ring_count : Array (Option Value)}
    {f_first_beyond : Addr} {oc_first_beyond kV_first_beyond dc_first_beyond pm_first_beyond cd_first_beyond ct_first_beyond : Value} {od_first_beyond an_first_beyond : Option Addr} {sl_first_beyond : Array (Option Value)}
    {f_ring_beat : Addr} {oc_ring_beat kV_ring_beat dc_ring_beat pm_ring_beat cd_ring_beat ct_ring_beat : Value} {od_ring_beat an_ring_beat : Option Addr} {sl_ring_beat : Array (Option Value)}
    {T_ring_beat : Addr} {toc_ring_beat : Value} {tod_ring_beat : Option Addr} {tn_ring_beat : Nat} {tsl_ring_beat : Array (Option Value)} {tt_ring_beat_0 : Tok}
    {f_beats_of : Addr} {oc_beats_of kV_beats_of dc_beats_of pm_beats_of cd_beats_of ct_beats_of : Value} {od_beats_of an_beats_of : Option Addr} {sl_beats_of : Array (Option Value)}
    {f_whole_steps : Addr} {oc_whole_steps kV_whole_steps dc_whole_steps pm_whole_steps cd_whole_steps ct_whole_steps : Value} {od_whole_steps an_whole_steps : Option Addr} {sl_whole_steps : Array (Option Value)}
    {f_joined : Addr} {oc_joined kV_joined dc_joined pm_joined cd_joined ct_joined : Value} {od_joined an_joined : Option Addr} {sl_joined : Array (Option Value)}
    {f_meeting : Addr} {oc_meeting kV_meeting dc_meeting pm_meeting cd_meeting ct_meeting : Value} {od_meeting an_meeting : Option Addr} {sl_meeting : Array (Option Value)}
    {T_meeting : Addr} {toc_meeting : Value} {tod_meeting : Option Addr} {tn_meeting : Nat} {tsl_meeting : Array (Option Value)} {tt_meeting_0 : Tok}
    {f_law : Addr} {oc_law kV_law dc_law pm_law cd_law ct_law : Value} {od_law an_law : Option Addr} {sl_law : Array (Option Value)}
    {t_LONGEST : Tok}
    {t_MOST : Tok}
    (mc_Rings : PySem.W.nsIn K mainGlobals "Rings" = some (some (.ref a_Rings)))
    (mc_Guide : PySem.W.nsIn K mainGlobals "Guide" = some (some (.ref a_Guide)))
    (mf_x_law_cell_at : PySem.W.nsIn K mainGlobals "_law_cell_at" = some (some (.ref f_x_law_cell_at)))
    (lk_x_law_cell_at : K.lookup f_x_law_cell_at = some ⟨oc_x_law_cell_at, od_x_law_cell_at, .func (PySem.W.fnOf "_law_cell_at" "_law_cell_at" (defArgs s_x_law_cell_at) (defBody s_x_law_cell_at) (defScope s_x_law_cell_at) .none kV_x_law_cell_at dc_x_law_cell_at pm_x_law_cell_at an_x_law_cell_at cd_x_law_cell_at ct_x_law_cell_at), sl_x_law_cell_at⟩)
    (co_x_law_cell_at : PySem.W.codeIn K cd_x_law_cell_at "_law_cell_at" = true)
    (kp_x_law_cell_at : PySem.W.keepIn K (.ref f_x_law_cell_at) = true)
    (mf_x_law_small : PySem.W.nsIn K mainGlobals "_law_small" = some (some (.ref f_x_law_small)))
    (lk_x_law_small : K.lookup f_x_law_small = some ⟨oc_x_law_small, od_x_law_small, .func (PySem.W.fnOf "_law_small" "_law_small" (defArgs s_x_law_small) (defBody s_x_law_small) (defScope s_x_law_small) .none kV_x_law_small dc_x_law_small pm_x_law_small an_x_law_small cd_x_law_small ct_x_law_small), sl_x_law_small⟩)
    (co_x_law_small : PySem.W.codeIn K cd_x_law_small "_law_small" = true)
    (kp_x_law_small : PySem.W.keepIn K (.ref f_x_law_small) = true)
    (mf_numbers_of : PySem.W.nsIn K mainGlobals "numbers_of" = some (some (.ref f_numbers_of)))
    (lk_numbers_of : K.lookup f_numbers_of = some ⟨oc_numbers_of, od_numbers_of, .func (PySem.W.fnOf "numbers_of" "numbers_of" (defArgs s_numbers_of) (defBody s_numbers_of) (defScope s_numbers_of) .none kV_numbers_of dc_numbers_of pm_numbers_of an_numbers_of cd_numbers_of ct_numbers_of), sl_numbers_of⟩)
    (co_numbers_of : PySem.W.codeIn K cd_numbers_of "numbers_of" = true)
    (kp_numbers_of : PySem.W.keepIn K (.ref f_numbers_of) = true)
    (mf_named : PySem.W.nsIn K mainGlobals "named" = some (some (.ref f_named)))
    (lk_named : K.lookup f_named = some ⟨oc_named, od_named, .func (PySem.W.fnOf "named" "named" (defArgs s_named) (defBody s_named) (defScope s_named) .none kV_named dc_named pm_named an_named cd_named ct_named), sl_named⟩)
    (co_named : PySem.W.codeIn K cd_named "named" = true)
    (kp_named : PySem.W.keepIn K (.ref f_named) = true)
    (mf_moved : PySem.W.nsIn K mainGlobals "moved" = some (some (.ref f_moved)))
    (lk_moved : K.lookup f_moved = some ⟨oc_moved, od_moved, .func (PySem.W.fnOf "moved" "moved" (defArgs s_moved) (defBody s_moved) (defScope s_moved) .none kV_moved dc_moved pm_moved an_moved cd_moved ct_moved), sl_moved⟩)
    (co_moved : PySem.W.codeIn K cd_moved "moved" = true)
    (kp_moved : PySem.W.keepIn K (.ref f_moved) = true)
    (mf_look_at_side : PySem.W.nsIn K mainGlobals "look_at_side" = some (some (.ref f_look_at_side)))
    (lk_look_at_side : K.lookup f_look_at_side = some ⟨oc_look_at_side, od_look_at_side, .func (PySem.W.fnOf "look_at_side" "look_at_side" (defArgs s_look_at_side) (defBody s_look_at_side) (defScope s_look_at_side) .none kV_look_at_side dc_look_at_side pm_look_at_side an_look_at_side cd_look_at_side ct_look_at_side), sl_look_at_side⟩)
    (co_look_at_side : PySem.W.codeIn K cd_look_at_side "look_at_side" = true)
    (kp_look_at_side : PySem.W.keepIn K (.ref f_look_at_side) = true)
    (mf_length_of : PySem.W.nsIn K mainGlobals "length_of" = some (some (.ref f_length_of)))
    (lk_length_of : K.lookup f_length_of = some ⟨oc_length_of, od_length_of, .func (PySem.W.fnOf "length_of" "length_of" (defArgs s_length_of) (defBody s_length_of) (defScope s_length_of) .none kV_length_of dc_length_of pm_length_of an_length_of cd_length_of ct_length_of), sl_length_of⟩)
    (co_length_of : PySem.W.codeIn K cd_length_of "length_of" = true)
    (kp_length_of : PySem.W.keepIn K (.ref f_length_of) = true)
    (mf_lengths : PySem.W.nsIn K mainGlobals "lengths" = some (some (.ref f_lengths)))
    (lk_lengths : K.lookup f_lengths = some ⟨oc_lengths, od_lengths, .func (PySem.W.fnOf "lengths" "lengths" (defArgs s_lengths) (defBody s_lengths) (defScope s_lengths) .none kV_lengths dc_lengths pm_lengths an_lengths cd_lengths ct_lengths), sl_lengths⟩)
    (co_lengths : PySem.W.codeIn K cd_lengths "lengths" = true)
    (kp_lengths : PySem.W.keepIn K (.ref f_lengths) = true)
    (mf_ends : PySem.W.nsIn K mainGlobals "ends" = some (some (.ref f_ends)))
    (lk_ends : K.lookup f_ends = some ⟨oc_ends, od_ends, .func (PySem.W.fnOf "ends" "ends" (defArgs s_ends) (defBody s_ends) (defScope s_ends) .none kV_ends dc_ends pm_ends an_ends cd_ends ct_ends), sl_ends⟩)
    (co_ends : PySem.W.codeIn K cd_ends "ends" = true)
    (kp_ends : PySem.W.keepIn K (.ref f_ends) = true)
    (mf_Guide_init : PySem.W.findIn K (.ref a_Guide) "__init__" = some (some (.ref f_Guide_init)))
    (fi_Guide_init : PySem.W.isFn K (.ref f_Guide_init) = true)
    (lk_Guide_init : K.lookup f_Guide_init = some ⟨oc_Guide_init, od_Guide_init, .func (PySem.W.fnOf "__init__" "Guide.__init__" (defArgs s_Guide_init) (defBody s_Guide_init) (defScope s_Guide_init) .none kV_Guide_init dc_Guide_init pm_Guide_init an_Guide_init cd_Guide_init ct_Guide_init), sl_Guide_init⟩)
    (co_Guide_init : PySem.W.codeIn K cd_Guide_init "Guide.__init__" = true)
    (kp_Guide_init : PySem.W.keepIn K (.ref f_Guide_init) = true)
    (mf_Guide_look_at : PySem.W.findIn K (.ref a_Guide) "look_at" = some (some (.ref f_Guide_look_at)))
    (fi_Guide_look_at : PySem.W.isFn K (.ref f_Guide_look_at) = true)
    (lk_Guide_look_at : K.lookup f_Guide_look_at = some ⟨oc_Guide_look_at, od_Guide_look_at, .func (PySem.W.fnOf "look_at" "Guide.look_at" (defArgs s_Guide_look_at) (defBody s_Guide_look_at) (defScope s_Guide_look_at) .none kV_Guide_look_at dc_Guide_look_at pm_Guide_look_at an_Guide_look_at cd_Guide_look_at ct_Guide_look_at), sl_Guide_look_at⟩)
    (co_Guide_look_at : PySem.W.codeIn K cd_Guide_look_at "Guide.look_at" = true)
    (kp_Guide_look_at : PySem.W.keepIn K (.ref f_Guide_look_at) = true)
    (mf_Guide_words : PySem.W.findIn K (.ref a_Guide) "words" = some (some (.ref f_Guide_words)))
    (fi_Guide_words : PySem.W.isFn K (.ref f_Guide_words) = true)
    (lk_Guide_words : K.lookup f_Guide_words = some ⟨oc_Guide_words, od_Guide_words, .func (PySem.W.fnOf "words" "Guide.words" (defArgs s_Guide_words) (defBody s_Guide_words) (defScope s_Guide_words) .none kV_Guide_words dc_Guide_words pm_Guide_words an_Guide_words cd_Guide_words ct_Guide_words), sl_Guide_words⟩)
    (co_Guide_words : PySem.W.codeIn K cd_Guide_words "Guide.words" = true)
    (kp_Guide_words : PySem.W.keepIn K (.ref f_Guide_words) = true)
    (mf_rings : PySem.W.nsIn K mainGlobals "rings" = some (some (.ref f_rings)))
    (lk_rings : K.lookup f_rings = some ⟨oc_rings, od_rings, .func (PySem.W.fnOf "rings" "rings" (defArgs s_rings) (defBody s_rings) (defScope s_rings) .none kV_rings dc_rings pm_rings an_rings cd_rings ct_rings), sl_rings⟩)
    (co_rings : PySem.W.codeIn K cd_rings "rings" = true)
    (kp_rings : PySem.W.keepIn K (.ref f_rings) = true)
    (mf_turn_of : PySem.W.nsIn K mainGlobals "turn_of" = some (some (.ref f_turn_of)))
    (lk_turn_of : K.lookup f_turn_of = some ⟨oc_turn_of, od_turn_of, .func (PySem.W.fnOf "turn_of" "turn_of" (defArgs s_turn_of) (defBody s_turn_of) (defScope s_turn_of) .none kV_turn_of dc_turn_of pm_turn_of an_turn_of cd_turn_of ct_turn_of), sl_turn_of⟩)
    (co_turn_of : PySem.W.codeIn K cd_turn_of "turn_of" = true)
    (kp_turn_of : PySem.W.keepIn K (.ref f_turn_of) = true)
    (mf_rings_ever : PySem.W.nsIn K mainGlobals "rings_ever" = some (some (.ref f_rings_ever)))
    (lk_rings_ever : K.lookup f_rings_ever = some ⟨oc_rings_ever, od_rings_ever, .func (PySem.W.fnOf "rings_ever" "rings_ever" (defArgs s_rings_ever) (defBody s_rings_ever) (defScope s_rings_ever) .none kV_rings_ever dc_rings_ever pm_rings_ever an_rings_ever cd_rings_ever ct_rings_ever), sl_rings_ever⟩)
    (co_rings_ever : PySem.W.codeIn K cd_rings_ever "rings_ever" = true)
    (kp_rings_ever : PySem.W.keepIn K (.ref f_rings_ever) = true)
    (mf_x_law_first : PySem.W.nsIn K mainGlobals "_law_first" = some (some (.ref f_x_law_first)))
    (lk_x_law_first : K.lookup f_x_law_first = some ⟨oc_x_law_first, od_x_law_first, .func (PySem.W.fnOf "_law_first" "_law_first" (defArgs s_x_law_first) (defBody s_x_law_first) (defScope s_x_law_first) .none kV_x_law_first dc_x_law_first pm_x_law_first an_x_law_first cd_x_law_first ct_x_law_first), sl_x_law_first⟩)
    (co_x_law_first : PySem.W.codeIn K cd_x_law_first "_law_first" = true)
    (kp_x_law_first : PySem.W.keepIn K (.ref f_x_law_first) = true)
    (mf_look_at_beat : PySem.W.nsIn K mainGlobals "look_at_beat" = some (some (.ref f_look_at_beat)))
    (lk_look_at_beat : K.lookup f_look_at_beat = some ⟨oc_look_at_beat, od_look_at_beat, .func (PySem.W.fnOf "look_at_beat" "look_at_beat" (defArgs s_look_at_beat) (defBody s_look_at_beat) (defScope s_look_at_beat) .none kV_look_at_beat dc_look_at_beat pm_look_at_beat an_look_at_beat cd_look_at_beat ct_look_at_beat), sl_look_at_beat⟩)
    (co_look_at_beat : PySem.W.codeIn K cd_look_at_beat "look_at_beat" = true)
    (kp_look_at_beat : PySem.W.keepIn K (.ref f_look_at_beat) = true)
    (mf_Rings_part_rung : PySem.W.findIn K (.ref a_Rings) "part_rung" = some (some (.ref f_Rings_part_rung)))
    (fi_Rings_part_rung : PySem.W.isFn K (.ref f_Rings_part_rung) = true)
    (lk_Rings_part_rung : K.lookup f_Rings_part_rung = some ⟨oc_Rings_part_rung, od_Rings_part_rung, .func (PySem.W.fnOf "part_rung" "Rings.part_rung" (defArgs s_Rings_part_rung) (defBody s_Rings_part_rung) (defScope s_Rings_part_rung) .none kV_Rings_part_rung dc_Rings_part_rung pm_Rings_part_rung an_Rings_part_rung cd_Rings_part_rung ct_Rings_part_rung), sl_Rings_part_rung⟩)
    (co_Rings_part_rung : PySem.W.codeIn K cd_Rings_part_rung "Rings.part_rung" = true)
    (kp_Rings_part_rung : PySem.W.keepIn K (.ref f_Rings_part_rung) = true)
    (mf_Rings_ahead : PySem.W.findIn K (.ref a_Rings) "ahead" = some (some (.ref f_Rings_ahead)))
    (fi_Rings_ahead : PySem.W.isFn K (.ref f_Rings_ahead) = true)
    (lk_Rings_ahead : K.lookup f_Rings_ahead = some ⟨oc_Rings_ahead, od_Rings_ahead, .func (PySem.W.fnOf "ahead" "Rings.ahead" (defArgs s_Rings_ahead) (defBody s_Rings_ahead) (defScope s_Rings_ahead) .none kV_Rings_ahead dc_Rings_ahead pm_Rings_ahead an_Rings_ahead cd_Rings_ahead ct_Rings_ahead), sl_Rings_ahead⟩)
    (co_Rings_ahead : PySem.W.codeIn K cd_Rings_ahead "Rings.ahead" = true)
    (kp_Rings_ahead : PySem.W.keepIn K (.ref f_Rings_ahead) = true)
    (mf_inner_parts : PySem.W.nsIn K mainGlobals "inner_parts" = some (some (.ref f_inner_parts)))
    (lk_inner_parts : K.lookup f_inner_parts = some ⟨oc_inner_parts, od_inner_parts, .func (PySem.W.fnOf "inner_parts" "inner_parts" (defArgs s_inner_parts) (defBody s_inner_parts) (defScope s_inner_parts) .none kV_inner_parts dc_inner_parts pm_inner_parts an_inner_parts cd_inner_parts ct_inner_parts), sl_inner_parts⟩)
    (co_inner_parts : PySem.W.codeIn K cd_inner_parts "inner_parts" = true)
    (kp_inner_parts : PySem.W.keepIn K (.ref f_inner_parts) = true)
    (mf_Rings_init : PySem.W.findIn K (.ref a_Rings) "__init__" = some (some (.ref f_Rings_init)))
    (fi_Rings_init : PySem.W.isFn K (.ref f_Rings_init) = true)
    (lk_Rings_init : K.lookup f_Rings_init = some ⟨oc_Rings_init, od_Rings_init, .func (PySem.W.fnOf "__init__" "Rings.__init__" (defArgs s_Rings_init) (defBody s_Rings_init) (defScope s_Rings_init) .none kV_Rings_init dc_Rings_init pm_Rings_init an_Rings_init cd_Rings_init ct_Rings_init), sl_Rings_init⟩)
    (co_Rings_init : PySem.W.codeIn K cd_Rings_init "Rings.__init__" = true)
    (kp_Rings_init : PySem.W.keepIn K (.ref f_Rings_init) = true)
    (mf_ring_count : PySem.W.nsIn K mainGlobals "ring_count" = some (some (.ref f_ring_count)))
    (lk_ring_count : K.lookup f_ring_count = some ⟨oc_ring_count, od_ring_count, .func (PySem.W.fnOf "ring_count" "ring_count" (defArgs s_ring_count) (defBody s_ring_count) (defScope s_ring_count) .none kV_ring_count dc_ring_count pm_ring_count an_ring_count cd_ring_count ct_ring_count), sl_ring_count⟩)
    (co_ring_count : PySem.W.codeIn K cd_ring_count "ring_count" = true)
    (kp_ring_count : PySem.W.keepIn K (.ref f_ring_count) = true)
    (mf_first_beyond : PySem.W.nsIn K mainGlobals "first_beyond" = some (some (.ref f_first_beyond)))
    (lk_first_beyond : K.lookup f_first_beyond = some ⟨oc_first_beyond, od_first_beyond, .func (PySem.W.fnOf "first_beyond" "first_beyond" (defArgs s_first_beyond) (defBody s_first_beyond) (defScope s_first_beyond) .none kV_first_beyond dc_first_beyond pm_first_beyond an_first_beyond cd_first_beyond ct_first_beyond), sl_first_beyond⟩)
    (co_first_beyond : PySem.W.codeIn K cd_first_beyond "first_beyond" = true)
    (kp_first_beyond : PySem.W.keepIn K (.ref f_first_beyond) = true)
    (mf_ring_beat : PySem.W.nsIn K mainGlobals "ring_beat" = some (some (.ref f_ring_beat)))
    (lk_ring_beat : K.lookup f_ring_beat = some ⟨oc_ring_beat, od_ring_beat, .func (PySem.W.fnOf "ring_beat" "ring_beat" (defArgs s_ring_beat) (defBody s_ring_beat) (defScope s_ring_beat) (.ref T_ring_beat) kV_ring_beat dc_ring_beat pm_ring_beat an_ring_beat cd_ring_beat ct_ring_beat), sl_ring_beat⟩)
    (lt_ring_beat : K.lookup T_ring_beat = some ⟨toc_ring_beat, tod_ring_beat, .seq #[.int 0 tt_ring_beat_0] tn_ring_beat, tsl_ring_beat⟩)
    (co_ring_beat : PySem.W.codeIn K cd_ring_beat "ring_beat" = true)
    (kp_ring_beat : PySem.W.keepIn K (.ref f_ring_beat) = true)
    (mf_beats_of : PySem.W.nsIn K mainGlobals "beats_of" = some (some (.ref f_beats_of)))
    (lk_beats_of : K.lookup f_beats_of = some ⟨oc_beats_of, od_beats_of, .func (PySem.W.fnOf "beats_of" "beats_of" (defArgs s_beats_of) (defBody s_beats_of) (defScope s_beats_of) .none kV_beats_of dc_beats_of pm_beats_of an_beats_of cd_beats_of ct_beats_of), sl_beats_of⟩)
    (co_beats_of : PySem.W.codeIn K cd_beats_of "beats_of" = true)
    (kp_beats_of : PySem.W.keepIn K (.ref f_beats_of) = true)
    (mf_whole_steps : PySem.W.nsIn K mainGlobals "whole_steps" = some (some (.ref f_whole_steps)))
    (lk_whole_steps : K.lookup f_whole_steps = some ⟨oc_whole_steps, od_whole_steps, .func (PySem.W.fnOf "whole_steps" "whole_steps" (defArgs s_whole_steps) (defBody s_whole_steps) (defScope s_whole_steps) .none kV_whole_steps dc_whole_steps pm_whole_steps an_whole_steps cd_whole_steps ct_whole_steps), sl_whole_steps⟩)
    (co_whole_steps : PySem.W.codeIn K cd_whole_steps "whole_steps" = true)
    (kp_whole_steps : PySem.W.keepIn K (.ref f_whole_steps) = true)
    (mf_joined : PySem.W.nsIn K mainGlobals "joined" = some (some (.ref f_joined)))
    (lk_joined : K.lookup f_joined = some ⟨oc_joined, od_joined, .func (PySem.W.fnOf "joined" "joined" (defArgs s_joined) (defBody s_joined) (defScope s_joined) .none kV_joined dc_joined pm_joined an_joined cd_joined ct_joined), sl_joined⟩)
    (co_joined : PySem.W.codeIn K cd_joined "joined" = true)
    (kp_joined : PySem.W.keepIn K (.ref f_joined) = true)
    (mf_meeting : PySem.W.nsIn K mainGlobals "meeting" = some (some (.ref f_meeting)))
    (lk_meeting : K.lookup f_meeting = some ⟨oc_meeting, od_meeting, .func (PySem.W.fnOf "meeting" "meeting" (defArgs s_meeting) (defBody s_meeting) (defScope s_meeting) (.ref T_meeting) kV_meeting dc_meeting pm_meeting an_meeting cd_meeting ct_meeting), sl_meeting⟩)
    (lt_meeting : K.lookup T_meeting = some ⟨toc_meeting, tod_meeting, .seq #[.int 0 tt_meeting_0] tn_meeting, tsl_meeting⟩)
    (co_meeting : PySem.W.codeIn K cd_meeting "meeting" = true)
    (kp_meeting : PySem.W.keepIn K (.ref f_meeting) = true)
    (mf_law : PySem.W.nsIn K mainGlobals "law" = some (some (.ref f_law)))
    (lk_law : K.lookup f_law = some ⟨oc_law, od_law, .func (PySem.W.fnOf "law" "law" (defArgs s_law) (defBody s_law) (defScope s_law) .none kV_law dc_law pm_law an_law cd_law ct_law), sl_law⟩)
    (co_law : PySem.W.codeIn K cd_law "law" = true)
    (kp_law : PySem.W.keepIn K (.ref f_law) = true)
    (pg_Rings : PySem.W.plainGet K a_Rings Str.empty = true)
    (hd_Rings : PySem.W.hasDictIn K a_Rings = true)
    (po_Rings : PySem.W.plainOver K a_Rings = true)
    (sa_Rings : PySem.W.findIn K (.ref a_Rings) "__setattr__" = some (some (.builtin "object.__setattr__")))
    (mk_Rings : PySem.W.makesIn K a_Rings = true)
    (kc_Rings : PySem.W.keepIn K (.ref a_Rings) = true)
    (pg_Guide : PySem.W.plainGet K a_Guide Str.empty = true)
    (hd_Guide : PySem.W.hasDictIn K a_Guide = true)
    (po_Guide : PySem.W.plainOver K a_Guide = true)
    (sa_Guide : PySem.W.findIn K (.ref a_Guide) "__setattr__" = some (some (.builtin "object.__setattr__")))
    (mk_Guide : PySem.W.makesIn K a_Guide = true)
    (kc_Guide : PySem.W.keepIn K (.ref a_Guide) = true)
    (n_Guide_ends : PySem.W.findIn K (.ref a_Guide) "ends" = some none)
    (n_Guide_forms : PySem.W.findIn K (.ref a_Guide) "forms" = some none)
    (n_Guide_lengths : PySem.W.findIn K (.ref a_Guide) "lengths" = some none)
    (n_Guide_limbs : PySem.W.findIn K (.ref a_Guide) "limbs" = some none)
    (n_Guide_numbers : PySem.W.findIn K (.ref a_Guide) "numbers" = some none)
    (n_Rings_counts : PySem.W.findIn K (.ref a_Rings) "counts" = some none)
    (n_Rings_forms : PySem.W.findIn K (.ref a_Rings) "forms" = some none)
    (n_Rings_long : PySem.W.findIn K (.ref a_Rings) "long" = some none)
    (n_Rings_named : PySem.W.findIn K (.ref a_Rings) "named" = some none)
    (g_all : PySem.W.nsIn K mainGlobals "all" = some none)
    (g_divmod : PySem.W.nsIn K mainGlobals "divmod" = some none)
    (g_enumerate : PySem.W.nsIn K mainGlobals "enumerate" = some none)
    (g_int : PySem.W.nsIn K mainGlobals "int" = some none)
    (g_isinstance : PySem.W.nsIn K mainGlobals "isinstance" = some none)
    (g_len : PySem.W.nsIn K mainGlobals "len" = some none)
    (g_list : PySem.W.nsIn K mainGlobals "list" = some none)
    (g_max : PySem.W.nsIn K mainGlobals "max" = some none)
    (g_range : PySem.W.nsIn K mainGlobals "range" = some none)
    (g_set : PySem.W.nsIn K mainGlobals "set" = some none)
    (g_sorted : PySem.W.nsIn K mainGlobals "sorted" = some none)
    (g_sum : PySem.W.nsIn K mainGlobals "sum" = some none)
    (g_tuple : PySem.W.nsIn K mainGlobals "tuple" = some none)
    (g_zip : PySem.W.nsIn K mainGlobals "zip" = some none)
    (g_LONGEST : PySem.W.nsIn K mainGlobals "LONGEST" = some (some (.int 1000000000000000000000000000000000000000000000000000000000000 t_LONGEST)))
    (g_MOST : PySem.W.nsIn K mainGlobals "MOST" = some (some (.int 12 t_MOST))) :
    ∃ fd : FuncData, (∀ (s : Shared) (v : Value), BindsTo s fd ⟨[v], []⟩ [("script", v)]) ∧ ∀ base : Heap, K.In base → base.Ns mainGlobals mg → FnOk l.prog w K mg base (L2.CX l.prog w) 76 fa fd ["script"] (spLaw K) := by
  have e : f_law = fa := (Value.ref.inj (Option.some.inj (hfa.symm.trans (PySem.W.mg_of X G mf_law)))).symm
  subst e
  have F_x_law_cell_at : FunD K "_law_cell_at" "_law_cell_at" (defArgs s_x_law_cell_at) (defBody s_x_law_cell_at) (defScope s_x_law_cell_at) [] [] f_x_law_cell_at (PySem.W.fnOf "_law_cell_at" "_law_cell_at" (defArgs s_x_law_cell_at) (defBody s_x_law_cell_at) (defScope s_x_law_cell_at) .none kV_x_law_cell_at dc_x_law_cell_at pm_x_law_cell_at an_x_law_cell_at cd_x_law_cell_at ct_x_law_cell_at) := ⟨⟨_, _, _, _, _, _, _, _, _, _, rfl, lk_x_law_cell_at, co_x_law_cell_at, .inl ⟨rfl, rfl⟩, .inl rfl⟩, kp_x_law_cell_at⟩
  have b_x_law_cell_at : Binds K (PySem.W.fnOf "_law_cell_at" "_law_cell_at" (defArgs s_x_law_cell_at) (defBody s_x_law_cell_at) (defScope s_x_law_cell_at) .none kV_x_law_cell_at dc_x_law_cell_at pm_x_law_cell_at an_x_law_cell_at cd_x_law_cell_at ct_x_law_cell_at) ["script", "k"] [] := F_x_law_cell_at.bindsN fun _ _ _ _ _ _ us hl => match us, hl with | [_, _], _ => rfl
  have F_x_law_small : FunD K "_law_small" "_law_small" (defArgs s_x_law_small) (defBody s_x_law_small) (defScope s_x_law_small) [] [] f_x_law_small (PySem.W.fnOf "_law_small" "_law_small" (defArgs s_x_law_small) (defBody s_x_law_small) (defScope s_x_law_small) .none kV_x_law_small dc_x_law_small pm_x_law_small an_x_law_small cd_x_law_small ct_x_law_small) := ⟨⟨_, _, _, _, _, _, _, _, _, _, rfl, lk_x_law_small, co_x_law_small, .inl ⟨rfl, rfl⟩, .inl rfl⟩, kp_x_law_small⟩
  have b_x_law_small : Binds K (PySem.W.fnOf "_law_small" "_law_small" (defArgs s_x_law_small) (defBody s_x_law_small) (defScope s_x_law_small) .none kV_x_law_small dc_x_law_small pm_x_law_small an_x_law_small cd_x_law_small ct_x_law_small) ["cell"] [] := F_x_law_small.bindsN fun _ _ _ _ _ _ us hl => match us, hl with | [_], _ => rfl
  have F_numbers_of : FunD K "numbers_of" "numbers_of" (defArgs s_numbers_of) (defBody s_numbers_of) (defScope s_numbers_of) [] [] f_numbers_of (PySem.W.fnOf "numbers_of" "numbers_of" (defArgs s_numbers_of) (defBody s_numbers_of) (defScope s_numbers_of) .none kV_numbers_of dc_numbers_of pm_numbers_of an_numbers_of cd_numbers_of ct_numbers_of) := ⟨⟨_, _, _, _, _, _, _, _, _, _, rfl, lk_numbers_of, co_numbers_of, .inl ⟨rfl, rfl⟩, .inl rfl⟩, kp_numbers_of⟩
  have b_numbers_of : Binds K (PySem.W.fnOf "numbers_of" "numbers_of" (defArgs s_numbers_of) (defBody s_numbers_of) (defScope s_numbers_of) .none kV_numbers_of dc_numbers_of pm_numbers_of an_numbers_of cd_numbers_of ct_numbers_of) ["rows"] [] := F_numbers_of.bindsN fun _ _ _ _ _ _ us hl => match us, hl with | [_], _ => rfl
  have F_named : FunD K "named" "named" (defArgs s_named) (defBody s_named) (defScope s_named) [] [] f_named (PySem.W.fnOf "named" "named" (defArgs s_named) (defBody s_named) (defScope s_named) .none kV_named dc_named pm_named an_named cd_named ct_named) := ⟨⟨_, _, _, _, _, _, _, _, _, _, rfl, lk_named, co_named, .inl ⟨rfl, rfl⟩, .inl rfl⟩, kp_named⟩
  have b_named : Binds K (PySem.W.fnOf "named" "named" (defArgs s_named) (defBody s_named) (defScope s_named) .none kV_named dc_named pm_named an_named cd_named ct_named) ["form", "numbers"] [] := F_named.bindsN fun _ _ _ _ _ _ us hl => match us, hl with | [_, _], _ => rfl
  have F_moved : FunD K "moved" "moved" (defArgs s_moved) (defBody s_moved) (defScope s_moved) [] [] f_moved (PySem.W.fnOf "moved" "moved" (defArgs s_moved) (defBody s_moved) (defScope s_moved) .none kV_moved dc_moved pm_moved an_moved cd_moved ct_moved) := ⟨⟨_, _, _, _, _, _, _, _, _, _, rfl, lk_moved, co_moved, .inl ⟨rfl, rfl⟩, .inl rfl⟩, kp_moved⟩
  have b_moved : Binds K (PySem.W.fnOf "moved" "moved" (defArgs s_moved) (defBody s_moved) (defScope s_moved) .none kV_moved dc_moved pm_moved an_moved cd_moved ct_moved) ["book"] [] := F_moved.bindsN fun _ _ _ _ _ _ us hl => match us, hl with | [_], _ => rfl
  have F_look_at_side : FunD K "look_at_side" "look_at_side" (defArgs s_look_at_side) (defBody s_look_at_side) (defScope s_look_at_side) [] [] f_look_at_side (PySem.W.fnOf "look_at_side" "look_at_side" (defArgs s_look_at_side) (defBody s_look_at_side) (defScope s_look_at_side) .none kV_look_at_side dc_look_at_side pm_look_at_side an_look_at_side cd_look_at_side ct_look_at_side) := ⟨⟨_, _, _, _, _, _, _, _, _, _, rfl, lk_look_at_side, co_look_at_side, .inl ⟨rfl, rfl⟩, .inl rfl⟩, kp_look_at_side⟩
  have b_look_at_side : Binds K (PySem.W.fnOf "look_at_side" "look_at_side" (defArgs s_look_at_side) (defBody s_look_at_side) (defScope s_look_at_side) .none kV_look_at_side dc_look_at_side pm_look_at_side an_look_at_side cd_look_at_side ct_look_at_side) ["book", "number", "limbs"] [] := F_look_at_side.bindsN fun _ _ _ _ _ _ us hl => match us, hl with | [_, _, _], _ => rfl
  have F_length_of : FunD K "length_of" "length_of" (defArgs s_length_of) (defBody s_length_of) (defScope s_length_of) [] [] f_length_of (PySem.W.fnOf "length_of" "length_of" (defArgs s_length_of) (defBody s_length_of) (defScope s_length_of) .none kV_length_of dc_length_of pm_length_of an_length_of cd_length_of ct_length_of) := ⟨⟨_, _, _, _, _, _, _, _, _, _, rfl, lk_length_of, co_length_of, .inl ⟨rfl, rfl⟩, .inl rfl⟩, kp_length_of⟩
  have b_length_of : Binds K (PySem.W.fnOf "length_of" "length_of" (defArgs s_length_of) (defBody s_length_of) (defScope s_length_of) .none kV_length_of dc_length_of pm_length_of an_length_of cd_length_of ct_length_of) ["form", "below"] [] := F_length_of.bindsN fun _ _ _ _ _ _ us hl => match us, hl with | [_, _], _ => rfl
  have F_lengths : FunD K "lengths" "lengths" (defArgs s_lengths) (defBody s_lengths) (defScope s_lengths) [] [] f_lengths (PySem.W.fnOf "lengths" "lengths" (defArgs s_lengths) (defBody s_lengths) (defScope s_lengths) .none kV_lengths dc_lengths pm_lengths an_lengths cd_lengths ct_lengths) := ⟨⟨_, _, _, _, _, _, _, _, _, _, rfl, lk_lengths, co_lengths, .inl ⟨rfl, rfl⟩, .inl rfl⟩, kp_lengths⟩
  have b_lengths : Binds K (PySem.W.fnOf "lengths" "lengths" (defArgs s_lengths) (defBody s_lengths) (defScope s_lengths) .none kV_lengths dc_lengths pm_lengths an_lengths cd_lengths ct_lengths) ["book"] [] := F_lengths.bindsN fun _ _ _ _ _ _ us hl => match us, hl with | [_], _ => rfl
  have F_ends : FunD K "ends" "ends" (defArgs s_ends) (defBody s_ends) (defScope s_ends) [] [] f_ends (PySem.W.fnOf "ends" "ends" (defArgs s_ends) (defBody s_ends) (defScope s_ends) .none kV_ends dc_ends pm_ends an_ends cd_ends ct_ends) := ⟨⟨_, _, _, _, _, _, _, _, _, _, rfl, lk_ends, co_ends, .inl ⟨rfl, rfl⟩, .inl rfl⟩, kp_ends⟩
  have b_ends : Binds K (PySem.W.fnOf "ends" "ends" (defArgs s_ends) (defBody s_ends) (defScope s_ends) .none kV_ends dc_ends pm_ends an_ends cd_ends ct_ends) ["book"] [] := F_ends.bindsN fun _ _ _ _ _ _ us hl => match us, hl with | [_], _ => rfl
  have F_Guide_init : FunD K "__init__" "Guide.__init__" (defArgs s_Guide_init) (defBody s_Guide_init) (defScope s_Guide_init) [] [] f_Guide_init (PySem.W.fnOf "__init__" "Guide.__init__" (defArgs s_Guide_init) (defBody s_Guide_init) (defScope s_Guide_init) .none kV_Guide_init dc_Guide_init pm_Guide_init an_Guide_init cd_Guide_init ct_Guide_init) := ⟨⟨_, _, _, _, _, _, _, _, _, _, rfl, lk_Guide_init, co_Guide_init, .inl ⟨rfl, rfl⟩, .inl rfl⟩, kp_Guide_init⟩
  have b_Guide_init : Binds K (PySem.W.fnOf "__init__" "Guide.__init__" (defArgs s_Guide_init) (defBody s_Guide_init) (defScope s_Guide_init) .none kV_Guide_init dc_Guide_init pm_Guide_init an_Guide_init cd_Guide_init ct_Guide_init) ["self", "book"] [] := F_Guide_init.bindsN fun _ _ _ _ _ _ us hl => match us, hl with | [_, _], _ => rfl
  have F_Guide_look_at : FunD K "look_at" "Guide.look_at" (defArgs s_Guide_look_at) (defBody s_Guide_look_at) (defScope s_Guide_look_at) [] [] f_Guide_look_at (PySem.W.fnOf "look_at" "Guide.look_at" (defArgs s_Guide_look_at) (defBody s_Guide_look_at) (defScope s_Guide_look_at) .none kV_Guide_look_at dc_Guide_look_at pm_Guide_look_at an_Guide_look_at cd_Guide_look_at ct_Guide_look_at) := ⟨⟨_, _, _, _, _, _, _, _, _, _, rfl, lk_Guide_look_at, co_Guide_look_at, .inl ⟨rfl, rfl⟩, .inl rfl⟩, kp_Guide_look_at⟩
  have b_Guide_look_at : Binds K (PySem.W.fnOf "look_at" "Guide.look_at" (defArgs s_Guide_look_at) (defBody s_Guide_look_at) (defScope s_Guide_look_at) .none kV_Guide_look_at dc_Guide_look_at pm_Guide_look_at an_Guide_look_at cd_Guide_look_at ct_Guide_look_at) ["self", "beat"] [] := F_Guide_look_at.bindsN fun _ _ _ _ _ _ us hl => match us, hl with | [_, _], _ => rfl
  have F_Guide_words : FunD K "words" "Guide.words" (defArgs s_Guide_words) (defBody s_Guide_words) (defScope s_Guide_words) [] [] f_Guide_words (PySem.W.fnOf "words" "Guide.words" (defArgs s_Guide_words) (defBody s_Guide_words) (defScope s_Guide_words) .none kV_Guide_words dc_Guide_words pm_Guide_words an_Guide_words cd_Guide_words ct_Guide_words) := ⟨⟨_, _, _, _, _, _, _, _, _, _, rfl, lk_Guide_words, co_Guide_words, .inl ⟨rfl, rfl⟩, .inl rfl⟩, kp_Guide_words⟩
  have b_Guide_words : Binds K (PySem.W.fnOf "words" "Guide.words" (defArgs s_Guide_words) (defBody s_Guide_words) (defScope s_Guide_words) .none kV_Guide_words dc_Guide_words pm_Guide_words an_Guide_words cd_Guide_words ct_Guide_words) ["self", "number", "beat"] [] := F_Guide_words.bindsN fun _ _ _ _ _ _ us hl => match us, hl with | [_, _, _], _ => rfl
  have F_rings : FunD K "rings" "rings" (defArgs s_rings) (defBody s_rings) (defScope s_rings) [] [] f_rings (PySem.W.fnOf "rings" "rings" (defArgs s_rings) (defBody s_rings) (defScope s_rings) .none kV_rings dc_rings pm_rings an_rings cd_rings ct_rings) := ⟨⟨_, _, _, _, _, _, _, _, _, _, rfl, lk_rings, co_rings, .inl ⟨rfl, rfl⟩, .inl rfl⟩, kp_rings⟩
  have b_rings : Binds K (PySem.W.fnOf "rings" "rings" (defArgs s_rings) (defBody s_rings) (defScope s_rings) .none kV_rings dc_rings pm_rings an_rings cd_rings ct_rings) ["book", "beat"] [] := F_rings.bindsN fun _ _ _ _ _ _ us hl => match us, hl with | [_, _], _ => rfl
  have F_turn_of : FunD K "turn_of" "turn_of" (defArgs s_turn_of) (defBody s_turn_of) (defScope s_turn_of) [] [] f_turn_of (PySem.W.fnOf "turn_of" "turn_of" (defArgs s_turn_of) (defBody s_turn_of) (defScope s_turn_of) .none kV_turn_of dc_turn_of pm_turn_of an_turn_of cd_turn_of ct_turn_of) := ⟨⟨_, _, _, _, _, _, _, _, _, _, rfl, lk_turn_of, co_turn_of, .inl ⟨rfl, rfl⟩, .inl rfl⟩, kp_turn_of⟩
  have b_turn_of : Binds K (PySem.W.fnOf "turn_of" "turn_of" (defArgs s_turn_of) (defBody s_turn_of) (defScope s_turn_of) .none kV_turn_of dc_turn_of pm_turn_of an_turn_of cd_turn_of ct_turn_of) ["book", "beat"] [] := F_turn_of.bindsN fun _ _ _ _ _ _ us hl => match us, hl with | [_, _], _ => rfl
  have F_rings_ever : FunD K "rings_ever" "rings_ever" (defArgs s_rings_ever) (defBody s_rings_ever) (defScope s_rings_ever) [] [] f_rings_ever (PySem.W.fnOf "rings_ever" "rings_ever" (defArgs s_rings_ever) (defBody s_rings_ever) (defScope s_rings_ever) .none kV_rings_ever dc_rings_ever pm_rings_ever an_rings_ever cd_rings_ever ct_rings_ever) := ⟨⟨_, _, _, _, _, _, _, _, _, _, rfl, lk_rings_ever, co_rings_ever, .inl ⟨rfl, rfl⟩, .inl rfl⟩, kp_rings_ever⟩
  have b_rings_ever : Binds K (PySem.W.fnOf "rings_ever" "rings_ever" (defArgs s_rings_ever) (defBody s_rings_ever) (defScope s_rings_ever) .none kV_rings_ever dc_rings_ever pm_rings_ever an_rings_ever cd_rings_ever ct_rings_ever) ["book", "beat"] [] := F_rings_ever.bindsN fun _ _ _ _ _ _ us hl => match us, hl with | [_, _], _ => rfl
  have F_x_law_first : FunD K "_law_first" "_law_first" (defArgs s_x_law_first) (defBody s_x_law_first) (defScope s_x_law_first) [] [] f_x_law_first (PySem.W.fnOf "_law_first" "_law_first" (defArgs s_x_law_first) (defBody s_x_law_first) (defScope s_x_law_first) .none kV_x_law_first dc_x_law_first pm_x_law_first an_x_law_first cd_x_law_first ct_x_law_first) := ⟨⟨_, _, _, _, _, _, _, _, _, _, rfl, lk_x_law_first, co_x_law_first, .inl ⟨rfl, rfl⟩, .inl rfl⟩, kp_x_law_first⟩
  have b_x_law_first : Binds K (PySem.W.fnOf "_law_first" "_law_first" (defArgs s_x_law_first) (defBody s_x_law_first) (defScope s_x_law_first) .none kV_x_law_first dc_x_law_first pm_x_law_first an_x_law_first cd_x_law_first ct_x_law_first) ["books", "words", "longs", "beat"] [] := F_x_law_first.bindsN fun _ _ _ _ _ _ us hl => match us, hl with | [_, _, _, _], _ => rfl
  have F_look_at_beat : FunD K "look_at_beat" "look_at_beat" (defArgs s_look_at_beat) (defBody s_look_at_beat) (defScope s_look_at_beat) [] [] f_look_at_beat (PySem.W.fnOf "look_at_beat" "look_at_beat" (defArgs s_look_at_beat) (defBody s_look_at_beat) (defScope s_look_at_beat) .none kV_look_at_beat dc_look_at_beat pm_look_at_beat an_look_at_beat cd_look_at_beat ct_look_at_beat) := ⟨⟨_, _, _, _, _, _, _, _, _, _, rfl, lk_look_at_beat, co_look_at_beat, .inl ⟨rfl, rfl⟩, .inl rfl⟩, kp_look_at_beat⟩
  have b_look_at_beat : Binds K (PySem.W.fnOf "look_at_beat" "look_at_beat" (defArgs s_look_at_beat) (defBody s_look_at_beat) (defScope s_look_at_beat) .none kV_look_at_beat dc_look_at_beat pm_look_at_beat an_look_at_beat cd_look_at_beat ct_look_at_beat) ["beat", "last"] [] := F_look_at_beat.bindsN fun _ _ _ _ _ _ us hl => match us, hl with | [_, _], _ => rfl
  have F_Rings_part_rung : FunD K "part_rung" "Rings.part_rung" (defArgs s_Rings_part_rung) (defBody s_Rings_part_rung) (defScope s_Rings_part_rung) [] [] f_Rings_part_rung (PySem.W.fnOf "part_rung" "Rings.part_rung" (defArgs s_Rings_part_rung) (defBody s_Rings_part_rung) (defScope s_Rings_part_rung) .none kV_Rings_part_rung dc_Rings_part_rung pm_Rings_part_rung an_Rings_part_rung cd_Rings_part_rung ct_Rings_part_rung) := ⟨⟨_, _, _, _, _, _, _, _, _, _, rfl, lk_Rings_part_rung, co_Rings_part_rung, .inl ⟨rfl, rfl⟩, .inl rfl⟩, kp_Rings_part_rung⟩
  have b_Rings_part_rung : Binds K (PySem.W.fnOf "part_rung" "Rings.part_rung" (defArgs s_Rings_part_rung) (defBody s_Rings_part_rung) (defScope s_Rings_part_rung) .none kV_Rings_part_rung dc_Rings_part_rung pm_Rings_part_rung an_Rings_part_rung cd_Rings_part_rung ct_Rings_part_rung) ["self", "k", "many"] [] := F_Rings_part_rung.bindsN fun _ _ _ _ _ _ us hl => match us, hl with | [_, _, _], _ => rfl
  have F_Rings_ahead : FunD K "ahead" "Rings.ahead" (defArgs s_Rings_ahead) (defBody s_Rings_ahead) (defScope s_Rings_ahead) [] [] f_Rings_ahead (PySem.W.fnOf "ahead" "Rings.ahead" (defArgs s_Rings_ahead) (defBody s_Rings_ahead) (defScope s_Rings_ahead) .none kV_Rings_ahead dc_Rings_ahead pm_Rings_ahead an_Rings_ahead cd_Rings_ahead ct_Rings_ahead) := ⟨⟨_, _, _, _, _, _, _, _, _, _, rfl, lk_Rings_ahead, co_Rings_ahead, .inl ⟨rfl, rfl⟩, .inl rfl⟩, kp_Rings_ahead⟩
  have b_Rings_ahead : Binds K (PySem.W.fnOf "ahead" "Rings.ahead" (defArgs s_Rings_ahead) (defBody s_Rings_ahead) (defScope s_Rings_ahead) .none kV_Rings_ahead dc_Rings_ahead pm_Rings_ahead an_Rings_ahead cd_Rings_ahead ct_Rings_ahead) ["self", "beat"] [] := F_Rings_ahead.bindsN fun _ _ _ _ _ _ us hl => match us, hl with | [_, _], _ => rfl
  have F_inner_parts : FunD K "inner_parts" "inner_parts" (defArgs s_inner_parts) (defBody s_inner_parts) (defScope s_inner_parts) [] [] f_inner_parts (PySem.W.fnOf "inner_parts" "inner_parts" (defArgs s_inner_parts) (defBody s_inner_parts) (defScope s_inner_parts) .none kV_inner_parts dc_inner_parts pm_inner_parts an_inner_parts cd_inner_parts ct_inner_parts) := ⟨⟨_, _, _, _, _, _, _, _, _, _, rfl, lk_inner_parts, co_inner_parts, .inl ⟨rfl, rfl⟩, .inl rfl⟩, kp_inner_parts⟩
  have b_inner_parts : Binds K (PySem.W.fnOf "inner_parts" "inner_parts" (defArgs s_inner_parts) (defBody s_inner_parts) (defScope s_inner_parts) .none kV_inner_parts dc_inner_parts pm_inner_parts an_inner_parts cd_inner_parts ct_inner_parts) ["book"] [] := F_inner_parts.bindsN fun _ _ _ _ _ _ us hl => match us, hl with | [_], _ => rfl
  have F_Rings_init : FunD K "__init__" "Rings.__init__" (defArgs s_Rings_init) (defBody s_Rings_init) (defScope s_Rings_init) [] [] f_Rings_init (PySem.W.fnOf "__init__" "Rings.__init__" (defArgs s_Rings_init) (defBody s_Rings_init) (defScope s_Rings_init) .none kV_Rings_init dc_Rings_init pm_Rings_init an_Rings_init cd_Rings_init ct_Rings_init) := ⟨⟨_, _, _, _, _, _, _, _, _, _, rfl, lk_Rings_init, co_Rings_init, .inl ⟨rfl, rfl⟩, .inl rfl⟩, kp_Rings_init⟩
  have b_Rings_init : Binds K (PySem.W.fnOf "__init__" "Rings.__init__" (defArgs s_Rings_init) (defBody s_Rings_init) (defScope s_Rings_init) .none kV_Rings_init dc_Rings_init pm_Rings_init an_Rings_init cd_Rings_init ct_Rings_init) ["self", "book", "word"] [] := F_Rings_init.bindsN fun _ _ _ _ _ _ us hl => match us, hl with | [_, _, _], _ => rfl
  have F_ring_count : FunD K "ring_count" "ring_count" (defArgs s_ring_count) (defBody s_ring_count) (defScope s_ring_count) [] [] f_ring_count (PySem.W.fnOf "ring_count" "ring_count" (defArgs s_ring_count) (defBody s_ring_count) (defScope s_ring_count) .none kV_ring_count dc_ring_count pm_ring_count an_ring_count cd_ring_count ct_ring_count) := ⟨⟨_, _, _, _, _, _, _, _, _, _, rfl, lk_ring_count, co_ring_count, .inl ⟨rfl, rfl⟩, .inl rfl⟩, kp_ring_count⟩
  have b_ring_count : Binds K (PySem.W.fnOf "ring_count" "ring_count" (defArgs s_ring_count) (defBody s_ring_count) (defScope s_ring_count) .none kV_ring_count dc_ring_count pm_ring_count an_ring_count cd_ring_count ct_ring_count) ["book", "word", "beat"] [] := F_ring_count.bindsN fun _ _ _ _ _ _ us hl => match us, hl with | [_, _, _], _ => rfl
  have F_first_beyond : FunD K "first_beyond" "first_beyond" (defArgs s_first_beyond) (defBody s_first_beyond) (defScope s_first_beyond) [] [] f_first_beyond (PySem.W.fnOf "first_beyond" "first_beyond" (defArgs s_first_beyond) (defBody s_first_beyond) (defScope s_first_beyond) .none kV_first_beyond dc_first_beyond pm_first_beyond an_first_beyond cd_first_beyond ct_first_beyond) := ⟨⟨_, _, _, _, _, _, _, _, _, _, rfl, lk_first_beyond, co_first_beyond, .inl ⟨rfl, rfl⟩, .inl rfl⟩, kp_first_beyond⟩
  have b_first_beyond : Binds K (PySem.W.fnOf "first_beyond" "first_beyond" (defArgs s_first_beyond) (defBody s_first_beyond) (defScope s_first_beyond) .none kV_first_beyond dc_first_beyond pm_first_beyond an_first_beyond cd_first_beyond ct_first_beyond) ["counted", "number", "low", "high"] [] := F_first_beyond.bindsN fun _ _ _ _ _ _ us hl => match us, hl with | [_, _, _, _], _ => rfl
  have F_ring_beat : FunD K "ring_beat" "ring_beat" (defArgs s_ring_beat) (defBody s_ring_beat) (defScope s_ring_beat) [V.int 0] [] f_ring_beat (PySem.W.fnOf "ring_beat" "ring_beat" (defArgs s_ring_beat) (defBody s_ring_beat) (defScope s_ring_beat) (.ref T_ring_beat) kV_ring_beat dc_ring_beat pm_ring_beat an_ring_beat cd_ring_beat ct_ring_beat) := ⟨⟨_, _, _, _, _, _, _, _, _, _, rfl, lk_ring_beat, co_ring_beat, .inr ⟨by simp, T_ring_beat, _, [.int 0 tt_ring_beat_0], _, rfl, lt_ring_beat, rfl, (.cons ⟨_, rfl⟩ .nil)⟩, .inl rfl⟩, kp_ring_beat⟩
  have b_ring_beat : Binds K (PySem.W.fnOf "ring_beat" "ring_beat" (defArgs s_ring_beat) (defBody s_ring_beat) (defScope s_ring_beat) (.ref T_ring_beat) kV_ring_beat dc_ring_beat pm_ring_beat an_ring_beat cd_ring_beat ct_ring_beat) ["book", "word", "number"] [] := by
    obtain ⟨ds, r, b⟩ := F_ring_beat.binds1 (ps := ["book", "word", "number"]) 3 1 (by simp) rfl fun _ _ _ _ _ _ _ us its hl hi => match us, its, hl, hi with | [_, _, _], [_], _, _ => ⟨_, rfl, rfl⟩
    cases r
    exact b
  have F_beats_of : FunD K "beats_of" "beats_of" (defArgs s_beats_of) (defBody s_beats_of) (defScope s_beats_of) [] [] f_beats_of (PySem.W.fnOf "beats_of" "beats_of" (defArgs s_beats_of) (defBody s_beats_of) (defScope s_beats_of) .none kV_beats_of dc_beats_of pm_beats_of an_beats_of cd_beats_of ct_beats_of) := ⟨⟨_, _, _, _, _, _, _, _, _, _, rfl, lk_beats_of, co_beats_of, .inl ⟨rfl, rfl⟩, .inl rfl⟩, kp_beats_of⟩
  have b_beats_of : Binds K (PySem.W.fnOf "beats_of" "beats_of" (defArgs s_beats_of) (defBody s_beats_of) (defScope s_beats_of) .none kV_beats_of dc_beats_of pm_beats_of an_beats_of cd_beats_of ct_beats_of) ["book", "word"] [] := F_beats_of.bindsN fun _ _ _ _ _ _ us hl => match us, hl with | [_, _], _ => rfl
  have F_whole_steps : FunD K "whole_steps" "whole_steps" (defArgs s_whole_steps) (defBody s_whole_steps) (defScope s_whole_steps) [] [] f_whole_steps (PySem.W.fnOf "whole_steps" "whole_steps" (defArgs s_whole_steps) (defBody s_whole_steps) (defScope s_whole_steps) .none kV_whole_steps dc_whole_steps pm_whole_steps an_whole_steps cd_whole_steps ct_whole_steps) := ⟨⟨_, _, _, _, _, _, _, _, _, _, rfl, lk_whole_steps, co_whole_steps, .inl ⟨rfl, rfl⟩, .inl rfl⟩, kp_whole_steps⟩
  have b_whole_steps : Binds K (PySem.W.fnOf "whole_steps" "whole_steps" (defArgs s_whole_steps) (defBody s_whole_steps) (defScope s_whole_steps) .none kV_whole_steps dc_whole_steps pm_whole_steps an_whole_steps cd_whole_steps ct_whole_steps) ["one", "other"] [] := F_whole_steps.bindsN fun _ _ _ _ _ _ us hl => match us, hl with | [_, _], _ => rfl
  have F_joined : FunD K "joined" "joined" (defArgs s_joined) (defBody s_joined) (defScope s_joined) [] [] f_joined (PySem.W.fnOf "joined" "joined" (defArgs s_joined) (defBody s_joined) (defScope s_joined) .none kV_joined dc_joined pm_joined an_joined cd_joined ct_joined) := ⟨⟨_, _, _, _, _, _, _, _, _, _, rfl, lk_joined, co_joined, .inl ⟨rfl, rfl⟩, .inl rfl⟩, kp_joined⟩
  have b_joined : Binds K (PySem.W.fnOf "joined" "joined" (defArgs s_joined) (defBody s_joined) (defScope s_joined) .none kV_joined dc_joined pm_joined an_joined cd_joined ct_joined) ["beat", "turn", "other", "other_turn"] [] := F_joined.bindsN fun _ _ _ _ _ _ us hl => match us, hl with | [_, _, _, _], _ => rfl
  have F_meeting : FunD K "meeting" "meeting" (defArgs s_meeting) (defBody s_meeting) (defScope s_meeting) [V.int 0] [] f_meeting (PySem.W.fnOf "meeting" "meeting" (defArgs s_meeting) (defBody s_meeting) (defScope s_meeting) (.ref T_meeting) kV_meeting dc_meeting pm_meeting an_meeting cd_meeting ct_meeting) := ⟨⟨_, _, _, _, _, _, _, _, _, _, rfl, lk_meeting, co_meeting, .inr ⟨by simp, T_meeting, _, [.int 0 tt_meeting_0], _, rfl, lt_meeting, rfl, (.cons ⟨_, rfl⟩ .nil)⟩, .inl rfl⟩, kp_meeting⟩
  have b_meeting : Binds K (PySem.W.fnOf "meeting" "meeting" (defArgs s_meeting) (defBody s_meeting) (defScope s_meeting) (.ref T_meeting) kV_meeting dc_meeting pm_meeting an_meeting cd_meeting ct_meeting) ["books", "words", "beat"] [] := by
    obtain ⟨ds, r, b⟩ := F_meeting.binds1 (ps := ["books", "words", "beat"]) 3 1 (by simp) rfl fun _ _ _ _ _ _ _ us its hl hi => match us, its, hl, hi with | [_, _, _], [_], _, _ => ⟨_, rfl, rfl⟩
    cases r
    exact b
  have F_law : FunD K "law" "law" (defArgs s_law) (defBody s_law) (defScope s_law) [] [] f_law (PySem.W.fnOf "law" "law" (defArgs s_law) (defBody s_law) (defScope s_law) .none kV_law dc_law pm_law an_law cd_law ct_law) := ⟨⟨_, _, _, _, _, _, _, _, _, _, rfl, lk_law, co_law, .inl ⟨rfl, rfl⟩, .inl rfl⟩, kp_law⟩
  have b_law : Binds K (PySem.W.fnOf "law" "law" (defArgs s_law) (defBody s_law) (defScope s_law) .none kV_law dc_law pm_law an_law cd_law ct_law) ["script"] [] := F_law.bindsN fun _ _ _ _ _ _ us hl => match us, hl with | [_], _ => rfl
  let T : Fs K mg := {
    f_x_law_cell_at := f_x_law_cell_at, d_x_law_cell_at := _, F_x_law_cell_at := F_x_law_cell_at, b_x_law_cell_at := b_x_law_cell_at,
    m_x_law_cell_at := PySem.W.mg_of X G mf_x_law_cell_at,
    f_x_law_small := f_x_law_small, d_x_law_small := _, F_x_law_small := F_x_law_small, b_x_law_small := b_x_law_small,
    m_x_law_small := PySem.W.mg_of X G mf_x_law_small,
    f_numbers_of := f_numbers_of, d_numbers_of := _, F_numbers_of := F_numbers_of, b_numbers_of := b_numbers_of,
    m_numbers_of := PySem.W.mg_of X G mf_numbers_of,
    f_named := f_named, d_named := _, F_named := F_named, b_named := b_named,
    m_named := PySem.W.mg_of X G mf_named,
    f_moved := f_moved, d_moved := _, F_moved := F_moved, b_moved := b_moved,
    m_moved := PySem.W.mg_of X G mf_moved,
    f_look_at_side := f_look_at_side, d_look_at_side := _, F_look_at_side := F_look_at_side, b_look_at_side := b_look_at_side,
    m_look_at_side := PySem.W.mg_of X G mf_look_at_side,
    f_length_of := f_length_of, d_length_of := _, F_length_of := F_length_of, b_length_of := b_length_of,
    m_length_of := PySem.W.mg_of X G mf_length_of,
    f_lengths := f_lengths, d_lengths := _, F_lengths := F_lengths, b_lengths := b_lengths,
    m_lengths := PySem.W.mg_of X G mf_lengths,
    f_ends := f_ends, d_ends := _, F_ends := F_ends, b_ends := b_ends,
    m_ends := PySem.W.mg_of X G mf_ends,
    f_Guide_init := f_Guide_init, d_Guide_init := _, F_Guide_init := F_Guide_init, b_Guide_init := b_Guide_init,
    f_Guide_look_at := f_Guide_look_at, d_Guide_look_at := _, F_Guide_look_at := F_Guide_look_at, b_Guide_look_at := b_Guide_look_at,
    f_Guide_words := f_Guide_words, d_Guide_words := _, F_Guide_words := F_Guide_words, b_Guide_words := b_Guide_words,
    f_rings := f_rings, d_rings := _, F_rings := F_rings, b_rings := b_rings,
    m_rings := PySem.W.mg_of X G mf_rings,
    f_turn_of := f_turn_of, d_turn_of := _, F_turn_of := F_turn_of, b_turn_of := b_turn_of,
    m_turn_of := PySem.W.mg_of X G mf_turn_of,
    f_rings_ever := f_rings_ever, d_rings_ever := _, F_rings_ever := F_rings_ever, b_rings_ever := b_rings_ever,
    m_rings_ever := PySem.W.mg_of X G mf_rings_ever,
    f_x_law_first := f_x_law_first, d_x_law_first := _, F_x_law_first := F_x_law_first, b_x_law_first := b_x_law_first,
    m_x_law_first := PySem.W.mg_of X G mf_x_law_first,
    f_look_at_beat := f_look_at_beat, d_look_at_beat := _, F_look_at_beat := F_look_at_beat, b_look_at_beat := b_look_at_beat,
    m_look_at_beat := PySem.W.mg_of X G mf_look_at_beat,
    f_Rings_part_rung := f_Rings_part_rung, d_Rings_part_rung := _, F_Rings_part_rung := F_Rings_part_rung, b_Rings_part_rung := b_Rings_part_rung,
    f_Rings_ahead := f_Rings_ahead, d_Rings_ahead := _, F_Rings_ahead := F_Rings_ahead, b_Rings_ahead := b_Rings_ahead,
    f_inner_parts := f_inner_parts, d_inner_parts := _, F_inner_parts := F_inner_parts, b_inner_parts := b_inner_parts,
    m_inner_parts := PySem.W.mg_of X G mf_inner_parts,
    f_Rings_init := f_Rings_init, d_Rings_init := _, F_Rings_init := F_Rings_init, b_Rings_init := b_Rings_init,
    f_ring_count := f_ring_count, d_ring_count := _, F_ring_count := F_ring_count, b_ring_count := b_ring_count,
    m_ring_count := PySem.W.mg_of X G mf_ring_count,
    f_first_beyond := f_first_beyond, d_first_beyond := _, F_first_beyond := F_first_beyond, b_first_beyond := b_first_beyond,
    m_first_beyond := PySem.W.mg_of X G mf_first_beyond,
    f_ring_beat := f_ring_beat, d_ring_beat := _, F_ring_beat := F_ring_beat, b_ring_beat := b_ring_beat,
    m_ring_beat := PySem.W.mg_of X G mf_ring_beat,
    f_beats_of := f_beats_of, d_beats_of := _, F_beats_of := F_beats_of, b_beats_of := b_beats_of,
    m_beats_of := PySem.W.mg_of X G mf_beats_of,
    f_whole_steps := f_whole_steps, d_whole_steps := _, F_whole_steps := F_whole_steps, b_whole_steps := b_whole_steps,
    m_whole_steps := PySem.W.mg_of X G mf_whole_steps,
    f_joined := f_joined, d_joined := _, F_joined := F_joined, b_joined := b_joined,
    m_joined := PySem.W.mg_of X G mf_joined,
    f_meeting := f_meeting, d_meeting := _, F_meeting := F_meeting, b_meeting := b_meeting,
    m_meeting := PySem.W.mg_of X G mf_meeting,
    f_law := f_law, d_law := _, F_law := F_law, b_law := b_law,
    m_law := PySem.W.mg_of X G mf_law,
    a_Rings := a_Rings, c_Rings := ⟨pg_Rings, hd_Rings, po_Rings, sa_Rings⟩,
    k_Rings := ⟨mk_Rings, mf_Rings_init, fi_Rings_init, kc_Rings⟩, m_Rings := PySem.W.mg_of X G mc_Rings,
    a_Guide := a_Guide, c_Guide := ⟨pg_Guide, hd_Guide, po_Guide, sa_Guide⟩,
    k_Guide := ⟨mk_Guide, mf_Guide_init, fi_Guide_init, kc_Guide⟩, m_Guide := PySem.W.mg_of X G mc_Guide,
    n_Guide_ends := n_Guide_ends,
    n_Guide_forms := n_Guide_forms,
    n_Guide_lengths := n_Guide_lengths,
    n_Guide_limbs := n_Guide_limbs,
    n_Guide_numbers := n_Guide_numbers,
    n_Rings_counts := n_Rings_counts,
    n_Rings_forms := n_Rings_forms,
    n_Rings_long := n_Rings_long,
    n_Rings_named := n_Rings_named,
    h_Guide_look_at := ⟨mf_Guide_look_at, fi_Guide_look_at, kp_Guide_look_at⟩,
    h_Guide_words := ⟨mf_Guide_words, fi_Guide_words, kp_Guide_words⟩,
    h_Rings_ahead := ⟨mf_Rings_ahead, fi_Rings_ahead, kp_Rings_ahead⟩,
    h_Rings_part_rung := ⟨mf_Rings_part_rung, fi_Rings_part_rung, kp_Rings_part_rung⟩,
    g_all := PySem.W.mg_none_of X G g_all,
    g_divmod := PySem.W.mg_none_of X G g_divmod,
    g_enumerate := PySem.W.mg_none_of X G g_enumerate,
    g_int := PySem.W.mg_none_of X G g_int,
    g_isinstance := PySem.W.mg_none_of X G g_isinstance,
    g_len := PySem.W.mg_none_of X G g_len,
    g_list := PySem.W.mg_none_of X G g_list,
    g_max := PySem.W.mg_none_of X G g_max,
    g_range := PySem.W.mg_none_of X G g_range,
    g_set := PySem.W.mg_none_of X G g_set,
    g_sorted := PySem.W.mg_none_of X G g_sorted,
    g_sum := PySem.W.mg_none_of X G g_sum,
    g_tuple := PySem.W.mg_none_of X G g_tuple,
    g_zip := PySem.W.mg_none_of X G g_zip,
    t_LONGEST := t_LONGEST, g_LONGEST := PySem.W.mg_of X G g_LONGEST,
    t_MOST := t_MOST, g_MOST := PySem.W.mg_of X G g_MOST }
  exact ⟨_, fun s v => .of_eq rfl, fun base _ _ => (ok_law (P := l.prog) (w := w) (base := base) T).imp fun vs H Q E h => law_sp T h⟩
theorem walk {l : PySem.W.OpenLaw} {q : Program} {loose : List Str} {XP : (Str → Option Value) → Heap → Prop} {YP : World → Heap → Prop} {d : DefRec} {K : Params → PySem.W.Frag} (hn : l.most = some 63) (hdf : d.params.defaults = [])
    (hY : ∀ (w : World) (h : Heap), YP w h → (K w.params).In h)
    (F : ∀ (w : World) (mg : Str → Option Value) (fa : Addr) (h : Heap), (K w.params).In h → h.Ns mainGlobals mg → mg d.name = some (.ref fa) →
      ∃ fd : FuncData, (∀ (s : Shared) (u : Value), BindsTo s fd ⟨[u], []⟩ [("script", u)]) ∧ ∀ base : Heap, (K w.params).In base → base.Ns mainGlobals mg → FnOk l.prog w (K w.params) mg base (L2.CX l.prog w) 76 fa fd ["script"] (spLaw (K w.params))) :
    PySem.W.WalkO q loose XP YP l.row.toRowW d [] (fun f vs => PySem.call f vs) :=
  L2.walk_of (n := 63) (k := 76) (x := "script") (CX := fun w => L2.CX l.prog w) (sp := fun w => spLaw (K w.params)) hn (by decide) hdf ⟨rfl, by decide, by decide⟩ hY F (fun _ _ a ns hl _ hS => ⟨a, ns, rfl, hS, hl, fun _ => rfl⟩) (fun w => cx_end w)
end DL.Law
open PySem PySem.W PyProof.Rows
set_option maxRecDepth 100000 in
set_option maxHeartbeats 0 in
theorem PySem.Challenge.cw_camplay_k47_small_books_meet_holds : PySem.Challenge.rw_camplay_k47_small_books_meet.Holds := by
  w_on; o_law; k_head; (case hw => w_witness2)
  k_fill
  refine DL.Law.walk (l := PySem.Challenge.rw_camplay_k47_small_books_meet) rfl rfl (fun w h Y => PySem.W.kIn_of Y) ?F
  case F =>
    intro w mg fa h KX G hmg
    refine' DL.Law.all_mk KX G hmg ?mc_Rings ?mc_Guide ?mf_x_law_cell_at ?lk_x_law_cell_at ?co_x_law_cell_at ?kp_x_law_cell_at ?mf_x_law_small ?lk_x_law_small ?co_x_law_small ?kp_x_law_small ?mf_numbers_of ?lk_numbers_of ?co_numbers_of ?kp_numbers_of ?mf_named ?lk_named ?co_named ?kp_named ?mf_moved ?lk_moved ?co_moved ?kp_moved ?mf_look_at_side ?lk_look_at_side ?co_look_at_side ?kp_look_at_side ?mf_length_of ?lk_length_of ?co_length_of ?kp_length_of ?mf_lengths ?lk_lengths ?co_lengths ?kp_lengths ?mf_ends ?lk_ends ?co_ends ?kp_ends ?mf_Guide_init ?fi_Guide_init ?lk_Guide_init ?co_Guide_init ?kp_Guide_init ?mf_Guide_look_at ?fi_Guide_look_at ?lk_Guide_look_at ?co_Guide_look_at ?kp_Guide_look_at ?mf_Guide_words ?fi_Guide_words ?lk_Guide_words ?co_Guide_words ?kp_Guide_words ?mf_rings ?lk_rings ?co_rings ?kp_rings ?mf_turn_of ?lk_turn_of ?co_turn_of ?kp_turn_of ?mf_rings_ever ?lk_rings_ever ?co_rings_ever ?kp_rings_ever ?mf_x_law_first ?lk_x_law_first ?co_x_law_first ?kp_x_law_first ?mf_look_at_beat ?lk_look_at_beat ?co_look_at_beat ?kp_look_at_beat ?mf_Rings_part_rung ?fi_Rings_part_rung ?lk_Rings_part_rung ?co_Rings_part_rung ?kp_Rings_part_rung ?mf_Rings_ahead ?fi_Rings_ahead ?lk_Rings_ahead ?co_Rings_ahead ?kp_Rings_ahead ?mf_inner_parts ?lk_inner_parts ?co_inner_parts ?kp_inner_parts ?mf_Rings_init ?fi_Rings_init ?lk_Rings_init ?co_Rings_init ?kp_Rings_init ?mf_ring_count ?lk_ring_count ?co_ring_count ?kp_ring_count ?mf_first_beyond ?lk_first_beyond ?co_first_beyond ?kp_first_beyond ?mf_ring_beat ?lk_ring_beat ?lt_ring_beat ?co_ring_beat ?kp_ring_beat ?mf_beats_of ?lk_beats_of ?co_beats_of ?kp_beats_of ?mf_whole_steps ?lk_whole_steps ?co_whole_steps ?kp_whole_steps ?mf_joined ?lk_joined ?co_joined ?kp_joined ?mf_meeting ?lk_meeting ?lt_meeting ?co_meeting ?kp_meeting ?mf_law ?lk_law ?co_law ?kp_law ?pg_Rings ?hd_Rings ?po_Rings ?sa_Rings ?mk_Rings ?kc_Rings ?pg_Guide ?hd_Guide ?po_Guide ?sa_Guide ?mk_Guide ?kc_Guide ?n_Guide_ends ?n_Guide_forms ?n_Guide_lengths ?n_Guide_limbs ?n_Guide_numbers ?n_Rings_counts ?n_Rings_forms ?n_Rings_long ?n_Rings_named ?g_all ?g_divmod ?g_enumerate ?g_int ?g_isinstance ?g_len ?g_list ?g_max ?g_range ?g_set ?g_sorted ?g_sum ?g_tuple ?g_zip ?g_LONGEST ?g_MOST
    (case mc_Rings => k_is)
    (case mc_Guide => k_is)
    (case mf_x_law_cell_at => k_is)
    (case lk_x_law_cell_at => k_is)
    (case co_x_law_cell_at => k_is)
    (case kp_x_law_cell_at => k_is)
    (case mf_x_law_small => k_is)
    (case lk_x_law_small => k_is)
    (case co_x_law_small => k_is)
    (case kp_x_law_small => k_is)
    (case mf_numbers_of => k_is)
    (case lk_numbers_of => k_is)
    (case co_numbers_of => k_is)
    (case kp_numbers_of => k_is)
    (case mf_named => k_is)
    (case lk_named => k_is)
    (case co_named => k_is)
    (case kp_named => k_is)
    (case mf_moved => k_is)
    (case lk_moved => k_is)
    (case co_moved => k_is)
    (case kp_moved => k_is)
    (case mf_look_at_side => k_is)
    (case lk_look_at_side => k_is)
    (case co_look_at_side => k_is)
    (case kp_look_at_side => k_is)
    (case mf_length_of => k_is)
    (case lk_length_of => k_is)
    (case co_length_of => k_is)
    (case kp_length_of => k_is)
    (case mf_lengths => k_is)
    (case lk_lengths => k_is)
    (case co_lengths => k_is)
    (case kp_lengths => k_is)
    (case mf_ends => k_is)
    (case lk_ends => k_is)
    (case co_ends => k_is)
    (case kp_ends => k_is)
    (case mf_Guide_init => k_is)
    (case fi_Guide_init => k_is)
    (case lk_Guide_init => k_is)
    (case co_Guide_init => k_is)
    (case kp_Guide_init => k_is)
    (case mf_Guide_look_at => k_is)
    (case fi_Guide_look_at => k_is)
    (case lk_Guide_look_at => k_is)
    (case co_Guide_look_at => k_is)
    (case kp_Guide_look_at => k_is)
    (case mf_Guide_words => k_is)
    (case fi_Guide_words => k_is)
    (case lk_Guide_words => k_is)
    (case co_Guide_words => k_is)
    (case kp_Guide_words => k_is)
    (case mf_rings => k_is)
    (case lk_rings => k_is)
    (case co_rings => k_is)
    (case kp_rings => k_is)
    (case mf_turn_of => k_is)
    (case lk_turn_of => k_is)
    (case co_turn_of => k_is)
    (case kp_turn_of => k_is)
    (case mf_rings_ever => k_is)
    (case lk_rings_ever => k_is)
    (case co_rings_ever => k_is)
    (case kp_rings_ever => k_is)
    (case mf_x_law_first => k_is)
    (case lk_x_law_first => k_is)
    (case co_x_law_first => k_is)
    (case kp_x_law_first => k_is)
    (case mf_look_at_beat => k_is)
    (case lk_look_at_beat => k_is)
    (case co_look_at_beat => k_is)
    (case kp_look_at_beat => k_is)
    (case mf_Rings_part_rung => k_is)
    (case fi_Rings_part_rung => k_is)
    (case lk_Rings_part_rung => k_is)
    (case co_Rings_part_rung => k_is)
    (case kp_Rings_part_rung => k_is)
    (case mf_Rings_ahead => k_is)
    (case fi_Rings_ahead => k_is)
    (case lk_Rings_ahead => k_is)
    (case co_Rings_ahead => k_is)
    (case kp_Rings_ahead => k_is)
    (case mf_inner_parts => k_is)
    (case lk_inner_parts => k_is)
    (case co_inner_parts => k_is)
    (case kp_inner_parts => k_is)
    (case mf_Rings_init => k_is)
    (case fi_Rings_init => k_is)
    (case lk_Rings_init => k_is)
    (case co_Rings_init => k_is)
    (case kp_Rings_init => k_is)
    (case mf_ring_count => k_is)
    (case lk_ring_count => k_is)
    (case co_ring_count => k_is)
    (case kp_ring_count => k_is)
    (case mf_first_beyond => k_is)
    (case lk_first_beyond => k_is)
    (case co_first_beyond => k_is)
    (case kp_first_beyond => k_is)
    (case mf_ring_beat => k_is)
    (case lk_ring_beat => k_is)
    (case lt_ring_beat => k_is)
    (case co_ring_beat => k_is)
    (case kp_ring_beat => k_is)
    (case mf_beats_of => k_is)
    (case lk_beats_of => k_is)
    (case co_beats_of => k_is)
    (case kp_beats_of => k_is)
    (case mf_whole_steps => k_is)
    (case lk_whole_steps => k_is)
    (case co_whole_steps => k_is)
    (case kp_whole_steps => k_is)
    (case mf_joined => k_is)
    (case lk_joined => k_is)
    (case co_joined => k_is)
    (case kp_joined => k_is)
    (case mf_meeting => k_is)
    (case lk_meeting => k_is)
    (case lt_meeting => k_is)
    (case co_meeting => k_is)
    (case kp_meeting => k_is)
    (case mf_law => k_is)
    (case lk_law => k_is)
    (case co_law => k_is)
    (case kp_law => k_is)
    (case pg_Rings => k_is)
    (case hd_Rings => k_is)
    (case po_Rings => k_is)
    (case sa_Rings => k_is)
    (case mk_Rings => k_is)
    (case kc_Rings => k_is)
    (case pg_Guide => k_is)
    (case hd_Guide => k_is)
    (case po_Guide => k_is)
    (case sa_Guide => k_is)
    (case mk_Guide => k_is)
    (case kc_Guide => k_is)
    (case n_Guide_ends => k_is)
    (case n_Guide_forms => k_is)
    (case n_Guide_lengths => k_is)
    (case n_Guide_limbs => k_is)
    (case n_Guide_numbers => k_is)
    (case n_Rings_counts => k_is)
    (case n_Rings_forms => k_is)
    (case n_Rings_long => k_is)
    (case n_Rings_named => k_is)
    (case g_all => k_is)
    (case g_divmod => k_is)
    (case g_enumerate => k_is)
    (case g_int => k_is)
    (case g_isinstance => k_is)
    (case g_len => k_is)
    (case g_list => k_is)
    (case g_max => k_is)
    (case g_range => k_is)
    (case g_set => k_is)
    (case g_sorted => k_is)
    (case g_sum => k_is)
    (case g_tuple => k_is)
    (case g_zip => k_is)
    (case g_LONGEST => k_is)
    (case g_MOST => k_is)
