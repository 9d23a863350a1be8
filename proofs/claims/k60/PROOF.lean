import PyProof.Rows.All
import Wide.All
import OpenK.AllK
import Wide.FinOn
import HandS.ForMost
import HandS.ForExc
import HandS.Exc
import HandS.Wide
import HandS.Deep
import HandS.SortInts
import HandS.Flow
import HandS.CallSlots
import HandS.WideBits
import HandS.TupAny
import HandS.Conv
import HandS.IsInst
import HandS.RevRange
import HandS.Walk
import HandS.Style
import HandS.Zip
import HandS.More
import HandS.SetFor
import HandS.Strs
import HandS.Defaults
import HandS.Rev
import HandS.ExcInit
import HandS.ExcField
import HandS.ExcIs
import HandS.ExcValue
import HandS.Text
import KE.KExcIs
import PySem.Challenge.RW_camplay_k60_refusals_made_by_hand
set_option Elab.async false
set_option linter.all false
set_option maxRecDepth 100000
set_option maxHeartbeats 4000000
set_option autoImplicit false
/-! DL1: data, what stands for it in the abstract heap, states -/
namespace DL
open PySem L2
/-- data that stands still -/
inductive D where
  | non | bl (b : Bool) | int (i : Int) | str (x : Str) | any
  | tup (xs : List D) | lst (xs : List D) | scr (ns : List Int)
  | dct (kvs : List (Key × D)) | obj (c : Nat) (fs : List (Str × D)) | exc (c : Nat) (fs : List (Str × D))
/-- what is owned: a list, a dict by keys, a dict by tuples of keys -/
inductive Lf where
  | lst (ds : List D) | dct (kvs : List (Key × D)) | dcT (kvs : List (List Key × D))
inductive FV where
  | dat (d : D) | own (l : Lf) | hole
inductive MO where
  | lf (l : Lf) | ins (c : Nat) (fs : List (Str × FV)) | rcd (kvs : List (Key × FV)) | tup (xs : List FV)
inductive SV where
  | dat (d : D) | own (m : MO)
abbrev Slots := List (Option SV)
/-- an exception: its class, its fields -/
structure EX where
  cls : Nat
  fs : Option (List (Str × D))

/-- an exception's object at a, of the class at C, its dict at d: it stands still -/
def xob (C a : Addr) (d : Option Addr) : HO := .ext fun h => ∃ (oe : Obj) (vs : Array Value), h.get? a = some oe ∧ Zc (.ref C) d oe ∧ oe.data = .fields vs
section
variable (K : PySem.W.Frag) (κ : Nat → Addr)
mutual
inductive Rp (I : Hp) : V → D → Prop
  | non : Rp I .non .non
  | bl (b : Bool) : Rp I (.bl b) (.bl b)
  | int (i : Int) : Rp I (.int i) (.int i)
  | str (x : Str) : Rp I (.str x) (.str x)
  | any (v : V) : Rp I v .any
  | tup {a : Addr} {vs : List V} {ds : List D} : I a = some (.tup vs) → RpA I vs ds → Rp I (.ref a) (.tup ds)
  | lst {a : Addr} {vs : List V} {ds : List D} : I a = some (.lst vs) → RpA I vs ds → Rp I (.ref a) (.lst ds)
  | scr {a : Addr} {ns : List Int} : SqL K I a (ns.map V.int) → Rp I (.ref a) (.scr ns)
  | dct {a : Addr} {kvs : List (Key × V)} {kds : List (Key × D)} : I a = some (.dK kvs) → RpK I kvs kds → Rp I (.ref a) (.dct kds)
  | obj {a dx : Addr} {c : Nat} {fs : List (Str × V)} {gs : List (Str × D)} : I a = some (.ins (κ c) dx fs) → RpF I fs gs → Rp I (.ref a) (.obj c gs)
  | exc {a dx : Addr} {c : Nat} {fs : List (Str × V)} {gs : List (Str × D)} : I a = some (xob (κ c) a (some dx)) → I dx = some (.xd fs) → RpF I fs gs → Rp I (.ref a) (.exc c gs)
  | exc0 {a : Addr} {c : Nat} : I a = some (xob (κ c) a none) → Rp I (.ref a) (.exc c [])
inductive RpA (I : Hp) : List V → List D → Prop
  | nil : RpA I [] []
  | cons {v : V} {vs : List V} {d : D} {ds : List D} : Rp I v d → RpA I vs ds → RpA I (v :: vs) (d :: ds)
inductive RpK (I : Hp) : List (Key × V) → List (Key × D) → Prop
  | nil : RpK I [] []
  | cons {k : Key} {v : V} {vs : List (Key × V)} {d : D} {ds : List (Key × D)} : Rp I v d → RpK I vs ds → RpK I ((k, v) :: vs) ((k, d) :: ds)
inductive RpF (I : Hp) : List (Str × V) → List (Str × D) → Prop
  | nil : RpF I [] []
  | cons {k : Str} {v : V} {vs : List (Str × V)} {d : D} {ds : List (Str × D)} : Rp I v d → RpF I vs ds → RpF I ((k, v) :: vs) ((k, d) :: ds)
end
end
theorem same_sq {K : PySem.W.Frag} {I I' : Hp} {a : Addr} {xs : List V} (e : Same I I') (h : SqL K I a xs) : SqL K I' a xs := e.seq h
section
variable {K : PySem.W.Frag} {κ : Nat → Addr} {I I' : Hp}
mutual
theorem Rp.mono (e : Same I I') : ∀ {v : V} {d : D}, Rp K κ I v d → Rp K κ I' v d
  | _, _, .non => .non
  | _, _, .bl b => .bl b
  | _, _, .int i => .int i
  | _, _, .str x => .str x
  | _, _, .any x => .any x
  | _, _, .tup h r => .tup (e _ _ h) (RpA.mono e r)
  | _, _, .lst h r => .lst (e _ _ h) (RpA.mono e r)
  | _, _, .scr h => .scr (same_sq e h)
  | _, _, .dct h r => .dct (e _ _ h) (RpK.mono e r)
  | _, _, .obj h r => .obj (e _ _ h) (RpF.mono e r)
  | _, _, .exc h g r => .exc (e _ _ h) (e _ _ g) (RpF.mono e r)
  | _, _, .exc0 h => .exc0 (e _ _ h)
theorem RpA.mono (e : Same I I') : ∀ {v : List V} {d : List D}, RpA K κ I v d → RpA K κ I' v d
  | _, _, .nil => .nil
  | _, _, .cons h r => .cons (Rp.mono e h) (RpA.mono e r)
theorem RpK.mono (e : Same I I') : ∀ {v : List (Key × V)} {d : List (Key × D)}, RpK K κ I v d → RpK K κ I' v d
  | _, _, .nil => .nil
  | _, _, .cons h r => .cons (Rp.mono e h) (RpK.mono e r)
theorem RpF.mono (e : Same I I') : ∀ {v : List (Str × V)} {d : List (Str × D)}, RpF K κ I v d → RpF K κ I' v d
  | _, _, .nil => .nil
  | _, _, .cons h r => .cons (Rp.mono e h) (RpF.mono e r)
end
theorem RpA.length : ∀ {vs : List V} {ds : List D}, RpA K κ I vs ds → vs.length = ds.length
  | _, _, .nil => rfl
  | _, _, .cons _ r => by simp [r.length]
theorem RpA.get : ∀ {vs : List V} {ds : List D} {i : Nat} {d : D}, RpA K κ I vs ds → ds[i]? = some d → ∃ v, vs[i]? = some v ∧ Rp K κ I v d
  | _, _, _, _, .nil, e => by simp at e
  | _, _, 0, _, .cons h _, e => by simp at e; subst e; exact ⟨_, rfl, h⟩
  | _, _, i + 1, d, .cons _ r, e => by
    obtain ⟨v, h1, h2⟩ := r.get (i := i) (d := d) (by simpa using e)
    exact ⟨v, by simpa using h1, h2⟩
theorem RpA.getV : ∀ {vs : List V} {ds : List D} {i : Nat} {v : V}, RpA K κ I vs ds → vs[i]? = some v → ∃ d, ds[i]? = some d ∧ Rp K κ I v d
  | _, _, _, _, .nil, e => by simp at e
  | _, _, 0, _, .cons h _, e => by simp at e; subst e; exact ⟨_, rfl, h⟩
  | _, _, i + 1, d, .cons _ r, e => by
    obtain ⟨v, h1, h2⟩ := r.getV (i := i) (v := d) (by simpa using e)
    exact ⟨v, by simpa using h1, h2⟩
theorem RpA.append : ∀ {vs ws : List V} {ds es : List D}, RpA K κ I vs ds → RpA K κ I ws es → RpA K κ I (vs ++ ws) (ds ++ es)
  | _, _, _, _, .nil, s => s
  | _, _, _, _, .cons h r, s => .cons h (r.append s)
theorem RpA.take : ∀ {vs : List V} {ds : List D} (n : Nat), RpA K κ I vs ds → RpA K κ I (vs.take n) (ds.take n)
  | _, _, 0, _ => by simp; exact .nil
  | _, _, n + 1, .nil => by simp; exact .nil
  | _, _, n + 1, .cons h r => by simp; exact .cons h (r.take n)
theorem RpA.drop : ∀ {vs : List V} {ds : List D} (n : Nat), RpA K κ I vs ds → RpA K κ I (vs.drop n) (ds.drop n)
  | _, _, 0, r => by simpa using r
  | _, _, n + 1, .nil => by simp; exact .nil
  | _, _, n + 1, .cons _ r => by simpa using r.drop n
theorem RpA.set : ∀ {vs : List V} {ds : List D} (n : Nat) {v : V} {d : D}, RpA K κ I vs ds → Rp K κ I v d → RpA K κ I (vs.set n v) (ds.set n d)
  | _, _, _, _, _, .nil, _ => by simp; exact .nil
  | _, _, 0, _, _, .cons _ r, h => by simp; exact .cons h r
  | _, _, n + 1, _, _, .cons g r, h => by simp; exact .cons g (r.set n h)
theorem RpA.reverse : ∀ {vs : List V} {ds : List D}, RpA K κ I vs ds → RpA K κ I vs.reverse ds.reverse
  | _, _, .nil => .nil
  | _, _, .cons h r => by simp; exact r.reverse.append (.cons h .nil)
theorem RpA.rep {vs : List V} {ds : List D} (h : RpA K κ I vs ds) : ∀ k : Nat, RpA K κ I (List.replicate k vs).flatten (List.replicate k ds).flatten
  | 0 => by simp; exact .nil
  | k + 1 => by simp only [List.replicate_succ, List.flatten_cons]; exact h.append (RpA.rep h k)
theorem RpA.eraseIdx : ∀ {vs : List V} {ds : List D} (n : Nat), RpA K κ I vs ds → RpA K κ I (vs.eraseIdx n) (ds.eraseIdx n)
  | _, _, _, .nil => by simp; exact .nil
  | _, _, 0, .cons _ r => by simpa using r
  | _, _, n + 1, .cons h r => by simp; exact .cons h (r.eraseIdx n)
theorem RpA.dropLast : ∀ {vs : List V} {ds : List D}, RpA K κ I vs ds → RpA K κ I vs.dropLast ds.dropLast := fun {vs ds} h => by
  rw [List.dropLast_eq_take, List.dropLast_eq_take, h.length]; exact h.take _
theorem RpA.ints : ∀ {ns : List Int}, RpA K κ I (ns.map V.int) (ns.map D.int)
  | [] => .nil
  | _ :: _ => .cons (.int _) RpA.ints
theorem RpA.ofInts : ∀ {vs : List V} {ns : List Int}, RpA K κ I vs (ns.map D.int) → vs = ns.map V.int
  | _, [], .nil => rfl
  | _, _ :: _, .cons (.int _) r => by rw [r.ofInts]; rfl
theorem RpA.strs : ∀ {ns : List Str}, RpA K κ I (ns.map V.str) (ns.map D.str)
  | [] => .nil
  | _ :: _ => .cons (.str _) RpA.strs
theorem RpA.ofStrs : ∀ {vs : List V} {ns : List Str}, RpA K κ I vs (ns.map D.str) → vs = ns.map V.str
  | _, [], .nil => rfl
  | _, _ :: _, .cons (.str _) r => by rw [r.ofStrs]; rfl
theorem RpA.bls : ∀ {ns : List Bool}, RpA K κ I (ns.map V.bl) (ns.map D.bl)
  | [] => .nil
  | _ :: _ => .cons (.bl _) RpA.bls
theorem RpA.ofBls : ∀ {vs : List V} {ns : List Bool}, RpA K κ I vs (ns.map D.bl) → vs = ns.map V.bl
  | _, [], .nil => rfl
  | _, _ :: _, .cons (.bl _) r => by rw [r.ofBls]; rfl
end

/-! ### dicts of data -/
section
variable {κ' : Type} [DecidableEq κ']
def getK (kvs : List (κ' × D)) (k : κ') : Option D := (kvs.find? fun kv => decide (kv.1 = k)).map (·.2)
def setK {β : Type} (kvs : List (κ' × β)) (k : κ') (v : β) : List (κ' × β) :=
  if (kvs.any fun kv => decide (kv.1 = k)) = true then kvs.map (fun kv => if kv.1 = k then (kv.1, v) else kv) else kvs ++ [(k, v)]
end
inductive RpT (K : PySem.W.Frag) (κ : Nat → Addr) (I : Hp) : List (List Key × V) → List (List Key × D) → Prop
  | nil : RpT K κ I [] []
  | cons {k : List Key} {v : V} {vs : List (List Key × V)} {d : D} {ds : List (List Key × D)} : Rp K κ I v d → RpT K κ I vs ds → RpT K κ I ((k, v) :: vs) ((k, d) :: ds)

section
variable (K : PySem.W.Frag) (κ : Nat → Addr) (I H : Hp)
inductive OwL : V → Lf → List Addr → Prop
  | lst {a : Addr} {vs : List V} {ds : List D} : H a = some (.lst vs) → RpA K κ I vs ds → OwL (.ref a) (.lst ds) [a]
  | dct {a : Addr} {vs : List (Key × V)} {ds : List (Key × D)} : H a = some (.dK vs) → RpK K κ I vs ds → OwL (.ref a) (.dct ds) [a]
  | dcT {a : Addr} {vs : List (List Key × V)} {ds : List (List Key × D)} : H a = some (.dT vs) → RpT K κ I vs ds → OwL (.ref a) (.dcT ds) [a]
inductive OwF : V → FV → List Addr → Prop
  | dat {v : V} {d : D} : Rp K κ I v d → OwF v (.dat d) []
  | own {v : V} {l : Lf} {fp : List Addr} : OwL K κ I H v l fp → OwF v (.own l) fp
  | hole {v : V} : OwF v .hole []
inductive OwFs {α : Type} : List (α × V) → List (α × FV) → List Addr → Prop
  | nil : OwFs [] [] []
  | cons {f : α} {v : V} {x : FV} {fp fq : List Addr} {vs : List (α × V)} {xs : List (α × FV)} : OwF K κ I H v x fp → OwFs vs xs fq → OwFs ((f, v) :: vs) ((f, x) :: xs) (fp ++ fq)
inductive OwT : List V → List FV → List Addr → Prop
  | nil : OwT [] [] []
  | cons {v : V} {x : FV} {fp fq : List Addr} {vs : List V} {xs : List FV} : OwF K κ I H v x fp → OwT vs xs fq → OwT (v :: vs) (x :: xs) (fp ++ fq)
inductive OwM : V → MO → List Addr → Prop
  | lf {v : V} {l : Lf} {fp : List Addr} : OwL K κ I H v l fp → OwM v (.lf l) fp
  | ins {a dx : Addr} {c : Nat} {vs : List (Str × V)} {xs : List (Str × FV)} {fp : List Addr} : H a = some (.ins (κ c) dx vs) → OwFs K κ I H vs xs fp → OwM (.ref a) (.ins c xs) (a :: fp)
  | rcd {a : Addr} {vs : List (Key × V)} {xs : List (Key × FV)} {fp : List Addr} : H a = some (.dK vs) → OwFs K κ I H vs xs fp → OwM (.ref a) (.rcd xs) (a :: fp)
  | tup {a : Addr} {vs : List V} {xs : List FV} {fp : List Addr} : H a = some (.tup vs) → OwT K κ I H vs xs fp → OwM (.ref a) (.tup xs) (a :: fp)
inductive OwS : V → SV → List Addr → Prop
  | dat {v : V} {d : D} : Rp K κ I v d → OwS v (.dat d) []
  | own {v : V} {m : MO} {fp : List Addr} : OwM K κ I H v m fp → OwS v (.own m) fp
inductive EnvR : List (Option V) → Slots → List Addr → Prop
  | nil : EnvR [] [] []
  | no {x : Option V} {σ : List (Option V)} {env : Slots} {fp : List Addr} : EnvR σ env fp → EnvR (x :: σ) (none :: env) fp
  | so {v : V} {x : SV} {σ : List (Option V)} {env : Slots} {fp fq : List Addr} : OwS K κ I H v x fp → EnvR σ env fq → EnvR (some v :: σ) (some x :: env) (fp ++ fq)
end
section
variable {K : PySem.W.Frag} {κ : Nat → Addr} {I I' H H' : Hp}
theorem RpT.mono (e : Same I I') : ∀ {v : List (List Key × V)} {d : List (List Key × D)}, RpT K κ I v d → RpT K κ I' v d
  | _, _, .nil => .nil
  | _, _, .cons h r => .cons (h.mono e) (r.mono e)
theorem OwL.mono (e : Same I I') {v : V} {l : Lf} {fp : List Addr} (h : OwL K κ I H v l fp) (k : ∀ a ∈ fp, H' a = H a) : OwL K κ I' H' v l fp := by
  cases h with
  | lst h r => exact .lst ((k _ (by simp)).trans h) (r.mono e)
  | dct h r => exact .dct ((k _ (by simp)).trans h) (r.mono e)
  | dcT h r => exact .dcT ((k _ (by simp)).trans h) (r.mono e)
theorem OwF.mono (e : Same I I') {v : V} {l : FV} {fp : List Addr} (h : OwF K κ I H v l fp) (k : ∀ a ∈ fp, H' a = H a) : OwF K κ I' H' v l fp := by
  cases h with
  | dat r => exact .dat (r.mono e)
  | own r => exact .own (r.mono e k)
  | hole => exact .hole
theorem OwFs.mono {α : Type} (e : Same I I') : ∀ {vs : List (α × V)} {xs : List (α × FV)} {fp : List Addr}, OwFs K κ I H vs xs fp → (∀ a ∈ fp, H' a = H a) → OwFs K κ I' H' vs xs fp
  | _, _, _, .nil, _ => .nil
  | _, _, _, .cons h r, k => .cons (h.mono e fun a ha => k a (List.mem_append_left _ ha)) (r.mono e fun a ha => k a (List.mem_append_right _ ha))
theorem OwT.mono (e : Same I I') : ∀ {vs : List V} {xs : List FV} {fp : List Addr}, OwT K κ I H vs xs fp → (∀ a ∈ fp, H' a = H a) → OwT K κ I' H' vs xs fp
  | _, _, _, .nil, _ => .nil
  | _, _, _, .cons h r, k => .cons (h.mono e fun a ha => k a (List.mem_append_left _ ha)) (r.mono e fun a ha => k a (List.mem_append_right _ ha))
theorem OwM.mono (e : Same I I') {v : V} {l : MO} {fp : List Addr} (h : OwM K κ I H v l fp) (k : ∀ a ∈ fp, H' a = H a) : OwM K κ I' H' v l fp := by
  cases h with
  | lf r => exact .lf (r.mono e k)
  | ins h r => exact .ins ((k _ (by simp)).trans h) (r.mono e fun a ha => k a (List.mem_cons_of_mem _ ha))
  | rcd h r => exact .rcd ((k _ (by simp)).trans h) (r.mono e fun a ha => k a (List.mem_cons_of_mem _ ha))
  | tup h r => exact .tup ((k _ (by simp)).trans h) (r.mono e fun a ha => k a (List.mem_cons_of_mem _ ha))
theorem OwS.mono (e : Same I I') {v : V} {l : SV} {fp : List Addr} (h : OwS K κ I H v l fp) (k : ∀ a ∈ fp, H' a = H a) : OwS K κ I' H' v l fp := by
  cases h with
  | dat r => exact .dat (r.mono e)
  | own r => exact .own (r.mono e k)
theorem EnvR.mono (e : Same I I') : ∀ {σ : List (Option V)} {env : Slots} {fp : List Addr}, EnvR K κ I H σ env fp → (∀ a ∈ fp, H' a = H a) → EnvR K κ I' H' σ env fp
  | _, _, _, .nil, _ => .nil
  | _, _, _, .no r, k => .no (r.mono e k)
  | _, _, _, .so h r, k => .so (h.mono e fun a ha => k a (List.mem_append_left _ ha)) (r.mono e fun a ha => k a (List.mem_append_right _ ha))
theorem EnvR.length : ∀ {σ : List (Option V)} {env : Slots} {fp : List Addr}, EnvR K κ I H σ env fp → σ.length = env.length
  | _, _, _, .nil => rfl
  | _, _, _, .no r => by simp [r.length]
  | _, _, _, .so _ r => by simp [r.length]
/-- a slot is taken out -/
theorem EnvR.get : ∀ {σ : List (Option V)} {env : Slots} {fp : List Addr} {i : Nat} {x : SV}, EnvR K κ I H σ env fp → env[i]? = some (some x) →
    ∃ v f1 f2, σ[i]? = some (some v) ∧ OwS K κ I H v x f1 ∧ EnvR K κ I H σ (env.set i none) f2 ∧ (f1 ++ f2).Perm fp
  | _, _, _, _, _, .nil, e => by simp at e
  | _, _, _, 0, _, .no r, e => by simp at e
  | _, _, _, i + 1, x, .no r, e => by
    obtain ⟨v, f1, f2, h1, h2, h3, h4⟩ := r.get (i := i) (x := x) (by simpa using e)
    exact ⟨v, f1, f2, by simpa using h1, h2, by simpa using EnvR.no h3, h4⟩
  | _, _, _, 0, x, .so h r, e => by
    simp at e; subst e
    exact ⟨_, _, _, rfl, h, by simpa using EnvR.no r, .refl _⟩
  | _, _, _, i + 1, x, .so (fp := g1) (fq := g2) h r, e => by
    obtain ⟨v, f1, f2, h1, h2, h3, h4⟩ := r.get (i := i) (x := x) (by simpa using e)
    refine ⟨v, f1, g1 ++ f2, by simpa using h1, h2, by simpa using EnvR.so h h3, ?_⟩
    refine (List.perm_append_comm_assoc f1 g1 f2).trans ?_
    exact h4.append_left g1
/-- .. and laid in -/
theorem EnvR.put : ∀ {σ : List (Option V)} {env : Slots} {f2 : List Addr} {i : Nat} {x : SV} {v : V} {f1 : List Addr}, EnvR K κ I H σ env f2 → env[i]? = some none → σ[i]? = some (some v) → OwS K κ I H v x f1 →
    ∃ fp, EnvR K κ I H σ (env.set i (some x)) fp ∧ (f1 ++ f2).Perm fp
  | _, _, _, _, _, _, _, .nil, e, _, _ => by simp at e
  | _, _, _, 0, _, _, _, .so h r, e, _, _ => by simp at e
  | _, _, _, 0, x, v, f1, .no r, e, e2, h => by
    simp at e2; subst e2
    exact ⟨_, by simpa using EnvR.so h r, .refl _⟩
  | _, _, _, i + 1, x, v, f1, .no r, e, e2, h => by
    obtain ⟨fp, h1, h2⟩ := r.put (i := i) (x := x) (by simpa using e) (by simpa using e2) h
    exact ⟨fp, by simpa using EnvR.no h1, h2⟩
  | _, _, _, i + 1, x, v, f1, .so (fp := g1) (fq := g2) g r, e, e2, h => by
    obtain ⟨fp, h1, h2⟩ := r.put (i := i) (x := x) (by simpa using e) (by simpa using e2) h
    exact ⟨g1 ++ fp, by simpa using EnvR.so g h1, (List.perm_append_comm_assoc f1 g1 g2).trans (h2.append_left g1)⟩
/-- a slot is forgotten -/
theorem EnvR.forget : ∀ {σ : List (Option V)} {env : Slots} {fp : List Addr} (i : Nat), EnvR K κ I H σ env fp → ∃ f1 f2, EnvR K κ I H σ (env.set i none) f2 ∧ (f1 ++ f2).Perm fp
  | _, _, _, _, .nil => ⟨[], [], by simpa using EnvR.nil, .refl _⟩
  | _, _, fp, 0, .no r => ⟨[], fp, by simpa using EnvR.no r, .refl _⟩
  | _, _, _, 0, .so (fp := g1) (fq := g2) _ r => ⟨g1, g2, by simpa using EnvR.no r, .refl _⟩
  | _, _, fp, i + 1, .no r => by
    obtain ⟨f1, f2, h1, h2⟩ := r.forget i
    exact ⟨f1, f2, by simpa using EnvR.no h1, h2⟩
  | _, _, _, i + 1, .so (fp := g1) (fq := g2) g r => by
    obtain ⟨f1, f2, h1, h2⟩ := r.forget i
    exact ⟨f1, g1 ++ f2, by simpa using EnvR.so g h1, (List.perm_append_comm_assoc f1 g1 f2).trans (h2.append_left g1)⟩
/-- the slots' own values may change where nothing is told -/
theorem EnvR.store : ∀ {σ : List (Option V)} {env : Slots} {fp : List Addr} {i : Nat} (x : Option V), EnvR K κ I H σ env fp → (∀ y, env[i]? ≠ some (some y)) → EnvR K κ I H (σ.set i x) env fp
  | _, _, _, _, _, .nil, _ => by simpa using EnvR.nil
  | _, _, _, 0, x, .no r, _ => by simpa using EnvR.no r
  | _, _, _, 0, x, .so _ _, e => absurd rfl (e _)
  | _, _, _, i + 1, x, .no r, e => by simpa using EnvR.no (r.store (i := i) x (fun y q => e y (by simpa using q)))
  | _, _, _, i + 1, x, .so g r, e => by simpa using EnvR.so g (r.store (i := i) x (fun y q => e y (by simpa using q)))
end

/-! ### the state -/
structure Rel (I F H : Hp) (fp : List Addr) : Prop where
  ext : Same I H
  frm : Same F H
  nd : fp.Nodup
  nI : ∀ a ∈ fp, I a = none
  nF : ∀ a ∈ fp, F a = none
  tr : ∀ a ∈ fp, H a ≠ none
theorem Rel.perm {I F H : Hp} {l l' : List Addr} (p : l.Perm l') (r : Rel I F H l) : Rel I F H l' :=
  ⟨r.ext, r.frm, p.nodup_iff.mp r.nd, fun a h => r.nI a (p.mem_iff.mpr h), fun a h => r.nF a (p.mem_iff.mpr h), fun a h => r.tr a (p.mem_iff.mpr h)⟩
theorem Rel.sub {I F H : Hp} {l1 l : List Addr} (r : Rel I F H (l1 ++ l)) : Rel I F H l :=
  ⟨r.ext, r.frm, (List.nodup_append.mp r.nd).2.1, fun a h => r.nI a (List.mem_append_right _ h), fun a h => r.nF a (List.mem_append_right _ h), fun a h => r.tr a (List.mem_append_right _ h)⟩
structure Step (F I I' : Hp) : Prop where
  ext : Same I I'
  ap : ∀ a o, F a = some o → I a = none → I' a = none
theorem Step.refl (F I : Hp) : Step F I I := ⟨Same.refl I, fun _ _ _ h => h⟩
theorem Step.trans {F I I1 I2 : Hp} (a : Step F I I1) (b : Step F I1 I2) : Step F I I2 := ⟨a.ext.trans b.ext, fun x o h1 h2 => b.ap x o h1 (a.ap x o h1 h2)⟩
section
variable (K : PySem.W.Frag) (κ : Nat → Addr)
structure Ok (I F H : Hp) (σ : L2.St) (env : Slots) (nfp : List Addr) : Prop where
  ex : ∃ fp, EnvR K κ I H σ env fp ∧ Rel I F H (nfp ++ fp)
inductive RE (α : Type) where
  | ok (a : α) (env : Slots)
  | exc (e : EX) (env : Slots)
  | stuck
abbrev EM (α : Type) := Slots → RE α
/-- an exception's class and fields -/
inductive ExR (I : Hp) : EX → Value → Option Addr → Prop
  | plain (c : Nat) : ExR I ⟨c, none⟩ (.ref (κ c)) none
  | flds {c : Nat} {dd : Addr} {vs : List (Str × V)} {fs : List (Str × D)} : I dd = some (.xd vs) → RpF K κ I vs fs → ExR I ⟨c, some fs⟩ (.ref (κ c)) (some dd)
end
def RE.bind {α β : Type} (r : RE α) (g : α → EM β) : RE β := match r with
  | .ok a env => g a env
  | .exc e env => .exc e env
  | .stuck => .stuck
def EM.bind {α β : Type} (f : EM α) (g : α → EM β) : EM β := fun env => (f env).bind g
def EM.pure {α : Type} (a : α) : EM α := fun env => .ok a env
def lift {α : Type} (o : Option α) : EM α := fun env => match o with
  | some a => .ok a env
  | none => .stuck
section
variable {K : PySem.W.Frag} {κ : Nat → Addr} {I I' F H H' : Hp} {σ : L2.St} {env : Slots} {nfp : List Addr}
theorem Ok.ext (o : Ok K κ I F H σ env nfp) : Same I H := let ⟨_, _, r⟩ := o.ex; r.ext
theorem Ok.frm (o : Ok K κ I F H σ env nfp) : Same F H := let ⟨_, _, r⟩ := o.ex; r.frm
theorem Ok.len (o : Ok K κ I F H σ env nfp) : σ.length = env.length := let ⟨_, e, _⟩ := o.ex; e.length
theorem upd_fresh {H : Hp} {p : Addr} {o : HO} (h : H p = none) : Same H (upd H p o) := fun a u e => by
  rw [upd_ne (ne_of_none e h)]; exact e
theorem same_back {H H' : Hp} (e : Same H H') {p : Addr} (h : H' p = none) : H p = none := by
  cases q : H p with
  | none => rfl
  | some o => rw [e p o q] at h; cases h
/-- a new thing that will stand still -/
theorem Ok.newI {p : Addr} {o : HO} (k : Ok K κ I F H σ env nfp) (hp : H p = none) : Ok K κ (upd I p o) F (upd H p o) σ env nfp ∧ Step F I (upd I p o) ∧ (upd I p o) p = some o := by
  obtain ⟨fp, e, r⟩ := k.ex
  have hI : I p = none := same_back r.ext hp
  have nep : ∀ a ∈ nfp ++ fp, a ≠ p := fun a h z => r.tr a h (by rw [z]; exact hp)
  refine ⟨⟨fp, e.mono (upd_fresh hI) fun a h => upd_ne (nep a (List.mem_append_right _ h)), ⟨fun a u q => ?_, fun a u q => ?_, r.nd, fun a h => ?_, r.nF, fun a h => ?_⟩⟩, ⟨upd_fresh hI, fun a u q1 q2 => ?_⟩, upd_same⟩
  · by_cases z : a = p
    · subst z; rw [upd_same] at q ⊢; exact q
    · rw [upd_ne z] at q ⊢; exact r.ext a u q
  · rw [upd_ne (ne_of_none (r.frm a u q) hp)]; exact r.frm a u q
  · rw [upd_ne (nep a h)]; exact r.nI a h
  · rw [upd_ne (nep a h)]; exact r.tr a h
  · rw [upd_ne (ne_of_none (r.frm a u q1) hp)]; exact q2
/-- a new thing that is owned -/
theorem Ok.newO {p : Addr} {o : HO} (k : Ok K κ I F H σ env nfp) (hp : H p = none) : Ok K κ I F (upd H p o) σ env (p :: nfp) := by
  obtain ⟨fp, e, r⟩ := k.ex
  have hI : I p = none := same_back r.ext hp
  have hF : F p = none := same_back r.frm hp
  have nep : ∀ a ∈ nfp ++ fp, a ≠ p := fun a h z => r.tr a h (by rw [z]; exact hp)
  refine ⟨fp, e.mono (Same.refl I) fun a h => upd_ne (nep a (List.mem_append_right _ h)), ⟨fun a u q => ?_, fun a u q => ?_, ?_, ?_, ?_, ?_⟩⟩
  · rw [upd_ne (ne_of_none (r.ext a u q) hp)]; exact r.ext a u q
  · rw [upd_ne (ne_of_none (r.frm a u q) hp)]; exact r.frm a u q
  · rw [List.cons_append]; exact List.nodup_cons.mpr ⟨fun h => nep p h rfl, r.nd⟩
  · rw [List.cons_append]; intro a h; rcases List.mem_cons.mp h with rfl | h
    · exact hI
    · exact r.nI a h
  · rw [List.cons_append]; intro a h; rcases List.mem_cons.mp h with rfl | h
    · exact hF
    · exact r.nF a h
  · rw [List.cons_append]; intro a h; rcases List.mem_cons.mp h with rfl | h
    · rw [upd_same]; exact fun z => nomatch z
    · rw [upd_ne (nep a h)]; exact r.tr a h
/-- what is owned is written -/
theorem Ok.write {a : Addr} {o : HO} {l : List Addr} (k : Ok K κ I F H σ env (a :: l)) : Ok K κ I F (upd H a o) σ env (a :: l) := by
  obtain ⟨fp, e, r⟩ := k.ex
  have nd := r.nd
  rw [List.cons_append] at nd
  have na := (List.nodup_cons.mp nd).1
  refine ⟨fp, e.mono (Same.refl I) fun b h => upd_ne (fun z => na (by rw [← z]; exact List.mem_append_right _ h)), ⟨fun b u q => ?_, fun b u q => ?_, r.nd, r.nI, r.nF, fun b h => ?_⟩⟩
  · have : b ≠ a := fun z => by subst z; rw [r.nI b (by simp)] at q; cases q
    rw [upd_ne this]; exact r.ext b u q
  · have : b ≠ a := fun z => by subst z; rw [r.nF b (by simp)] at q; cases q
    rw [upd_ne this]; exact r.frm b u q
  · by_cases z : b = a
    · subst z; rw [upd_same]; exact fun z => nomatch z
    · rw [upd_ne z]; exact r.tr b h
theorem Ok.perm {l l' : List Addr} (p : l.Perm l') (k : Ok K κ I F H σ env l) : Ok K κ I F H σ env l' := by
  obtain ⟨fp, e, r⟩ := k.ex
  exact ⟨fp, e, r.perm (p.append_right fp)⟩
theorem Ok.drop {l l' : List Addr} (k : Ok K κ I F H σ env (l ++ l')) : Ok K κ I F H σ env l' := by
  obtain ⟨fp, e, r⟩ := k.ex
  rw [List.append_assoc] at r
  exact ⟨fp, e, r.sub⟩
/-- a slot taken out, its footprint beside -/
theorem Ok.get {i : Nat} {x : SV} (k : Ok K κ I F H σ env nfp) (h : env[i]? = some (some x)) : ∃ v f1, σ[i]? = some (some v) ∧ OwS K κ I H v x f1 ∧ Ok K κ I F H σ (env.set i none) (f1 ++ nfp) := by
  obtain ⟨fp, e, r⟩ := k.ex
  obtain ⟨v, f1, f2, h1, h2, h3, h4⟩ := e.get h
  refine ⟨v, f1, h1, h2, ⟨f2, h3, r.perm ?_⟩⟩
  refine (h4.symm.append_left nfp).trans ?_
  rw [List.append_assoc]
  exact List.perm_append_comm_assoc nfp f1 f2
theorem Ok.put {i : Nat} {x : SV} {v : V} {f1 : List Addr} (k : Ok K κ I F H σ env (f1 ++ nfp)) (h : env[i]? = some none) (hv : σ[i]? = some (some v)) (ho : OwS K κ I H v x f1) : Ok K κ I F H σ (env.set i (some x)) nfp := by
  obtain ⟨fp, e, r⟩ := k.ex
  obtain ⟨fq, h1, h2⟩ := e.put h hv ho
  refine ⟨fq, h1, r.perm ?_⟩
  rw [List.append_assoc]
  exact (List.perm_append_comm_assoc f1 nfp fp).trans (h2.append_left nfp)
theorem Ok.forget (i : Nat) (k : Ok K κ I F H σ env nfp) : Ok K κ I F H σ (env.set i none) nfp := by
  obtain ⟨fp, e, r⟩ := k.ex
  obtain ⟨f1, f2, h1, h2⟩ := e.forget i
  have := r.perm ((h2.symm.append_left nfp).trans (List.perm_append_comm_assoc nfp f1 f2))
  exact ⟨f2, h1, this.sub⟩
theorem Ok.store {i : Nat} {v : V} {x : SV} {f1 : List Addr} (k : Ok K κ I F H σ env (f1 ++ nfp)) (hi : i < env.length) (ho : OwS K κ I H v x f1) : Ok K κ I F H (σ.set i (some v)) (env.set i (some x)) nfp := by
  have k1 := k.forget i
  obtain ⟨fp, e, r⟩ := k1.ex
  have e2 := e.store (i := i) (some v) (fun y q => by rw [List.getElem?_set_self hi] at q; cases q)
  have k2 : Ok K κ I F H (σ.set i (some v)) (env.set i none) (f1 ++ nfp) := ⟨fp, e2, r⟩
  have hl : i < σ.length := by rw [k.len]; exact hi
  have := k2.put (i := i) (by rw [List.getElem?_set_self hi]) (by rw [List.getElem?_set_self hl]) ho
  rwa [List.set_set] at this
/-- beside, into the frame: and back -/
def addF (F H : Hp) (l : List Addr) : Hp := fun a => if a ∈ l then H a else F a
theorem Ok.frame {l : List Addr} (k : Ok K κ I F H σ env (l ++ nfp)) : Ok K κ I (addF F H l) H σ env nfp := by
  obtain ⟨fp, e, r⟩ := k.ex
  rw [List.append_assoc] at r
  refine ⟨fp, e, ⟨r.ext, fun a o q => ?_, r.sub.nd, r.sub.nI, fun a h => ?_, r.sub.tr⟩⟩
  · unfold addF at q; split at q
    · exact q
    · exact r.frm a o q
  · have : a ∉ l := fun z => (List.nodup_append.mp r.nd).2.2 a z a h rfl
    unfold addF; rw [if_neg this]; exact r.nF a (List.mem_append_right _ h)
theorem Ok.unframe {l nfp' : List Addr} {σ' : L2.St} {env' : Slots} (k : Ok K κ I F H σ env (l ++ nfp)) (k' : Ok K κ I' (addF F H l) H' σ' env' nfp') (st : Step (addF F H l) I I') :
    Ok K κ I' F H' σ' env' (l ++ nfp') ∧ (∀ a ∈ l, H' a = H a) ∧ Step F I I' := by
  obtain ⟨fp, e, r⟩ := k.ex
  obtain ⟨fp', e', r'⟩ := k'.ex
  rw [List.append_assoc] at r
  have at_ : ∀ a ∈ l, ∃ o, H a = some o ∧ addF F H l a = some o := fun a h => by
    cases q : H a with
    | none => exact absurd q (r.tr a (List.mem_append_left _ h))
    | some o => exact ⟨o, rfl, by unfold addF; rw [if_pos h]; exact q⟩
  have keep : ∀ a ∈ l, H' a = H a := fun a h => by
    obtain ⟨o, h1, h2⟩ := at_ a h
    rw [h1]; exact r'.frm a o h2
  have FF : ∀ a o, F a = some o → addF F H l a = some o := fun a o q => by
    unfold addF; split
    · exact r.frm a o q
    · exact q
  refine ⟨⟨fp', e', ⟨r'.ext, fun a o q => r'.frm a o (FF a o q), ?_, ?_, ?_, ?_⟩⟩, keep, ⟨st.ext, fun a o q1 q2 => st.ap a o (FF a o q1) q2⟩⟩
  · rw [List.append_assoc]
    refine List.nodup_append.mpr ⟨(List.nodup_append.mp r.nd).1, r'.nd, fun a h b h2 z => ?_⟩
    subst z
    obtain ⟨o, _, h3⟩ := at_ a h
    rw [r'.nF a h2] at h3; cases h3
  · rw [List.append_assoc]; intro a h; rcases List.mem_append.mp h with h | h
    · obtain ⟨o, _, h3⟩ := at_ a h
      exact st.ap a o h3 (r.nI a (List.mem_append_left _ h))
    · exact r'.nI a h
  · rw [List.append_assoc]; intro a h; rcases List.mem_append.mp h with h | h
    · exact r.nF a (List.mem_append_left _ h)
    · have := r'.nF a h
      cases q : F a with
      | none => rfl
      | some o => rw [FF a o q] at this; cases this
  · rw [List.append_assoc]; intro a h; rcases List.mem_append.mp h with h | h
    · rw [keep a h]; exact r.tr a (List.mem_append_left _ h)
    · exact r'.tr a h
/-- the owned things at l stand still from now on -/
def frz (I H : Hp) (l : List Addr) : Hp := fun a => if a ∈ l then H a else I a
theorem Ok.freeze {l : List Addr} (k : Ok K κ I F H σ env (l ++ nfp)) : Ok K κ (frz I H l) F H σ env nfp ∧ Step F I (frz I H l) := by
  obtain ⟨fp, e, r⟩ := k.ex
  rw [List.append_assoc] at r
  have ex : Same I (frz I H l) := fun a o q => by unfold frz; split
                                                  · exact r.ext a o q
                                                  · exact q
  refine ⟨⟨fp, e.mono ex fun _ _ => rfl, ⟨fun a o q => ?_, r.frm, r.sub.nd, fun a h => ?_, r.sub.nF, r.sub.tr⟩⟩, ⟨ex, fun a o q1 q2 => ?_⟩⟩
  · unfold frz at q; split at q
    · exact q
    · exact r.ext a o q
  · have : a ∉ l := fun z => (List.nodup_append.mp r.nd).2.2 a z a h rfl
    unfold frz; rw [if_neg this]; exact r.nI a (List.mem_append_right _ h)
  · have : a ∉ l := fun z => by rw [r.nF a (List.mem_append_left _ z)] at q1; cases q1
    unfold frz; rw [if_neg this]; exact q2
end
end DL

/-! DL2: readings by mirrors -/
namespace DL
open PySem L2
section
variable (K : PySem.W.Frag) (κ : Nat → Addr)
/-- what comes of a result r: R tells of a value b that it stands for a -/
def Post {α β : Type} (R : Hp → Hp → β → α → List Addr → Prop) (W : WX) (I F : Hp) (σ : L2.St) (Q : β → Hp → Prop) : RE α → Prop
  | .ok a env' => ∀ I' H' b nfp, Step F I I' → Ok K κ I' F H' σ env' nfp → R I' H' b a nfp → Q b H'
  | .exc e env' => ∀ I' H' cls dd, Step F I I' → Ok K κ I' F H' σ env' [] → ExR K κ I' e cls dd → W cls dd σ H'
  | .stuck => False
def tG {α β : Type} (R : Hp → Hp → β → α → List Addr → Prop) (W : WX) (f : EM α) : L2.St → Hp → (β → Hp → Prop) → Prop := fun σ H Q =>
  ∃ I F env, Ok K κ I F H σ env [] ∧ Post K κ R W I F σ Q (f env)
def RD : Hp → Hp → V → D → List Addr → Prop := fun I _ v d nfp => Rp K κ I v d ∧ nfp = []
def RS : Hp → Hp → V → SV → List Addr → Prop := fun I H v d nfp => OwS K κ I H v d nfp
def RB : Hp → Hp → Bool → Bool → List Addr → Prop := fun _ _ b d nfp => b = d ∧ nfp = []
def RA : Hp → Hp → List V → List D → List Addr → Prop := fun I _ v d nfp => RpA K κ I v d ∧ nfp = []
abbrev teD (W : WX) (f : EM D) : TE := tG K κ (RD K κ) W f
abbrev teS (W : WX) (f : EM SV) : TE := tG K κ (RS K κ) W f
abbrev ttD (W : WX) (f : EM Bool) : TT := tG K κ RB W f
abbrev taD (W : WX) (f : EM (List D)) : TA := tG K κ (RA K κ) W f
end
section
variable {K : PySem.W.Frag} {κ : Nat → Addr} {I I' F H H' : Hp} {σ : L2.St} {env : Slots} {W : WX}
theorem Post.step {α β : Type} {R : Hp → Hp → β → α → List Addr → Prop} {Q : β → Hp → Prop} {r : RE α} (p : Post K κ R W I F σ Q r) (s : Step F I I') : Post K κ R W I' F σ Q r := by
  cases r with
  | ok a env' => exact fun I2 H2 b nfp s2 o h => p I2 H2 b nfp (s.trans s2) o h
  | exc e env' => exact fun I2 H2 c d s2 o h => p I2 H2 c d (s.trans s2) o h
  | stuck => exact p
theorem Post.mono {α β : Type} {R : Hp → Hp → β → α → List Addr → Prop} {Q Q' : β → Hp → Prop} {r : RE α} (p : Post K κ R W I F σ Q r) (h : ∀ b H, Q b H → Q' b H) : Post K κ R W I F σ Q' r := by
  cases r with
  | ok a env' => exact fun I2 H2 b nfp s2 o x => h _ _ (p I2 H2 b nfp s2 o x)
  | exc e env' => exact p
  | stuck => exact p
/-- one thing, then another (with what the first one was) -/
theorem Post.bindE {α β γ δ : Type} {R : Hp → Hp → β → α → List Addr → Prop} {S : Hp → Hp → δ → γ → List Addr → Prop} {Q : δ → Hp → Prop} {f : EM α} {g : α → EM γ}
    (p : Post K κ S W I F σ Q ((f.bind g) env)) :
    Post K κ R W I F σ (fun b H1 => ∃ I1 env1 a nfp, Step F I I1 ∧ Ok K κ I1 F H1 σ env1 nfp ∧ R I1 H1 b a nfp ∧ f env = .ok a env1 ∧ Post K κ S W I1 F σ Q (g a env1)) (f env) := by
  unfold EM.bind at p
  revert p
  cases f env with
  | ok a env' => exact fun p I2 H2 b nfp s o h => ⟨I2, env', a, nfp, s, o, h, rfl, p.step s⟩
  | exc e env' => exact fun p => p
  | stuck => exact fun p => p
/-- one thing, then another -/
theorem Post.bind {α β γ δ : Type} {R : Hp → Hp → β → α → List Addr → Prop} {S : Hp → Hp → δ → γ → List Addr → Prop} {Q : δ → Hp → Prop} {f : EM α} {g : α → EM γ}
    (p : Post K κ S W I F σ Q ((f.bind g) env)) :
    Post K κ R W I F σ (fun b H1 => ∃ I1 env1 a nfp, Step F I I1 ∧ Ok K κ I1 F H1 σ env1 nfp ∧ R I1 H1 b a nfp ∧ Post K κ S W I1 F σ Q (g a env1)) (f env) := by
  refine Post.mono p.bindE ?_
  rintro b H ⟨I1, env1, a, nfp, s, o, h, _, q⟩
  exact ⟨I1, env1, a, nfp, s, o, h, q⟩
theorem Post.okv {α β : Type} {R : Hp → Hp → β → α → List Addr → Prop} {Q : β → Hp → Prop} {a : α} {b : β} {nfp : List Addr} (p : Post K κ R W I F σ Q (.ok a env)) (s : Step F I I') (o : Ok K κ I' F H' σ env nfp) (h : R I' H' b a nfp) : Q b H' := p I' H' b nfp s o h
theorem Post.lift {α γ δ : Type} {S : Hp → Hp → δ → γ → List Addr → Prop} {Q : δ → Hp → Prop} {o : Option α} {g : α → EM γ}
    (p : Post K κ S W I F σ Q (((DL.lift o).bind g) env)) : ∃ a, o = some a ∧ Post K κ S W I F σ Q (g a env) := by
  cases o with
  | none => exact False.elim p
  | some a => exact ⟨a, rfl, p⟩
theorem Post.lift1 {α δ : Type} {S : Hp → Hp → δ → α → List Addr → Prop} {Q : δ → Hp → Prop} {o : Option α}
    (p : Post K κ S W I F σ Q ((DL.lift o) env)) : ∃ a, o = some a ∧ Post K κ S W I F σ Q (.ok a env) := by
  cases o with
  | none => exact False.elim p
  | some a => exact ⟨a, rfl, p⟩
end
/-- another reading of the same -/
theorem pe_imp {X : Cx} {e : PySem.Expr} {t t' : TE} (h : PE X e t) (i : ∀ σ H Q, t' σ H Q → t σ H Q) : PE X e t' := ⟨fun pins s σ H Q I hw => h.run pins s σ H Q I (i σ H Q hw)⟩
theorem pt_imp {X : Cx} {e : PySem.Expr} {t t' : TT} (h : PT X e t) (i : ∀ σ H Q, t' σ H Q → t σ H Q) : PT X e t' := ⟨fun pins s σ H Q I hw => h.run pins s σ H Q I (i σ H Q hw)⟩
theorem pa_imp {X : Cx} {e : List PySem.Expr} {t t' : TA} (h : PA X e t) (i : ∀ σ H Q, t' σ H Q → t σ H Q) : PA X e t' := ⟨fun pos pins s σ H Q I hw => h.run pos pins s σ H Q I (i σ H Q hw)⟩
theorem ps_imp {X : Cx} {e : PySem.Stmt} {t t' : TS} (h : PS X e t) (i : ∀ D σ H, t' D σ H → t D σ H) : PS X e t' := ⟨fun pins s σ H D I hw => h.run pins s σ H D I (i D σ H hw)⟩
theorem pss_imp {X : Cx} {e : List PySem.Stmt} {t t' : TS} (h : PSs X e t) (i : ∀ D σ H, t' D σ H → t D σ H) : PSs X e t' := ⟨fun pins s σ H D I hw => h.run pins s σ H D I (i D σ H hw)⟩

/-! ### the mirrors' own words -/
def Lf.view : Lf → D
  | .lst ds => .lst ds
  | .dct kvs => .dct kvs
  | .dcT _ => .any
def FV.view : FV → D
  | .dat d => d
  | .own l => l.view
  | .hole => .any
def MO.view : MO → D
  | .lf l => l.view
  | .ins c fs => .obj c (fs.map fun p => (p.1, p.2.view))
  | .rcd kvs => .dct (kvs.map fun p => (p.1, p.2.view))
  | .tup xs => .tup (xs.map FV.view)
def SV.view : SV → D
  | .dat d => d
  | .own m => m.view
def viewEnv (env : Slots) : Slots := env.map (Option.map fun x => .dat x.view)
def D.scal : D → Bool
  | .non => true | .bl _ => true | .int _ => true | .str _ => true | _ => false
/-- a name, read: what was owned stands still from then on -/
def eVar (i : Nat) : EM D := fun env => match env[i]? with
  | some (some (.dat d)) => .ok d env
  | some (some (.own m)) => .ok m.view (env.set i (some (.dat m.view)))
  | _ => .stuck
def eC (d : D) : EM D := EM.pure d
/-- a thing asked, that tells one number, text, truth or None: all stays -/
def eQ (f : EM D) : EM D := fun env => match f (viewEnv env) with
  | .ok d _ => if d.scal = true then .ok d env else .stuck
  | _ => .stuck
def bQ (f : EM Bool) : EM Bool := fun env => match f (viewEnv env) with
  | .ok d _ => .ok d env
  | _ => .stuck
def eBin (op : D → D → Option D) (f g : EM D) : EM D := f.bind fun x => g.bind fun y => lift (op x y)
def eUn (op : D → Option D) (f : EM D) : EM D := f.bind fun x => lift (op x)

section
variable {K : PySem.W.Frag} {κ : Nat → Addr} {I I' F H H' : Hp} {σ : L2.St} {env : Slots} {W : WX}
theorem frz_at {I H : Hp} {l : List Addr} {a : Addr} (h : a ∈ l) : frz I H l a = H a := by unfold frz; rw [if_pos h]
theorem OwL.viewed {v : V} {l : Lf} {fp : List Addr} (h : OwL K κ I H v l fp) (s : Same I I') (k : ∀ a ∈ fp, I' a = H a) : Rp K κ I' v l.view := by
  cases h with
  | lst h r => exact .lst ((k _ (by simp)).trans h) (r.mono s)
  | dct h r => exact .dct ((k _ (by simp)).trans h) (r.mono s)
  | dcT h r => exact .any _
theorem OwF.viewed {v : V} {l : FV} {fp : List Addr} (h : OwF K κ I H v l fp) (s : Same I I') (k : ∀ a ∈ fp, I' a = H a) : Rp K κ I' v l.view := by
  cases h with
  | dat r => exact r.mono s
  | own r => exact r.viewed s k
  | hole => exact .any _
theorem OwFs.viewedF (s : Same I I') : ∀ {vs : List (Str × V)} {xs : List (Str × FV)} {fp : List Addr}, OwFs K κ I H vs xs fp → (∀ a ∈ fp, I' a = H a) → RpF K κ I' vs (xs.map fun p => (p.1, p.2.view))
  | _, _, _, .nil, _ => .nil
  | _, _, _, .cons h r, k => .cons (h.viewed s fun a ha => k a (List.mem_append_left _ ha)) (r.viewedF s fun a ha => k a (List.mem_append_right _ ha))
theorem OwFs.viewedK (s : Same I I') : ∀ {vs : List (Key × V)} {xs : List (Key × FV)} {fp : List Addr}, OwFs K κ I H vs xs fp → (∀ a ∈ fp, I' a = H a) → RpK K κ I' vs (xs.map fun p => (p.1, p.2.view))
  | _, _, _, .nil, _ => .nil
  | _, _, _, .cons h r, k => .cons (h.viewed s fun a ha => k a (List.mem_append_left _ ha)) (r.viewedK s fun a ha => k a (List.mem_append_right _ ha))
theorem OwT.viewed (s : Same I I') : ∀ {vs : List V} {xs : List FV} {fp : List Addr}, OwT K κ I H vs xs fp → (∀ a ∈ fp, I' a = H a) → RpA K κ I' vs (xs.map FV.view)
  | _, _, _, .nil, _ => .nil
  | _, _, _, .cons h r, k => .cons (h.viewed s fun a ha => k a (List.mem_append_left _ ha)) (r.viewed s fun a ha => k a (List.mem_append_right _ ha))
theorem OwM.viewed {v : V} {l : MO} {fp : List Addr} (h : OwM K κ I H v l fp) (s : Same I I') (k : ∀ a ∈ fp, I' a = H a) : Rp K κ I' v l.view := by
  cases h with
  | lf r => exact r.viewed s k
  | ins h r => exact .obj ((k _ (by simp)).trans h) (r.viewedF s fun a ha => k a (List.mem_cons_of_mem _ ha))
  | rcd h r => exact .dct ((k _ (by simp)).trans h) (r.viewedK s fun a ha => k a (List.mem_cons_of_mem _ ha))
  | tup h r => exact .tup ((k _ (by simp)).trans h) (r.viewed s fun a ha => k a (List.mem_cons_of_mem _ ha))
theorem OwS.viewed {v : V} {l : SV} {fp : List Addr} (h : OwS K κ I H v l fp) (s : Same I I') (k : ∀ a ∈ fp, I' a = H a) : Rp K κ I' v l.view := by
  cases h with
  | dat r => exact r.mono s
  | own r => exact r.viewed s k
theorem EnvR.viewed (s : Same I I') : ∀ {σ : List (Option V)} {env : Slots} {fp : List Addr}, EnvR K κ I H σ env fp → (∀ a ∈ fp, I' a = H a) → EnvR K κ I' H σ (viewEnv env) []
  | _, _, _, .nil, _ => .nil
  | _, _, _, .no r, k => .no (r.viewed s k)
  | _, _, _, .so h r, k => by
    have := EnvR.so (H := H) (K := K) (κ := κ) (.dat (h.viewed s fun a ha => k a (List.mem_append_left _ ha))) (r.viewed s fun a ha => k a (List.mem_append_right _ ha))
    simpa [viewEnv] using this
theorem Rp.scal {v : V} {d : D} (h : Rp K κ I v d) (e : d.scal = true) : Rp K κ I' v d := by
  cases h <;> first | exact .non | exact .bl _ | exact .int _ | exact .str _ | cases e
/-- what is told of a view, all standing still, and then let go -/
theorem Ok.view (k : Ok K κ I F H σ env []) : ∃ fp, EnvR K κ I H σ env fp ∧ Rel I F H fp ∧ Ok K κ (frz I H fp) (addF F H fp) H σ (viewEnv env) [] := by
  obtain ⟨fp, e, r⟩ := k.ex
  have ex : Same I (frz I H fp) := fun a o q => by
    unfold frz; split
    · exact r.ext a o q
    · exact q
  refine ⟨fp, e, r, ⟨[], e.viewed ex fun a h => frz_at h, ⟨fun a o q => ?_, fun a o q => ?_, List.nodup_nil, (by simp), (by simp), (by simp)⟩⟩⟩
  · unfold frz at q; split at q
    · exact q
    · exact r.ext a o q
  · unfold addF at q; split at q
    · exact q
    · exact r.frm a o q
theorem Ok.unview {fp : List Addr} {env' : Slots} (e : EnvR K κ I H σ env fp) (r : Rel I F H fp) (s : Step (addF F H fp) (frz I H fp) I') (k : Ok K κ I' (addF F H fp) H' σ env' []) : Ok K κ I F H' σ env [] ∧ ∀ a ∈ fp, H' a = H a := by
  have kp : ∀ a ∈ fp, H' a = H a := fun a h => by
    cases q : H a with
    | none => exact absurd q (r.tr a h)
    | some o => exact k.frm a o (by unfold addF; rw [if_pos h]; exact q)
  have FF : ∀ a o, F a = some o → addF F H fp a = some o := fun a o q => by
    unfold addF; split
    · exact r.frm a o q
    · exact q
  have II : ∀ a o, I a = some o → frz I H fp a = some o := fun a o q => by
    unfold frz; split
    · exact r.ext a o q
    · exact q
  exact ⟨⟨fp, e.mono (Same.refl I) kp, ⟨fun a o q => k.ext a o (s.ext a o (II a o q)), fun a o q => k.frm a o (FF a o q), r.nd, r.nI, r.nF, fun a h => by rw [List.nil_append] at h; rw [kp a h]; exact r.tr a h⟩⟩, kp⟩
end

/-! ### names, constants, what is asked -/
section
variable {X : Cx} {κ : Nat → Addr} {W : WX} {e a b : PySem.Expr} {pos : Pos}
theorem de_var {i : Nat} {x : Str} (hN : X.N[i]? = some x := by rfl) (hv : Vis X.env.scope x := by first | exact Or.inl rfl | exact Or.inr (Or.inl rfl) | exact Or.inr (Or.inr rfl)) (hd : (x == ("__debug__" : Str)) = false := by decide)
    (hcd : (x == ("__classdict__" : Str)) = false := by decide) : PE X (.Name x pos) (teD X.K κ W (eVar i)) := by
  refine pe_imp (pe_var hN hv hd hcd) fun σ H Q h => ?_
  obtain ⟨I, F, env, k, p⟩ := h
  unfold eVar at p
  split at p
  · rename_i d q
    obtain ⟨v, f1, h1, h2, h3⟩ := k.get q
    cases h2 with
    | dat r => exact ⟨v, h1, p I H v [] (Step.refl F I) k ⟨r, rfl⟩⟩
  · rename_i m q
    obtain ⟨v, f1, h1, h2, h3⟩ := k.get q
    cases h2 with
    | own r =>
      obtain ⟨k4, s4⟩ := h3.freeze
      have rv := r.viewed s4.ext fun a h => frz_at h
      have hl : i < env.length := (List.getElem?_eq_some_iff.mp q).1
      have k5 := Ok.put (f1 := []) (nfp := []) k4 (by rw [List.getElem?_set_self hl]) h1 (.dat rv)
      rw [List.set_set] at k5
      exact ⟨v, h1, p _ H v [] s4 k5 ⟨rv, rfl⟩⟩
  · exact p.elim
theorem de_of {te : TE} {d : D} {v : V} (h : PE X e te) (hv : ∀ σ H Q, Q v H → te σ H Q) (r : ∀ I, Rp X.K κ I v d) : PE X e (teD X.K κ W (eC d)) :=
  pe_imp h fun σ H Q h => by
    obtain ⟨I, F, env, k, p⟩ := h
    exact hv _ _ _ (p I H v [] (Step.refl F I) k ⟨r I, rfl⟩)
theorem de_int {i j} : PE X (.Constant (.int i) j pos) (teD X.K κ W (eC (.int i))) := de_of pe_int (fun _ _ _ h => h) fun _ => .int i
theorem de_bl {i j} : PE X (.Constant (.bool i) j pos) (teD X.K κ W (eC (.bl i))) := de_of pe_bl (fun _ _ _ h => h) fun _ => .bl i
theorem de_non {j} : PE X (.Constant .none j pos) (teD X.K κ W (eC .non)) := de_of pe_non (fun _ _ _ h => h) fun _ => .non
theorem de_str {i j} : PE X (.Constant (.str i) j pos) (teD X.K κ W (eC (.str i))) := de_of pe_str (fun _ _ _ h => h) fun _ => .str i
/-- a module's constant: a number, a text -/
theorem de_gint {x : Str} {i : Int} {t : Tok} (hm : X.mg x = some (.int i t)) (hg : Gl X x := by rfl) (hd : (x == ("__debug__" : Str)) = false := by decide) : PE X (.Name x pos) (teD X.K κ W (eC (.int i))) :=
  de_of (pe_glob hg hm (v := .int i) ⟨t, rfl⟩ hd) (fun _ _ _ h => h) fun _ => .int i
theorem de_gstr {x i : Str} {t : Tok} (hm : X.mg x = some (.str i t)) (hg : Gl X x := by rfl) (hd : (x == ("__debug__" : Str)) = false := by decide) : PE X (.Name x pos) (teD X.K κ W (eC (.str i))) :=
  de_of (pe_glob hg hm (v := .str i) ⟨t, rfl⟩ hd) (fun _ _ _ h => h) fun _ => .str i
/-- .. all stays -/
theorem de_q {f : EM D} (h : PE X e (teD X.K κ W f)) : PE X e (teD X.K κ W (eQ f)) := pe_imp h fun σ H Q h => by
  obtain ⟨I, F, env, k, p⟩ := h
  obtain ⟨fp, e, r, kv⟩ := k.view
  refine ⟨_, _, _, kv, ?_⟩
  unfold eQ at p
  revert p
  cases f (viewEnv env) with
  | ok d env' =>
    intro p I' H' v nfp s k' hR
    obtain ⟨hr, rfl⟩ := hR
    by_cases z : d.scal = true
    · simp only [z, if_true] at p
      obtain ⟨k2, _⟩ := Ok.unview e r s k'
      exact p I H' v [] (Step.refl F I) k2 ⟨hr.scal z, rfl⟩
    · simp only [if_neg z] at p
      exact p.elim
  | exc e env' => exact fun p => p.elim
  | stuck => exact fun p => p.elim
theorem dt_q {f : EM Bool} (h : PT X e (ttD X.K κ W f)) : PT X e (ttD X.K κ W (bQ f)) := pt_imp h fun σ H Q h => by
  obtain ⟨I, F, env, k, p⟩ := h
  obtain ⟨fp, e, r, kv⟩ := k.view
  refine ⟨_, _, _, kv, ?_⟩
  unfold bQ at p
  revert p
  cases f (viewEnv env) with
  | ok d env' =>
    intro p I' H' v nfp s k' hR
    obtain ⟨hr, rfl⟩ := hR
    obtain ⟨k2, _⟩ := Ok.unview e r s k'
    exact p I H' v [] (Step.refl F I) k2 ⟨hr, rfl⟩
  | exc e env' => exact fun p => p.elim
  | stuck => exact fun p => p.elim

/-! ### two-place operations -/
/-- f does what op says -/
def OpD (X : Cx) (κ : Nat → Addr) (f : Value → Value → Sem Value) (op : D → D → Option D) : Prop :=
  ∃ r : R2, OpR X f r ∧ ∀ (σ : L2.St) (I F H : Hp) (env : Slots) (x y : V) (dx dy d : D) (Q : VK), Ok X.K κ I F H σ env [] → Rp X.K κ I x dx → Rp X.K κ I y dy → op dx dy = some d →
    (∀ I' H' v, Step F I I' → Ok X.K κ I' F H' σ env [] → Rp X.K κ I' v d → Q v H') → r x y H Q
theorem OpD.or {f : Value → Value → Sem Value} {op op' : D → D → Option D} (h : OpD X κ f op) (h' : OpD X κ f op') : OpD X κ f (fun x y => (op x y).orElse fun _ => op' x y) := by
  obtain ⟨r, h1, h2⟩ := h
  obtain ⟨r', h1', h2'⟩ := h'
  refine ⟨_, OpR.or h1 h1', fun σ I F H env x y dx dy d Q k rx ry e q => ?_⟩
  simp only at e
  cases z : op dx dy with
  | some d' =>
    rw [z] at e
    simp only [Option.orElse] at e
    cases e
    exact .inl (h2 σ I F H env x y dx dy _ Q k rx ry z q)
  | none =>
    rw [z] at e
    simp only [Option.orElse] at e
    exact .inr (h2' σ I F H env x y dx dy _ Q k rx ry e q)
theorem de_binT {f g : EM D} {op : D → D → Option D} {fn : Value → Value → Sem Value} {r : R2}
    (hr : ∀ (σ : L2.St) (I F H : Hp) (env : Slots) (x y : V) (dx dy d : D) (Q : VK), Ok X.K κ I F H σ env [] → Rp X.K κ I x dx → Rp X.K κ I y dy → op dx dy = some d →
    (∀ I' H' v, Step F I I' → Ok X.K κ I' F H' σ env [] → Rp X.K κ I' v d → Q v H') → r x y H Q) : ∀ σ H Q, teD X.K κ W (eBin op f g) σ H Q → tOp r (teD X.K κ W f) (teD X.K κ W g) σ H Q := by
  intro σ H Q h
  obtain ⟨I, F, env, k, p⟩ := h
  refine ⟨I, F, env, k, Post.mono (p.bind (R := RD X.K κ)) ?_⟩
  rintro x H1 ⟨I1, env1, dx, nfp, s1, k1, ⟨rx, rfl⟩, p1⟩
  refine ⟨I1, F, env1, k1, Post.mono (p1.bind (R := RD X.K κ)) ?_⟩
  rintro y H2 ⟨I2, env2, dy, nfp, s2, k2, ⟨ry, rfl⟩, p2⟩
  obtain ⟨d, e, p3⟩ := p2.lift1
  exact hr σ I2 F H2 env2 x y dx dy d Q k2 (rx.mono s2.ext) ry e fun I' H' v s o h => p3 I' H' v [] s o ⟨h, rfl⟩
theorem de_bin {op : PySem.Operator} {f g : EM D} {o : D → D → Option D} (ho : OpD X κ (binaryOp op) o) (ha : PE X a (teD X.K κ W f)) (hb : PE X b (teD X.K κ W g)) : PE X (.BinOp a op b pos) (teD X.K κ W (eBin o f g)) := by
  obtain ⟨r, h1, h2⟩ := ho
  exact pe_imp (pe_op h1 ha hb) (de_binT (fn := binaryOp op) h2)
theorem de_cmp {op : PySem.CmpOp} {f g : EM D} {o : D → D → Option D} (ho : OpD X κ (compareOp op) o) (ha : PE X a (teD X.K κ W f)) (hb : PE X b (teD X.K κ W g)) (hm : behindInMarks op b = false := by first | exact nomark _ | with_unfolding_all rfl | rfl) : PE X (.Compare a [op] [b] pos) (teD X.K κ W (eBin o f g)) := by
  obtain ⟨r, h1, h2⟩ := ho
  exact pe_imp (pe_cmpR h1 ha hb hm) (de_binT (fn := compareOp op) h2)
/-- a value that is a truth, as a test -/
def bVal (f : EM D) : EM Bool := f.bind fun d => lift (match d with | .bl b => some b | _ => none)
theorem dt_cmp {op : PySem.CmpOp} {f g : EM D} {o : D → D → Option D} (ho : OpD X κ (compareOp op) o) (ha : PE X a (teD X.K κ W f)) (hb : PE X b (teD X.K κ W g)) (hm : behindInMarks op b = false := by first | exact nomark _ | with_unfolding_all rfl | rfl) : PT X (.Compare a [op] [b] pos) (ttD X.K κ W (bVal (eBin o f g))) := by
  obtain ⟨r, h1, h2⟩ := ho
  refine pt_imp (pt_cmpR h1 ha hb hm) fun σ H Q h => ?_
  refine de_binT (W := W) (f := f) (g := g) (fn := compareOp op) h2 σ H _ ?_
  obtain ⟨I, F, env, k, p⟩ := h
  refine ⟨I, F, env, k, Post.mono (p.bind (R := RD X.K κ)) ?_⟩
  rintro x H1 ⟨I1, env1, dx, nfp, s1, k1, ⟨rx, rfl⟩, p1⟩
  obtain ⟨d, e, p3⟩ := p1.lift1
  split at e
  · rename_i b' _
    cases e
    cases rx
    exact ⟨_, rfl, p3 I1 H1 _ [] (Step.refl F I1) k1 ⟨rfl, rfl⟩⟩
  · cases e
end
end DL

/-! DL3: operations -/
namespace DL
open PySem L2
mutual
def D.py : D → PyData
  | .non => .none
  | .bl b => .bool b
  | .int i => .int i
  | .str x => .str x
  | .any => .none
  | .tup xs => .tuple (D.pys xs)
  | .lst xs => .list (D.pys xs)
  | .scr _ => .none
  | .dct _ => .none
  | .obj _ _ => .none
  | .exc _ _ => .none
def D.pys : List D → List PyData
  | [] => []
  | x :: r => D.py x :: D.pys r
end
mutual
def D.pyOk : D → Bool
  | .non => true
  | .bl _ => true
  | .int _ => true
  | .str _ => true
  | .any => false
  | .tup xs => D.pyOks xs
  | .lst xs => D.pyOks xs
  | .scr _ => false
  | .dct _ => false
  | .obj _ _ => false
  | .exc _ _ => false
def D.pyOks : List D → Bool
  | [] => true
  | x :: r => D.pyOk x && D.pyOks r
end
section
variable {K : PySem.W.Frag} {κ : Nat → Addr} {I H : Hp}
mutual
theorem Rp.dp (e : Same I H) : ∀ {v : V} {d : D}, Rp K κ I v d → d.pyOk = true → Dp K H v d.py
  | _, _, .non, _ => by simp only [D.py]; exact .non
  | _, _, .bl b, _ => by simp only [D.py]; exact .bl b
  | _, _, .int i, _ => by simp only [D.py]; exact .int i
  | _, _, .str x, _ => by simp only [D.py]; exact .str x
  | _, _, .any x, h => by simp [D.pyOk] at h
  | _, _, .tup h r, q => by simp only [D.py]; exact .tup (SqT.of (e _ _ h)) (RpA.dp e r (by simpa [D.pyOk] using q))
  | _, _, .lst h r, q => by simp only [D.py]; exact .lst (SqL.of (e _ _ h)) (RpA.dp e r (by simpa [D.pyOk] using q))
  | _, _, .scr h, q => by simp [D.pyOk] at q
  | _, _, .dct h r, q => by simp [D.pyOk] at q
  | _, _, .obj h r, q => by simp [D.pyOk] at q
  | _, _, .exc h g r, q => by simp [D.pyOk] at q
  | _, _, .exc0 h, q => by simp [D.pyOk] at q
theorem RpA.dp (e : Same I H) : ∀ {v : List V} {d : List D}, RpA K κ I v d → D.pyOks d = true → DpAll K H v (D.pys d)
  | _, _, .nil, _ => by simp only [D.pys]; exact .nil
  | _, _, .cons h r, q => by
    simp only [D.pyOks, Bool.and_eq_true] at q
    simp only [D.pys]
    exact .cons (Rp.dp e h q.1) (RpA.dp e r q.2)
end
end
def opAdd : D → D → Option D
  | .int i, .int j => some (.int (i + j))
  | .str x, .str y => if x.length + y.length ≤ sizeLine then some (.str (x ++ y)) else none
  | .lst x, .lst y => if x.length + y.length ≤ sizeLine then some (.lst (x ++ y)) else none
  | .tup x, .tup y => if x.length + y.length ≤ sizeLine then some (.tup (x ++ y)) else none
  | _, _ => none
def opSub : D → D → Option D
  | .int i, .int j => some (.int (i - j))
  | _, _ => none
def mulOk (i j : Int) : Bool := decide (i.natAbs < 2 ^ 64) || decide (j.natAbs < 2 ^ 64) || decide (i.natAbs.log2 + j.natAbs.log2 < 1000000)
def opMul : D → D → Option D
  | .int i, .int j => if mulOk i j then some (.int (i * j)) else none
  | .lst x, .int k => if k < 2 ^ 63 ∧ 0 ≤ k ∧ x.length * k.toNat ≤ sizeLine then some (.lst (List.replicate k.toNat x).flatten) else none
  | .str x, .int k => if 0 ≤ k ∧ k < 2 ^ 24 ∧ x.length = 1 then some (.str ⟨(List.replicate k.toNat x.cps).foldl (· ++ ·) #[]⟩) else none
  | _, _ => none
def opFdiv : D → D → Option D
  | .int i, .int j => if 0 < j ∧ j.natAbs.log2 < 9000 then some (.int (i / j)) else if j < 0 ∧ j.natAbs.log2 < 9000 then some (.int ((-i) / (-j))) else none
  | _, _ => none
def opMod : D → D → Option D
  | .int i, .int j => if 0 < j then some (.int (i % j)) else none
  | _, _ => none
def opPow : D → D → Option D
  | .int i, .int j => if 0 ≤ j ∧ j ≤ 1000000 ∧ i.natAbs < 2 ^ 64 then some (.int (i ^ j.toNat)) else none
  | _, _ => none
def opCmp (p : Int → Int → Bool) : D → D → Option D
  | .int i, .int j => some (.bl (p i j))
  | _, _ => none
def opLt := opCmp fun i j => decide (i < j)
def opLe := opCmp fun i j => decide (i ≤ j)
def opGt := opCmp fun i j => decide (j < i)
def opGe := opCmp fun i j => decide (j ≤ i)
def eqOk (x y : D) : Bool := x.pyOk && y.pyOk && SeqAt.shaped x.py && SeqAt.shaped y.py
def opEq (x y : D) : Option D := if eqOk x y then some (.bl (PyData.eqv x.py y.py)) else none
def opNe (x y : D) : Option D := if eqOk x y then some (.bl (!PyData.eqv x.py y.py)) else none
/-- is None -/
def opIsN (x y : D) : Option D := match y, x with
  | .non, .any => none
  | .non, .non => some (.bl true)
  | .non, _ => some (.bl false)
  | _, _ => none
def opNotN (x y : D) : Option D := match y, x with
  | .non, .any => none
  | .non, .non => some (.bl false)
  | .non, _ => some (.bl true)
  | _, _ => none
def keyOf : D → Option Key
  | .int i => some (.inl i)
  | .str x => some (.inr x)
  | _ => none
/-- x in y -/
def opIn (x y : D) : Option D := match y with
  | .lst ds => if eqOk x (.lst ds) then some (.bl (ds.any fun z => PyData.eqv z.py x.py)) else none
  | .tup ds => match x with
    | .str s => if ds.all (fun d => match d with | .str _ => true | _ => false) then some (.bl (ds.any fun z => PyData.eqv z.py (.str s))) else none
    | .int s => if ds.all (fun d => match d with | .int _ => true | _ => false) then some (.bl (ds.any fun z => PyData.eqv z.py (.int s))) else none
    | _ => none
  | .dct kvs => (keyOf x).map fun k => .bl (getK kvs k).isSome
  | .str t => match x with
    | .str ⟨#[c]⟩ => some (.bl (decide (c ∈ t.cps.toList)))
    | _ => none
  | _ => none
def dNot : D → Option D
  | .bl b => some (.bl (!b))
  | _ => none
def opNotIn (x y : D) : Option D := (opIn x y).bind dNot
def unNeg : D → Option D
  | .int i => some (.int (-i))
  | _ => none
end DL

namespace DL
open PySem L2
section
variable {X : Cx} {κ : Nat → Addr}
/-- the end of a rule: nothing new -/
theorem q0 {I F H : Hp} {σ : L2.St} {env : Slots} {v : V} {d : D} {Q : VK} (k : Ok X.K κ I F H σ env []) (q : ∀ I' H' v, Step F I I' → Ok X.K κ I' F H' σ env [] → Rp X.K κ I' v d → Q v H') (r : Rp X.K κ I v d) : Q v H := q I H v (Step.refl F I) k r
/-- .. a new thing -/
theorem q1 {I F H : Hp} {σ : L2.St} {env : Slots} {d : D} {Q : VK} {o : HO} (k : Ok X.K κ I F H σ env []) (q : ∀ I' H' v, Step F I I' → Ok X.K κ I' F H' σ env [] → Rp X.K κ I' v d → Q v H')
    (r : ∀ p I', Same I I' → I' p = some o → Rp X.K κ I' (.ref p) d) : ∀ p, H p = none → Q (.ref p) (upd H p o) := fun p hp => by
  obtain ⟨k1, s1, e1⟩ := k.newI (o := o) hp
  exact q _ _ _ s1 k1 (r p _ s1.ext e1)
theorem od_add : OpD X κ (binaryOp .Add) opAdd := by
  refine ⟨_, OpR.or op_add (OpR.or op_add_str (OpR.or op_cat op_catA)), fun σ I F H env x y dx dy d Q k rx ry e q => ?_⟩
  cases rx <;> cases ry <;> simp only [opAdd] at e <;> try (cases e)
  · exact .inl ⟨_, _, rfl, rfl, q0 k q (.int _)⟩
  · split at e
    · rename_i h
      cases e
      exact .inr (.inl ⟨_, _, rfl, rfl, h, q0 k q (.str _)⟩)
    · cases e
  · rename_i h1 r1 _ _ _ h2 r2
    split at e
    · rename_i h
      cases e
      refine .inr (.inr (.inr ⟨_, _, _, _, rfl, rfl, SqT.of (k.ext _ _ h1), SqT.of (k.ext _ _ h2), ?_, ?_, ?_, ?_⟩))
      · rw [r1.length, r2.length]; exact h
      · intro z
        subst z
        cases r1
        exact q0 k q (.tup h2 r2)
      · intro _ z
        subst z
        cases r2
        exact q0 k q (by rw [List.append_nil]; exact .tup h1 r1)
      · intro _ _; exact q1 k q fun p I' s e => .tup e ((r1.append r2).mono s)
    · cases e
  · rename_i h1 r1 _ _ _ h2 r2
    split at e
    · rename_i h
      cases e
      refine .inr (.inr (.inl ⟨_, _, _, _, rfl, rfl, k.ext _ _ h1, k.ext _ _ h2, ?_, ?_⟩))
      · rw [r1.length, r2.length]; exact h
      · exact q1 k q fun p I' s e => .lst e ((r1.append r2).mono s)
    · cases e
theorem od_sub : OpD X κ (binaryOp .Sub) opSub := by
  refine ⟨_, op_sub, fun σ I F H env x y dx dy d Q k rx ry e q => ?_⟩
  cases rx <;> cases ry <;> simp only [opSub] at e <;> cases e
  exact ⟨_, _, rfl, rfl, q0 k q (.int _)⟩
/-- a text of one sign, so often -/
theorem op_rep_str : OpR X (binaryOp .Mult) (fun x y H Q => ∃ z k, x = .str z ∧ y = .int k ∧ 0 ≤ k ∧ k < 2 ^ 24 ∧ z.length = 1 ∧ Q (.str ⟨(List.replicate k.toNat z.cps).foldl (· ++ ·) #[]⟩) H) := by
  intro pins s σ H x y v u Q I rx ry h
  obtain ⟨z, k, rfl, rfl, h0, h1, hz, q⟩ := h
  obtain ⟨t, rfl⟩ := rx
  obtain ⟨t', rfl⟩ := ry
  have e24 : (2 : Int) ^ 24 = 16777216 := by decide
  have e63 : (2 : Int) ^ 63 = 9223372036854775808 := by decide
  rw [e24] at h1
  have hn : ¬ k < -(2 ^ 63 : Int) := by rw [e63]; omega
  have hn2 : ¬ k ≥ 2 ^ 63 := by rw [e63]; omega
  refine PySem.P.mul_str (by rw [decide_eq_false hn, decide_eq_false hn2]; rfl) (fun h2 _ => ?_) (fun h2 _ => ?_) ?_
  · rw [hz, e63]
    have : (1 : Int) ≤ (9223372036854775808 - 1) / k := by
      rw [Int.le_ediv_iff_mul_le (by omega)]; omega
    have e : ((1 : Nat) : Int) = 1 := rfl
    omega
  · rw [hz, Nat.one_mul]
    unfold Builtin.Str.tooLong
    have : k.toNat ≤ sizeLine := by rw [PySem.sizeLine_eq]; omega
    rw [decide_eq_false (by omega)]
  · have e1 : (z.cps).size = 1 := hz
    by_cases c1 : k < 1
    · rw [if_pos c1]
      have k0 : k = 0 := by omega
      subst k0
      refine ⟨?_, .str _, H, I.tok _, ⟨_, rfl⟩, ?_⟩
      · show Str.empty.length ≤ sizeLine
        decide
      · exact q
    · rw [if_neg c1]
      by_cases c2 : (k == 1 || z.length == 0) = true
      · rw [if_pos c2]
        have k1 : k = 1 := by
          rw [Bool.or_eq_true] at c2
          rcases c2 with c2 | c2
          · simpa using c2
          · rw [hz] at c2; cases c2
        subst k1
        refine ⟨.str z, H, I, ⟨t, rfl⟩, ?_⟩
        have e : (⟨(List.replicate (1 : Int).toNat z.cps).foldl (· ++ ·) #[]⟩ : Str) = z := by
          show (⟨#[] ++ z.cps⟩ : Str) = z
          rw [Array.empty_append]
        rw [e] at q
        exact q
      · rw [if_neg c2]
        refine ⟨?_, .str _, H, I.tok _, ⟨_, rfl⟩, q⟩
        have lenF : ∀ (n : Nat) (acc : Array Nat), ((List.replicate n z.cps).foldl (· ++ ·) acc).size = acc.size + n * z.cps.size := fun n => by
          induction n with
          | zero => intro acc; simp
          | succ n ih => intro acc; rw [List.replicate_succ, List.foldl_cons, ih, Array.size_append, Nat.succ_mul]; omega
        show ((List.replicate k.toNat z.cps).foldl (· ++ ·) #[]).size ≤ sizeLine
        rw [lenF, e1, PySem.sizeLine_eq, Array.size_empty]
        omega
theorem od_mul : OpD X κ (binaryOp .Mult) opMul := by
  refine ⟨_, OpR.or op_mul (OpR.or op_mulW (OpR.or op_rep op_rep_str)), fun σ I F H env x y dx dy d Q k rx ry e q => ?_⟩
  cases rx <;> cases ry <;> simp only [opMul] at e <;> try (cases e)
  · rename_i i j
    split at e
    · rename_i h
      cases e
      unfold mulOk at h
      rw [Bool.or_eq_true, Bool.or_eq_true] at h
      rcases h with (h | h) | h
      · exact .inl ⟨_, _, rfl, rfl, .inl (by have := of_decide_eq_true h; have e : (2 : Int) ^ 64 = 18446744073709551616 := by decide
                                             have e' : (2 : Nat) ^ 64 = 18446744073709551616 := by decide
                                             rw [e' ] at this; rw [e]; omega), q0 k q (.int _)⟩
      · exact .inl ⟨_, _, rfl, rfl, .inr (by have := of_decide_eq_true h; have e : (2 : Int) ^ 64 = 18446744073709551616 := by decide
                                             have e' : (2 : Nat) ^ 64 = 18446744073709551616 := by decide
                                             rw [e' ] at this; rw [e]; omega), q0 k q (.int _)⟩
      · exact .inr (.inl ⟨_, _, rfl, rfl, by unfold CMulW; exact of_decide_eq_true h, q0 k q (.int _)⟩)
    · cases e
  · split at e
    · rename_i h
      cases e
      exact .inr (.inr (.inr ⟨_, _, rfl, rfl, h.1, h.2.1, h.2.2, q0 k q (.str _)⟩))
    · cases e
  · rename_i h1 r1 _
    split at e
    · rename_i h
      cases e
      have e63 : (2 : Int) ^ 63 = 9223372036854775808 := by decide
      refine .inr (.inr (.inl ⟨_, _, _, rfl, rfl, k.ext _ _ h1, ?_, h.1, ?_, ?_⟩))
      · have := h.2.1
        rw [e63]; omega
      · rw [r1.length]; exact h.2.2
      · exact q1 k q fun p I' s e => .lst e ((r1.rep _).mono s)
    · cases e
theorem op_fdivM : OpR X (binaryOp .FloorDiv) (rI (fun _ j => j < 0 ∧ j.natAbs.log2 < 9000) fun i j => .int ((-i) / (-j))) := opI fun i j _ _ _ _ _ hc q => by
  have h1 : j < 0 := hc.1
  exact PyProof.Rows.floordiv_int (by omega) (by rw [← Int.neg_fdiv_neg, Int.fdiv_eq_ediv_of_nonneg (-i) (by omega)]; exact q) (.inl (PyProof.noPylong_of_log2 hc.2))
theorem od_fdiv : OpD X κ (binaryOp .FloorDiv) opFdiv := by
  refine ⟨_, OpR.or op_fdivW op_fdivM, fun σ I F H env x y dx dy d Q k rx ry e q => ?_⟩
  cases rx <;> cases ry <;> simp only [opFdiv] at e <;> try (cases e)
  split at e
  · rename_i h
    cases e
    exact .inl ⟨_, _, rfl, rfl, h, q0 k q (.int _)⟩
  · split at e
    · rename_i h
      cases e
      exact .inr ⟨_, _, rfl, rfl, h, q0 k q (.int _)⟩
    · cases e
theorem od_mod : OpD X κ (binaryOp .Mod) opMod := by
  refine ⟨_, op_mod, fun σ I F H env x y dx dy d Q k rx ry e q => ?_⟩
  cases rx <;> cases ry <;> simp only [opMod] at e <;> try (cases e)
  split at e
  · rename_i h
    cases e
    exact ⟨_, _, rfl, rfl, h, q0 k q (.int _)⟩
  · cases e
theorem od_pow : OpD X κ (binaryOp .Pow) opPow := by
  refine ⟨_, op_pow, fun σ I F H env x y dx dy d Q k rx ry e q => ?_⟩
  cases rx <;> cases ry <;> simp only [opPow] at e <;> try (cases e)
  split at e
  · rename_i h
    cases e
    exact ⟨_, _, rfl, rfl, h, q0 k q (.int _)⟩
  · cases e
theorem od_cmp {f : Value → Value → Sem Value} {p : Int → Int → Bool} (h : OpR X f (rI0 fun i j => .bl (p i j))) : OpD X κ f (opCmp p) := by
  refine ⟨_, h, fun σ I F H env x y dx dy d Q k rx ry e q => ?_⟩
  cases rx <;> cases ry <;> simp only [opCmp] at e <;> cases e
  exact ⟨_, _, rfl, rfl, q0 k q (.bl _)⟩
theorem od_lt : OpD X κ (compareOp .Lt) opLt := od_cmp op_lt
theorem od_le : OpD X κ (compareOp .LtE) opLe := od_cmp op_le
theorem od_gt : OpD X κ (compareOp .Gt) opGt := od_cmp op_gt
theorem od_ge : OpD X κ (compareOp .GtE) opGe := od_cmp op_ge
theorem od_eq (hu : X.A.units + 64 < cLine) : OpD X κ (compareOp .Eq) opEq := by
  refine ⟨_, op_eqD hu, fun σ I F H env x y dx dy d Q k rx ry e q => ?_⟩
  unfold opEq at e
  split at e
  · rename_i h
    cases e
    unfold eqOk at h
    simp only [Bool.and_eq_true] at h
    exact ⟨_, _, rx.dp k.ext h.1.1.1, ry.dp k.ext h.1.1.2, h.1.2, h.2, q0 k q (.bl _)⟩
  · cases e
theorem od_ne (hu : X.A.units + 64 < cLine) : OpD X κ (compareOp .NotEq) opNe := by
  refine ⟨_, op_neD hu, fun σ I F H env x y dx dy d Q k rx ry e q => ?_⟩
  unfold opNe at e
  split at e
  · rename_i h
    cases e
    unfold eqOk at h
    simp only [Bool.and_eq_true] at h
    exact ⟨_, _, rx.dp k.ext h.1.1.1, ry.dp k.ext h.1.1.2, h.1.2, h.2, q0 k q (.bl _)⟩
  · cases e
theorem od_isN : OpD X κ (compareOp .Is) opIsN := by
  refine ⟨_, op_isN, fun σ I F H env x y dx dy d Q k rx ry e q => ?_⟩
  cases ry <;> simp only [opIsN] at e <;> try (cases e)
  cases rx <;> simp only [opIsN] at e <;> cases e <;> exact ⟨rfl, q0 k q (.bl _)⟩
theorem od_notN : OpD X κ (compareOp .IsNot) opNotN := by
  refine ⟨_, op_notN, fun σ I F H env x y dx dy d Q k rx ry e q => ?_⟩
  cases ry <;> simp only [opNotN] at e <;> try (cases e)
  cases rx <;> simp only [opNotN] at e <;> cases e <;> exact ⟨rfl, q0 k q (.bl _)⟩
end
end DL

/-! DL4: tests, displays, subscripts, attributes, calls of what is built in -/
namespace DL
open PySem L2
/-! ### words of the mirrors -/
def bAnd (f g : EM Bool) : EM Bool := f.bind fun c => if c = true then g else EM.pure false
def bOr (f g : EM Bool) : EM Bool := f.bind fun c => if c = true then EM.pure true else g
def bNot (f : EM Bool) : EM Bool := f.bind fun c => EM.pure (!c)
def dB : D → Option Bool
  | .bl b => some b
  | _ => none
def eB (f : EM Bool) : EM D := f.bind fun c => EM.pure (.bl c)
def eIf (c : EM Bool) (f g : EM D) : EM D := c.bind fun b => if b = true then f else g
def eAndV (f g : EM D) : EM D := f.bind fun x => (lift (dB x)).bind fun c => if c = true then g else EM.pure (.bl false)
def eOrV (f g : EM D) : EM D := f.bind fun x => (lift (dB x)).bind fun c => if c = true then EM.pure (.bl true) else g
def aNil : EM (List D) := EM.pure []
def aCons (f : EM D) (g : EM (List D)) : EM (List D) := f.bind fun d => g.bind fun ds => EM.pure (d :: ds)
def tupOf (ds : List D) : Option D := if ds.length ≤ sizeLine then some (.tup ds) else none
def lstOf (ds : List D) : Option D := if ds.length ≤ sizeLine then some (.lst ds) else none
def eTup (g : EM (List D)) : EM D := g.bind fun ds => lift (tupOf ds)
def eLst (g : EM (List D)) : EM D := g.bind fun ds => lift (lstOf ds)
def sLst (g : EM (List D)) : EM SV := g.bind fun ds => lift (if ds.length ≤ sizeLine then some (.own (.lf (.lst ds))) else none)
def sDat (f : EM D) : EM SV := f.bind fun d => EM.pure (.dat d)
def sDctN : EM SV := EM.pure (.own (.lf (.dct [])))
def sDctT : EM SV := EM.pure (.own (.lf (.dcT [])))
def opIx : D → D → Option D
  | .lst ds, .int i => atI ds i
  | .tup ds, .int i => atI ds i
  | .scr ns, .int i => (atI ns i).map D.int
  | .str s, .int i => if s.length ≤ sizeLine then (atI s.cps.toList i).map fun c => .str ⟨#[c]⟩ else none
  | _, _ => none
def opGet : D → D → Option D
  | .dct kvs, k => (keyOf k).bind fun k => getK kvs k
  | _, _ => none
def cutD (xs : List D) (lo hi : Option Int) : List D := (xs.drop (HT.sIx xs.length 0 lo)).take (HT.sIx xs.length xs.length hi - HT.sIx xs.length 0 lo)
def cutI (xs : List Int) (lo hi : Option Int) : List Int := (xs.drop (HT.sIx xs.length 0 lo)).take (HT.sIx xs.length xs.length hi - HT.sIx xs.length 0 lo)
def opSl : D → Option Int → Option Int → Option D
  | .lst ds, lo, hi => some (.lst (cutD ds lo hi))
  | .tup ds, lo, hi => some (.tup (cutD ds lo hi))
  | .scr ns, lo, hi => some (.lst ((cutI ns lo hi).map D.int))
  | .str s, lo, hi => if s.length ≤ sizeLine then some (.str (cutS s lo hi)) else none
  | _, _, _ => none
def oNo : EM (Option Int) := EM.pure none
def dI : D → Option Int
  | .int i => some i
  | _ => none
def oYes (f : EM D) : EM (Option Int) := f.bind fun d => lift ((dI d).map some)
def eSl (f : EM D) (lo hi : EM (Option Int)) : EM D := f.bind fun d => lo.bind fun l => hi.bind fun h => lift (opSl d l h)
def opFld (c : Nat) (f : Str) : D → Option D
  | .obj c' gs => if c' = c then gs.lookup f else none
  | _ => none
def eCallB (op : List D → Option D) (g : EM (List D)) : EM D := g.bind fun ds => lift (op ds)
section
variable {X : Cx} {κ : Nat → Addr} {W : WX} {e a b : PySem.Expr} {pos : Pos} {es rest : List PySem.Expr}
/-! ### tests -/
theorem dw_and1 {f : EM Bool} (ha : PT X a (ttD X.K κ W f)) : PW X (.BoolOp .And [a] pos) (ttD X.K κ W f) := pw_and1 ha
theorem dw_or1 {f : EM Bool} (ha : PT X a (ttD X.K κ W f)) : PW X (.BoolOp .Or [a] pos) (ttD X.K κ W f) := pw_or1 ha
theorem pw_imp {e : PySem.Expr} {t t' : TT} (h : PW X e t) (i : ∀ σ H Q, t' σ H Q → t σ H Q) : PW X e t' := ⟨fun wh pins s σ H Q I hw => h.run wh pins s σ H Q I (i σ H Q hw)⟩
theorem dw_and {f g : EM Bool} (ha : PT X a (ttD X.K κ W f)) (hb : PW X (.BoolOp .And (b :: rest) pos) (ttD X.K κ W g)) : PW X (.BoolOp .And (a :: b :: rest) pos) (ttD X.K κ W (bAnd f g)) := by
  refine pw_imp (pw_and ha hb) fun σ H Q h => ?_
  obtain ⟨I, F, env, k, p⟩ := h
  refine ⟨I, F, env, k, Post.mono (p.bind (R := RB)) ?_⟩
  rintro c H1 ⟨I1, env1, c', nfp, s1, k1, ⟨rfl, rfl⟩, p1⟩
  cases c with
  | true => exact ⟨I1, F, env1, k1, p1⟩
  | false => exact p1 I1 H1 _ [] (Step.refl F I1) k1 ⟨rfl, rfl⟩
theorem dw_or {f g : EM Bool} (ha : PT X a (ttD X.K κ W f)) (hb : PW X (.BoolOp .Or (b :: rest) pos) (ttD X.K κ W g)) : PW X (.BoolOp .Or (a :: b :: rest) pos) (ttD X.K κ W (bOr f g)) := by
  refine pw_imp (pw_or ha hb) fun σ H Q h => ?_
  obtain ⟨I, F, env, k, p⟩ := h
  refine ⟨I, F, env, k, Post.mono (p.bind (R := RB)) ?_⟩
  rintro c H1 ⟨I1, env1, c', nfp, s1, k1, ⟨rfl, rfl⟩, p1⟩
  cases c with
  | false => exact ⟨I1, F, env1, k1, p1⟩
  | true => exact p1 I1 H1 _ [] (Step.refl F I1) k1 ⟨rfl, rfl⟩
theorem dt_w {f : EM Bool} (h : PW X e (ttD X.K κ W f)) : PT X e (ttD X.K κ W f) := h.pt
theorem dt_not {f : EM Bool} (ha : PT X a (ttD X.K κ W f)) : PT X (.UnaryOp .Not a pos) (ttD X.K κ W (bNot f)) := by
  refine pt_imp (pt_not ha) fun σ H Q h => ?_
  obtain ⟨I, F, env, k, p⟩ := h
  refine ⟨I, F, env, k, Post.mono (p.bind (R := RB)) ?_⟩
  rintro c H1 ⟨I1, env1, c', nfp, s1, k1, ⟨rfl, rfl⟩, p1⟩
  exact p1 I1 H1 _ [] (Step.refl F I1) k1 ⟨rfl, rfl⟩
/-- a value that is True or False, as a test -/
theorem dt_val {f : EM D} (h : PE X e (teD X.K κ W f)) (he : ∀ whole, isTrue e X.env whole = (do let v ← whole; standAt e.pos; holding [v] (truthy v)) := by intro _; rfl) : PT X e (ttD X.K κ W (bVal f)) := by
  refine pt_imp (pt_val h he) fun σ H Q h => ?_
  obtain ⟨I, F, env, k, p⟩ := h
  refine ⟨I, F, env, k, Post.mono (p.bind (R := RD X.K κ)) ?_⟩
  rintro x H1 ⟨I1, env1, dx, nfp, s1, k1, ⟨rx, rfl⟩, p1⟩
  obtain ⟨d, e, p3⟩ := p1.lift1
  split at e
  · cases e
    cases rx
    exact ⟨_, rfl, p3 I1 H1 _ [] (Step.refl F I1) k1 ⟨rfl, rfl⟩⟩
  · cases e
theorem de_not {f : EM D} (ha : PE X a (teD X.K κ W f)) : PE X (.UnaryOp .Not a pos) (teD X.K κ W (eUn dNot f)) := by
  refine pe_imp (pe_not ha) fun σ H Q h => ?_
  obtain ⟨I, F, env, k, p⟩ := h
  refine ⟨I, F, env, k, Post.mono (p.bind (R := RD X.K κ)) ?_⟩
  rintro x H1 ⟨I1, env1, dx, nfp, s1, k1, ⟨rx, rfl⟩, p1⟩
  obtain ⟨d, e, p3⟩ := p1.lift1
  cases dx <;> simp only [dNot] at e <;> cases e
  cases rx
  exact ⟨_, rfl, p3 I1 H1 _ [] (Step.refl F I1) k1 ⟨.bl _, rfl⟩⟩
theorem de_neg {f : EM D} (ha : PE X a (teD X.K κ W f)) : PE X (.UnaryOp .USub a pos) (teD X.K κ W (eUn unNeg f)) := by
  refine pe_imp (pe_un un_neg ha) fun σ H Q h => ?_
  obtain ⟨I, F, env, k, p⟩ := h
  refine ⟨I, F, env, k, Post.mono (p.bind (R := RD X.K κ)) ?_⟩
  rintro x H1 ⟨I1, env1, dx, nfp, s1, k1, ⟨rx, rfl⟩, p1⟩
  obtain ⟨d, e, p3⟩ := p1.lift1
  cases dx <;> simp only [unNeg] at e <;> cases e
  cases rx
  exact ⟨_, rfl, p3 I1 H1 _ [] (Step.refl F I1) k1 ⟨.int _, rfl⟩⟩
theorem de_one {op} {f : EM D} (h : PE X a (teD X.K κ W f)) : PE X (.BoolOp op [a] pos) (teD X.K κ W f) := pe_one h
theorem dB_some {d : D} {c : Bool} (h : dB d = some c) : d = .bl c := by cases d <;> simp [dB] at h; rw [h]
theorem de_and {f g : EM D} (ha : PE X a (teD X.K κ W f)) (hb : PE X (.BoolOp .And (b :: rest) pos) (teD X.K κ W g)) : PE X (.BoolOp .And (a :: b :: rest) pos) (teD X.K κ W (eAndV f g)) := by
  refine pe_imp (pe_and ha hb) fun σ H Q h => ?_
  obtain ⟨I, F, env, k, p⟩ := h
  refine ⟨I, F, env, k, Post.mono (p.bind (R := RD X.K κ)) ?_⟩
  rintro x H1 ⟨I1, env1, dx, nfp, s1, k1, ⟨rx, rfl⟩, p1⟩
  obtain ⟨c, e, p3⟩ := p1.lift
  have e' := dB_some e
  subst e'
  cases rx
  refine ⟨c, rfl, ?_⟩
  cases c with
  | true => exact ⟨I1, F, env1, k1, p3⟩
  | false => exact p3 I1 H1 _ [] (Step.refl F I1) k1 ⟨.bl _, rfl⟩
theorem de_or {f g : EM D} (ha : PE X a (teD X.K κ W f)) (hb : PE X (.BoolOp .Or (b :: rest) pos) (teD X.K κ W g)) : PE X (.BoolOp .Or (a :: b :: rest) pos) (teD X.K κ W (eOrV f g)) := by
  refine pe_imp (pe_or ha hb) fun σ H Q h => ?_
  obtain ⟨I, F, env, k, p⟩ := h
  refine ⟨I, F, env, k, Post.mono (p.bind (R := RD X.K κ)) ?_⟩
  rintro x H1 ⟨I1, env1, dx, nfp, s1, k1, ⟨rx, rfl⟩, p1⟩
  obtain ⟨c, e, p3⟩ := p1.lift
  have e' := dB_some e
  subst e'
  cases rx
  refine ⟨c, rfl, ?_⟩
  cases c with
  | false => exact ⟨I1, F, env1, k1, p3⟩
  | true => exact p3 I1 H1 _ [] (Step.refl F I1) k1 ⟨.bl _, rfl⟩
theorem de_if {c : PySem.Expr} {t : EM Bool} {f g : EM D} (hc : PT X c (ttD X.K κ W t)) (ha : PE X a (teD X.K κ W f)) (hb : PE X b (teD X.K κ W g)) : PE X (.IfExp c a b pos) (teD X.K κ W (eIf t f g)) := by
  refine pe_imp (pe_ifExp hc ha hb) fun σ H Q h => ?_
  obtain ⟨I, F, env, k, p⟩ := h
  refine ⟨I, F, env, k, Post.mono (p.bind (R := RB)) ?_⟩
  rintro x H1 ⟨I1, env1, dx, nfp, s1, k1, ⟨rfl, rfl⟩, p1⟩
  cases x with
  | true => exact ⟨I1, F, env1, k1, p1⟩
  | false => exact ⟨I1, F, env1, k1, p1⟩
/-! ### displays -/
theorem da_nil : PA X [] (taD X.K κ W aNil) := pa_imp pa_nil fun σ H Q h => by
  obtain ⟨I, F, env, k, p⟩ := h
  exact p I H _ [] (Step.refl F I) k ⟨.nil, rfl⟩
theorem da_cons {f : EM D} {g : EM (List D)} (ha : PE X e (teD X.K κ W f)) (hr : PA X es (taD X.K κ W g)) (hs : starEach (e :: es) X.env = (false, eval e X.env) :: starEach es X.env := by rfl) : PA X (e :: es) (taD X.K κ W (aCons f g)) :=
  pa_imp (pa_cons ha hr hs) fun σ H Q h => by
    obtain ⟨I, F, env, k, p⟩ := h
    refine ⟨I, F, env, k, Post.mono (p.bind (R := RD X.K κ)) ?_⟩
    rintro x H1 ⟨I1, env1, dx, nfp, s1, k1, ⟨rx, rfl⟩, p1⟩
    refine ⟨I1, F, env1, k1, Post.mono (p1.bind (R := RA X.K κ)) ?_⟩
    rintro xs H2 ⟨I2, env2, ds, nfp, s2, k2, ⟨rs, rfl⟩, p2⟩
    exact p2 I2 H2 _ [] (Step.refl F I2) k2 ⟨.cons (rx.mono s2.ext) rs, rfl⟩
theorem de_tup {x1} {g : EM (List D)} (h : PA X es (taD X.K κ W g)) : PE X (.Tuple es x1 pos) (teD X.K κ W (eTup g)) := by
  refine pe_imp (pe_tup h) fun σ H Q h => ?_
  obtain ⟨I, F, env, k, p⟩ := h
  refine ⟨I, F, env, k, Post.mono (p.bind (R := RA X.K κ)) ?_⟩
  rintro xs H1 ⟨I1, env1, ds, nfp, s1, k1, ⟨rx, rfl⟩, p1⟩
  obtain ⟨d, e, p3⟩ := p1.lift1
  unfold tupOf at e
  split at e
  · rename_i hz
    cases e
    refine ⟨by rw [rx.length]; exact hz, q1 k1 (fun I' H' v s o r => p3 I' H' v [] s o ⟨r, rfl⟩) fun p I' s e => .tup e (rx.mono s)⟩
  · cases e
theorem de_lst {g : EM (List D)} (h : PA X es (taD X.K κ W g)) : PE X (.List es pos) (teD X.K κ W (eLst g)) := by
  refine pe_imp (pe_lst h) fun σ H Q h => ?_
  obtain ⟨I, F, env, k, p⟩ := h
  refine ⟨I, F, env, k, Post.mono (p.bind (R := RA X.K κ)) ?_⟩
  rintro xs H1 ⟨I1, env1, ds, nfp, s1, k1, ⟨rx, rfl⟩, p1⟩
  obtain ⟨d, e, p3⟩ := p1.lift1
  unfold lstOf at e
  split at e
  · rename_i hz
    cases e
    refine ⟨by rw [rx.length]; exact hz, q1 k1 (fun I' H' v s o r => p3 I' H' v [] s o ⟨r, rfl⟩) fun p I' s e => .lst e (rx.mono s)⟩
  · cases e
/-- .. owned -/
theorem ds_lst {g : EM (List D)} (h : PA X es (taD X.K κ W g)) : PE X (.List es pos) (teS X.K κ W (sLst g)) := by
  refine pe_imp (pe_lst h) fun σ H Q h => ?_
  obtain ⟨I, F, env, k, p⟩ := h
  refine ⟨I, F, env, k, Post.mono (p.bind (R := RA X.K κ)) ?_⟩
  rintro xs H1 ⟨I1, env1, ds, nfp, s1, k1, ⟨rx, rfl⟩, p1⟩
  obtain ⟨d, e, p3⟩ := p1.lift1
  split at e
  · rename_i hz
    cases e
    refine ⟨by rw [rx.length]; exact hz, fun p hp => ?_⟩
    exact p3 I1 _ _ [p] (Step.refl F I1) (k1.newO hp) (.own (.lf (.lst upd_same rx)))
  · cases e
theorem ds_dctN : PE X (.Dict [] [] pos) (teS X.K κ W sDctN) := pe_imp pe_dnewK fun σ H Q h => by
  obtain ⟨I, F, env, k, p⟩ := h
  exact fun a ha => p I _ _ [a] (Step.refl F I) (k.newO ha) (.own (.lf (.dct upd_same .nil)))
theorem ds_dctT : PE X (.Dict [] [] pos) (teS X.K κ W sDctT) := pe_imp pe_dnewT fun σ H Q h => by
  obtain ⟨I, F, env, k, p⟩ := h
  exact fun a ha => p I _ _ [a] (Step.refl F I) (k.newO ha) (.own (.lf (.dcT upd_same .nil)))
theorem ds_dat {f : EM D} (h : PE X e (teD X.K κ W f)) : PE X e (teS X.K κ W (sDat f)) := pe_imp h fun σ H Q h => by
  obtain ⟨I, F, env, k, p⟩ := h
  refine ⟨I, F, env, k, Post.mono (p.bind (R := RD X.K κ)) ?_⟩
  rintro x H1 ⟨I1, env1, dx, nfp, s1, k1, ⟨rx, rfl⟩, p1⟩
  exact p1 I1 H1 _ [] (Step.refl F I1) k1 (.dat rx)
/-! ### subscripts -/
theorem atI_RpA {K : PySem.W.Frag} {I : Hp} {vs : List V} {ds : List D} {i : Int} {d : D} (r : RpA K κ I vs ds) (h : atI ds i = some d) : ∃ v, atI vs i = some v ∧ Rp K κ I v d := by
  unfold atI at h ⊢
  rw [r.length]
  cases q : ixN ds.length i with
  | none => rw [q] at h; cases h
  | some j => rw [q] at h; exact r.get (by simpa using h)
theorem atI_map {α β : Type} (f : α → β) (xs : List α) (i : Int) : atI (xs.map f) i = (atI xs i).map f := by
  unfold atI
  rw [List.length_map]
  cases ixN xs.length i with
  | none => rfl
  | some j => simp
theorem de_ix {f g : EM D} (ha : PE X a (teD X.K κ W f)) (hb : PE X b (teD X.K κ W g)) (hs : PlainIx b := by exact fun _ _ => rfl) : PE X (.Subscript a b pos) (teD X.K κ W (eBin opIx f g)) := by
  refine pe_imp (pe_ix ix_seq ha hb hs) (de_binT (fn := fun _ _ => pure .none) ?_)
  intro σ I F H env x y dx dy d Q k rx ry e q
  cases rx <;> cases ry <;> simp only [opIx] at e <;> try (cases e)
  · split at e
    · rename_i hz
      rename_i s i
      cases h : atI s.cps.toList i with
      | none => rw [h] at e; cases e
      | some c =>
        rw [h] at e
        simp only [Option.map_some, Option.some.injEq] at e
        subst e
        exact .inr (.inr ⟨_, _, c, rfl, rfl, hz, h, q0 k q (.str _)⟩)
    · cases e
  · rename_i h1 r1 i
    obtain ⟨v, hv, rv⟩ := atI_RpA r1 e
    exact .inr (.inl ⟨_, _, _, v, rfl, rfl, SqT.of (k.ext _ _ h1), hv, q0 k q rv⟩)
  · rename_i h1 r1 i
    obtain ⟨v, hv, rv⟩ := atI_RpA r1 e
    exact .inl ⟨_, _, _, v, rfl, rfl, SqL.of (k.ext _ _ h1), hv, q0 k q rv⟩
  · rename_i ns hq i
    cases h : atI ns i with
    | none => rw [h] at e; cases e
    | some c =>
      rw [h] at e
      simp only [Option.map_some, Option.some.injEq] at e
      subst e
      exact .inl ⟨_, _, _, .int c, rfl, rfl, same_sq k.ext hq, by rw [atI_map, h]; rfl, q0 k q (.int c)⟩
theorem getK_RpK {K : PySem.W.Frag} {I : Hp} {k : Key} {d : D} : ∀ {kvs : List (Key × V)} {kds : List (Key × D)}, RpK K κ I kvs kds → getK kds k = some d → ∃ v, valV kvs k = some v ∧ Rp K κ I v d
  | _, _, .nil, h => by simp [getK] at h
  | (k', v) :: vs, (_, d') :: ds, .cons h r, e => by
    by_cases z : k' = k
    · subst z
      simp [getK] at e
      subst e
      exact ⟨v, by simp [valV], h⟩
    · obtain ⟨v', h1, h2⟩ := getK_RpK (k := k) (d := d) r (by simpa [getK, z] using e)
      exact ⟨v', by simpa [valV, z] using h1, h2⟩
theorem getK_none {K : PySem.W.Frag} {I : Hp} {k : Key} : ∀ {kvs : List (Key × V)} {kds : List (Key × D)}, RpK K κ I kvs kds → getK kds k = none → valV kvs k = none
  | _, _, .nil, h => by simp [valV]
  | (k', v) :: vs, (_, d') :: ds, .cons h r, e => by
    by_cases z : k' = k
    · subst z
      simp [getK] at e
    · have := getK_none (k := k) r (by simpa [getK, z] using e)
      simpa [valV, z] using this
theorem getK_some {K : PySem.W.Frag} {I : Hp} {k : Key} {kvs : List (Key × V)} {kds : List (Key × D)} (r : RpK K κ I kvs kds) : (valV kvs k).isSome = (getK kds k).isSome := by
  cases h : getK kds k with
  | none => rw [getK_none r h]; rfl
  | some d =>
    obtain ⟨v, h1, _⟩ := getK_RpK r h
    rw [h1]; rfl
theorem keyOf_kV {K : PySem.W.Frag} {I : Hp} {v : V} {d : D} {k : Key} (r : Rp K κ I v d) (h : keyOf d = some k) : v = kV k := by
  cases r <;> simp only [keyOf] at h <;> cases h <;> rfl
theorem de_get {f g : EM D} (hu : X.A.units + 1 < cLine) (ha : PE X a (teD X.K κ W f)) (hb : PE X b (teD X.K κ W g)) (hs : NoSl b := by exact fun _ _ => rfl) : PE X (.Subscript a b pos) (teD X.K κ W (eBin opGet f g)) := by
  refine pe_imp (pe_dget hu ha hb hs) fun σ H Q h => de_binT (r := fun x y H Q => ∃ a v, x = .ref a ∧ DGet H a y (some v) ∧ Q v H) (fn := fun _ _ => pure .none) ?_ σ H Q h
  intro σ I F H env x y dx dy d Q k rx ry e q
  cases rx <;> simp only [opGet] at e <;> try (cases e)
  rename_i h1 r1
  cases hk : keyOf dy with
  | none => rw [hk] at e; cases e
  | some ky =>
    rw [hk] at e
    obtain ⟨v, hv, rv⟩ := getK_RpK r1 (by simpa using e)
    have := keyOf_kV ry hk
    subst this
    exact ⟨_, v, rfl, by rw [← hv]; exact DGet.k (k.ext _ _ h1), q0 k q rv⟩
/-! ### slices -/
theorem RpA.cut {K : PySem.W.Frag} {I : Hp} {vs : List V} {ds : List D} (r : RpA K κ I vs ds) (lo hi : Option Int) : RpA K κ I (cutV vs lo hi) (cutD ds lo hi) := by
  unfold cutV cutD
  rw [r.length]
  exact (r.drop _).take _
theorem cutV_ints (ns : List Int) (lo hi : Option Int) : cutV (ns.map V.int) lo hi = (cutI ns lo hi).map V.int := by
  unfold cutV cutI
  rw [List.length_map, List.map_take, List.map_drop]
theorem sIx_whole {α : Type} (xs : List α) (lo hi : Option Int) (h : HT.sIx xs.length 0 lo = 0 ∧ HT.sIx xs.length xs.length hi = xs.length) : (xs.drop (HT.sIx xs.length 0 lo)).take (HT.sIx xs.length xs.length hi - HT.sIx xs.length 0 lo) = xs := by
  rw [h.1, h.2]; simp
theorem do_no : ∀ σ H Q, tG X.K κ (fun _ _ (b d : Option Int) nfp => b = d ∧ nfp = []) W oNo σ H Q → tNoPart σ H Q := fun σ H Q h => by
  obtain ⟨I, F, env, k, p⟩ := h
  exact p I H _ [] (Step.refl F I) k ⟨rfl, rfl⟩
/-- an optional part of a slice -/
structure PO' (X : Cx) (κ : Nat → Addr) (W : WX) (e : Option PySem.Expr) (f : EM (Option Int)) : Prop where
  ex : ∃ t, PO X e t ∧ ∀ σ H Q, tG X.K κ (fun _ _ (b d : Option Int) nfp => b = d ∧ nfp = []) W f σ H Q → t σ H Q
theorem do_none : PO' X κ W none oNo := ⟨_, po_none, do_no⟩
theorem do_some {f : EM D} (h : PE X e (teD X.K κ W f)) : PO' X κ W (some e) (oYes f) := ⟨_, po_some h, fun σ H Q h => by
  obtain ⟨I, F, env, k, p⟩ := h
  refine ⟨I, F, env, k, Post.mono (p.bind (R := RD X.K κ)) ?_⟩
  rintro x H1 ⟨I1, env1, dx, nfp, s1, k1, ⟨rx, rfl⟩, p1⟩
  obtain ⟨d, e, p3⟩ := p1.lift1
  cases rx <;> simp [dI] at e
  subst e
  exact ⟨_, rfl, p3 I1 H1 _ [] (Step.refl F I1) k1 ⟨rfl, rfl⟩⟩⟩
theorem de_sl {f : EM D} {l h : EM (Option Int)} {lo hi : Option PySem.Expr} {p2 : Pos} (he : PE X e (teD X.K κ W f)) (hl : PO' X κ W lo l) (hh : PO' X κ W hi h) : PE X (.Subscript e (.Slice lo hi none p2) pos) (teD X.K κ W (eSl f l h)) := by
  obtain ⟨tl, hl, il⟩ := hl.ex
  obtain ⟨th, hh, ih⟩ := hh.ex
  refine pe_imp (pe_slice (SlR.or sl_list (SlR.or sl_tupA sl_str)) he hl hh) fun σ H Q hw => ?_
  obtain ⟨I, F, env, k, p⟩ := hw
  refine ⟨I, F, env, k, Post.mono (p.bind (R := RD X.K κ)) ?_⟩
  rintro x H1 ⟨I1, env1, dx, nfp, s1, k1, ⟨rx, rfl⟩, p1⟩
  refine il _ _ _ ⟨I1, F, env1, k1, Post.mono (p1.bind (R := fun _ _ (b d : Option Int) nfp => b = d ∧ nfp = [])) ?_⟩
  rintro o1 H2 ⟨I2, env2, o1', nfp, s2, k2, ⟨rfl, rfl⟩, p2⟩
  refine ih _ _ _ ⟨I2, F, env2, k2, Post.mono (p2.bind (R := fun _ _ (b d : Option Int) nfp => b = d ∧ nfp = [])) ?_⟩
  rintro o2 H3 ⟨I3, env3, o2', nfp, s3, k3, ⟨rfl, rfl⟩, p3⟩
  obtain ⟨d, e, p4⟩ := p3.lift1
  have rx3 := (rx.mono s2.ext).mono s3.ext
  have q : ∀ I' H' v, Step F I3 I' → Ok X.K κ I' F H' σ env3 [] → Rp X.K κ I' v d → Q v H' := fun I' H' v s o r => p4 I' H' v [] s o ⟨r, rfl⟩
  cases rx3 <;> simp only [opSl] at e <;> try (cases e)
  · split at e
    · rename_i hz
      cases e
      exact .inr (.inr ⟨_, rfl, hz, q0 k3 q (.str _)⟩)
    · cases e
  · rename_i h1 r1
    refine .inr (.inl ⟨_, _, rfl, SqT.of (k3.ext _ _ h1), fun hw => ?_, fun hw => ?_⟩)
    · refine q0 k3 q ?_
      rw [r1.length] at hw
      have := sIx_whole _ _ _ hw
      unfold cutD
      rw [this]
      exact .tup h1 r1
    · exact q1 k3 q fun p I' s e => .tup e ((r1.cut _ _).mono s)
  · rename_i h1 r1
    exact .inl ⟨_, _, rfl, SqL.of (k3.ext _ _ h1), q1 k3 q fun p I' s e => .lst e ((r1.cut _ _).mono s)⟩
  · rename_i ns hq
    refine .inl ⟨_, _, rfl, same_sq k3.ext hq, ?_⟩
    rw [cutV_ints]
    exact q1 k3 q fun p I' s e => .lst e RpA.ints
end
end DL

/-! DL5: attributes, owned places read, built-in calls, comprehensions -/
namespace DL
open PySem L2
def FV.dat? : FV → Option D
  | .dat d => some d
  | _ => none
/-- self.f, self a slot -/
def eSelf (c i : Nat) (f : Str) : EM D := fun env => match env[i]? with
  | some (some (.dat (.obj c' gs))) => if c' = c then (lift (gs.lookup f)) env else .stuck
  | some (some (.own (.ins c' gs))) => if c' = c then (lift ((gs.lookup f).bind FV.dat?)) env else .stuck
  | _ => .stuck
/-- what is asked of a thing that stays as it is: one number, text, truth, None -/
def qD (g : EM D) (env : Slots) : Option D := match g (viewEnv env) with
  | .ok d _ => if d.scal = true then some d else none
  | _ => none
def Lf.at_ (l : Lf) (d : D) : Option D := match l with
  | .lst ds => match d with
    | .int i => atI ds i
    | _ => none
  | .dct kvs => (keyOf d).bind fun k => getK kvs k
  | .dcT _ => none
/-- x[e], x an own list or dict (or data) -/
def eOwnIx (i : Nat) (g : EM D) : EM D := fun env => match env[i]? with
  | some (some (.own (.lf (.lst ds)))) => (lift ((qD g env).bind fun d => (Lf.lst ds).at_ d)) env
  | some (some (.dat d)) => (lift ((qD g env).bind fun e => opIx d e)) env
  | _ => .stuck
def eOwnGet (i : Nat) (g : EM D) : EM D := fun env => match env[i]? with
  | some (some (.own (.lf (.dct ds)))) => (lift ((qD g env).bind fun d => (Lf.dct ds).at_ d)) env
  | some (some (.dat d)) => (lift ((qD g env).bind fun e => opGet d e)) env
  | _ => .stuck
/-- self.f[e] -/
def eSelfIx (c i : Nat) (f : Str) (g : EM D) : EM D := fun env => match env[i]? with
  | some (some (.own (.ins c' gs))) => if c' = c then (match gs.lookup f with
    | some (.own (.lst ds)) => (lift ((qD g env).bind fun d => (Lf.lst ds).at_ d)) env
    | some (.dat d) => (lift ((qD g env).bind fun e => opIx d e)) env
    | _ => .stuck) else .stuck
  | _ => .stuck
section
variable {K : PySem.W.Frag} {κ : Nat → Addr} {I I' F H H' : Hp} {σ : L2.St} {env : Slots} {W : WX}
theorem RpF.lookup {f : Str} {d : D} : ∀ {vs : List (Str × V)} {gs : List (Str × D)}, RpF K κ I vs gs → gs.lookup f = some d → ∃ v, vs.lookup f = some v ∧ Rp K κ I v d
  | _, _, .nil, h => by simp at h
  | (k', v) :: vs, (_, d') :: ds, .cons h r, e => by
    rw [List.lookup_cons] at e ⊢
    cases z : (f == k') with
    | true => rw [z] at e; simp at e; subst e; exact ⟨v, rfl, h⟩
    | false => rw [z] at e; exact r.lookup (by simpa using e)
theorem OwFs.lookup {f : Str} {x : FV} : ∀ {vs : List (Str × V)} {gs : List (Str × FV)} {fp : List Addr}, OwFs K κ I H vs gs fp → gs.lookup f = some x → ∃ v f1, vs.lookup f = some v ∧ OwF K κ I H v x f1 ∧ ∀ a ∈ f1, a ∈ fp
  | _, _, _, .nil, h => by simp at h
  | (k', v) :: vs, (_, d') :: ds, _, .cons h r, e => by
    rw [List.lookup_cons] at e ⊢
    cases z : (f == k') with
    | true => rw [z] at e; simp at e; subst e; exact ⟨v, _, rfl, h, fun a ha => List.mem_append_left _ ha⟩
    | false =>
      rw [z] at e
      obtain ⟨v', f1, h1, h2, h3⟩ := r.lookup (f := f) (x := x) (by simpa using e)
      exact ⟨v', f1, h1, h2, fun a ha => List.mem_append_right _ (h3 a ha)⟩
theorem OwFs.lookup_none {f : Str} : ∀ {vs : List (Str × V)} {gs : List (Str × FV)} {fp : List Addr}, OwFs K κ I H vs gs fp → gs.lookup f = none → vs.lookup f = none
  | _, _, _, .nil, h => by simp
  | (k', v) :: vs, (_, d') :: ds, _, .cons h r, e => by
    rw [List.lookup_cons] at e ⊢
    cases z : (f == k') with
    | true => rw [z] at e; simp at e
    | false => rw [z] at e; exact r.lookup_none (by simpa using e)
theorem RpF.lookup_none {f : Str} : ∀ {vs : List (Str × V)} {gs : List (Str × D)}, RpF K κ I vs gs → gs.lookup f = none → vs.lookup f = none
  | _, _, .nil, h => by simp
  | (k', v) :: vs, (_, d') :: ds, .cons h r, e => by
    rw [List.lookup_cons] at e ⊢
    cases z : (f == k') with
    | true => rw [z] at e; simp at e
    | false => rw [z] at e; exact r.lookup_none (by simpa using e)
theorem FV.dat?_some {x : FV} {d : D} (h : x.dat? = some d) : x = .dat d := by cases x <;> simp [FV.dat?] at h; rw [h]
/-- a slot seen, without taking it out -/
theorem EnvR.at_ {i : Nat} {x : SV} : ∀ {σ : List (Option V)} {env : Slots} {fp : List Addr}, EnvR K κ I H σ env fp → env[i]? = some (some x) → ∃ v f1, σ[i]? = some (some v) ∧ OwS K κ I H v x f1 ∧ ∀ a ∈ f1, a ∈ fp := fun {σ env fp} r e => by
  obtain ⟨v, f1, f2, h1, h2, _, h4⟩ := r.get e
  exact ⟨v, f1, h1, h2, fun a ha => h4.mem_iff.mp (List.mem_append_left _ ha)⟩
theorem Ok.at_ {i : Nat} {x : SV} {nfp : List Addr} (k : Ok K κ I F H σ env nfp) (e : env[i]? = some (some x)) : ∃ v f1, σ[i]? = some (some v) ∧ OwS K κ I H v x f1 := by
  obtain ⟨fp, r, _⟩ := k.ex
  obtain ⟨v, f1, h1, h2, _⟩ := r.at_ e
  exact ⟨v, f1, h1, h2⟩
/-- an index asked of the state as it stands -/
theorem teQ {te : TE} {g : EM D} {d : D} {Q : VK} (ht : ∀ σ H Q, teD K κ W g σ H Q → te σ H Q) (k : Ok K κ I F H σ env []) (hq : qD g env = some d)
    (q : ∀ fp H' v, EnvR K κ I H σ env fp → EnvR K κ I H' σ env fp → Rel I F H fp → Ok K κ I F H' σ env [] → (∀ a ∈ fp, H' a = H a) → Rp K κ I v d → Q v H') : te σ H Q := by
  obtain ⟨fp, e, r, kv⟩ := k.view
  refine ht _ _ _ ⟨_, _, _, kv, ?_⟩
  unfold qD at hq
  revert hq
  cases z : g (viewEnv env) with
  | ok d' env' =>
    intro hq I' H' v nfp s k' hR
    obtain ⟨hr, rfl⟩ := hR
    by_cases zz : d'.scal = true
    · simp only [zz, if_true, Option.some.injEq] at hq
      subst hq
      obtain ⟨k2, kp⟩ := Ok.unview e r s k'
      exact q fp H' v e (e.mono (Same.refl I) kp) r k2 kp (hr.scal zz)
    · simp only [if_neg zz] at hq
      cases hq
  | exc e env' => exact fun hq => nomatch hq
  | stuck => exact fun hq => nomatch hq
end
section
variable {X : Cx} {κ : Nat → Addr} {W : WX} {e a b : PySem.Expr} {pos : Pos} {es rest : List PySem.Expr}
theorem rix_of {K : PySem.W.Frag} {I H : Hp} {x y : V} {dx dy d : D} {Q : VK} (s : Same I H) (rx : Rp K κ I x dx) (ry : Rp K κ I y dy) (e : opIx dx dy = some d) (q : ∀ v, Rp K κ I v d → Q v H) : rIx K x y H Q := by
  cases rx <;> cases ry <;> simp only [opIx] at e <;> try (cases e)
  · split at e
    · rename_i hz
      rename_i s i
      cases h : atI s.cps.toList i with
      | none => rw [h] at e; cases e
      | some c =>
        rw [h] at e
        simp only [Option.map_some, Option.some.injEq] at e
        subst e
        exact .inr (.inr ⟨_, _, c, rfl, rfl, hz, h, q _ (.str _)⟩)
    · cases e
  · rename_i h1 r1 i
    obtain ⟨v, hv, rv⟩ := atI_RpA r1 e
    exact .inr (.inl ⟨_, _, _, v, rfl, rfl, SqT.of (s _ _ h1), hv, q _ rv⟩)
  · rename_i h1 r1 i
    obtain ⟨v, hv, rv⟩ := atI_RpA r1 e
    exact .inl ⟨_, _, _, v, rfl, rfl, SqL.of (s _ _ h1), hv, q _ rv⟩
  · rename_i ns hq i
    cases h : atI ns i with
    | none => rw [h] at e; cases e
    | some c =>
      rw [h] at e
      simp only [Option.map_some, Option.some.injEq] at e
      subst e
      exact .inl ⟨_, _, _, .int c, rfl, rfl, same_sq s hq, by rw [atI_map, h]; rfl, q _ (.int c)⟩
theorem rget_of {K : PySem.W.Frag} {I H : Hp} {x y : V} {dx dy d : D} {Q : VK} (s : Same I H) (rx : Rp K κ I x dx) (ry : Rp K κ I y dy) (e : opGet dx dy = some d) (q : ∀ v, Rp K κ I v d → Q v H) : ∃ a v, x = .ref a ∧ DGet H a y (some v) ∧ Q v H := by
  cases rx <;> simp only [opGet] at e <;> try (cases e)
  rename_i h1 r1
  cases hk : keyOf dy with
  | none => rw [hk] at e; cases e
  | some ky =>
    rw [hk] at e
    obtain ⟨v, hv, rv⟩ := getK_RpK r1 (by simpa using e)
    have := keyOf_kV ry hk
    subst this
    exact ⟨_, v, rfl, by rw [← hv]; exact DGet.k (s _ _ h1), q _ rv⟩
theorem de_fld {c : Nat} {f : Str} {g : EM D} (he : PE X e (teD X.K κ W g)) (hc : Cls X.K (κ c)) (hn : NoAttr X.K (κ c) f) (hb : attributeBase e f X.env (eval e X.env) = eval e X.env := by rfl) : PE X (.Attribute e f pos) (teD X.K κ W (eUn (opFld c f) g)) := by
  refine pe_imp (pe_fld he hb) fun σ H Q h => ?_
  obtain ⟨I, F, env, k, p⟩ := h
  refine ⟨I, F, env, k, Post.mono (p.bind (R := RD X.K κ)) ?_⟩
  rintro x H1 ⟨I1, env1, dx, nfp, s1, k1, ⟨rx, rfl⟩, p1⟩
  obtain ⟨d, e, p3⟩ := p1.lift1
  cases rx <;> simp only [opFld] at e <;> try (cases e)
  rename_i h1 r1
  split at e
  · rename_i hcc
    subst hcc
    obtain ⟨v, hv, rv⟩ := r1.lookup e
    exact ⟨_, _, _, _, v, rfl, k1.ext _ _ h1, hc, hn, hv, p3 I1 H1 _ [] (Step.refl F I1) k1 ⟨rv, rfl⟩⟩
  · cases e
theorem de_self {c i : Nat} {f x : Str} {p1 : Pos} (hc : Cls X.K (κ c)) (hn : NoAttr X.K (κ c) f) (hN : X.N[i]? = some x := by rfl) (hv : Vis X.env.scope x := by first | exact Or.inl rfl | exact Or.inr (Or.inl rfl) | exact Or.inr (Or.inr rfl)) (hd : (x == ("__debug__" : Str)) = false := by decide)
    (hcd : (x == ("__classdict__" : Str)) = false := by decide) (hb : attributeBase (.Name x p1) f X.env (eval (.Name x p1) X.env) = eval (.Name x p1) X.env := by rfl) : PE X (.Attribute (.Name x p1) f pos) (teD X.K κ W (eSelf c i f)) := by
  refine pe_imp (pe_fld (pe_var hN hv hd hcd) hb) fun σ H Q h => ?_
  obtain ⟨I, F, env, k, p⟩ := h
  unfold eSelf at p
  split at p
  · rename_i c' gs q
    obtain ⟨v, f1, h1, h2⟩ := k.at_ q
    split at p
    · rename_i hcc
      subst hcc
      obtain ⟨d, e, p3⟩ := p.lift1
      cases h2 with
      | dat r =>
        cases r with
        | obj ho r1 =>
          obtain ⟨v, hv, rv⟩ := r1.lookup e
          exact ⟨_, h1, _, _, _, _, v, rfl, k.ext _ _ ho, hc, hn, hv, p3 I H _ [] (Step.refl F I) k ⟨rv, rfl⟩⟩
    · exact p.elim
  · rename_i c' gs q
    obtain ⟨v, f1, h1, h2⟩ := k.at_ q
    split at p
    · rename_i hcc
      subst hcc
      obtain ⟨d, e, p3⟩ := p.lift1
      cases hl : gs.lookup f with
      | none => rw [hl] at e; cases e
      | some fv =>
        rw [hl] at e
        have := FV.dat?_some (show fv.dat? = some d from e)
        subst this
        cases h2 with
        | own r =>
          cases r with
          | ins ho r1 =>
            obtain ⟨v, f2, hv, rv, _⟩ := r1.lookup hl
            cases rv with
            | dat rv => exact ⟨_, h1, _, _, _, _, v, rfl, ho, hc, hn, hv, p3 I H _ [] (Step.refl F I) k ⟨rv, rfl⟩⟩
    · exact p.elim
  · exact p.elim
/-- x[e], x an own list -/
theorem de_ownIx {i : Nat} {x : Str} {g : EM D} {p1 : Pos} (hb : PE X b (teD X.K κ W g)) (hs : PlainIx b := by exact fun _ _ => rfl) (hN : X.N[i]? = some x := by rfl) (hv : Vis X.env.scope x := by first | exact Or.inl rfl | exact Or.inr (Or.inl rfl) | exact Or.inr (Or.inr rfl)) (hd : (x == ("__debug__" : Str)) = false := by decide)
    (hcd : (x == ("__classdict__" : Str)) = false := by decide) : PE X (.Subscript (.Name x p1) b pos) (teD X.K κ W (eOwnIx i g)) := by
  refine pe_imp (pe_ix ix_seq (pe_var hN hv hd hcd) hb hs) fun σ H Q h => ?_
  obtain ⟨I, F, env, k, p⟩ := h
  unfold eOwnIx at p
  split at p
  · rename_i ds q
    obtain ⟨v, f1, h1, h2⟩ := k.at_ q
    obtain ⟨d, e, p3⟩ := p.lift1
    cases hq : qD g env with
    | none => rw [hq] at e; cases e
    | some dy =>
      rw [hq] at e
      simp only [Option.bind_some, Lf.at_] at e
      split at e
      · rename_i ix
        refine ⟨v, h1, teQ (te := teD X.K κ W g) (fun _ _ _ h => h) k hq fun fp H' y e1 e1' r k2 kp ry => ?_⟩
        cases ry
        obtain ⟨v', f1', h1', h2', hm⟩ := e1'.at_ q
        rw [h1] at h1'
        cases h1'
        cases h2' with
        | own m =>
          cases m with
          | lf l =>
            cases l with
            | lst hH ra =>
              obtain ⟨w, hw, rw'⟩ := atI_RpA ra e
              exact .inl ⟨_, _, _, w, rfl, rfl, SqL.of hH, hw, p3 I H' _ [] (Step.refl F I) k2 ⟨rw', rfl⟩⟩
      · cases e
  · rename_i dd q
    obtain ⟨v, f1, h1, h2⟩ := k.at_ q
    obtain ⟨d, e, p3⟩ := p.lift1
    cases h2 with
    | dat rx =>
    cases hq : qD g env with
    | none => rw [hq] at e; cases e
    | some dy =>
      rw [hq] at e
      simp only [Option.bind_some] at e
      refine ⟨v, h1, teQ (te := teD X.K κ W g) (fun _ _ _ h => h) k hq fun fp H' y e1 e1' r k2 kp ry => ?_⟩
      exact rix_of k2.ext rx ry e fun v rv => p3 I H' _ [] (Step.refl F I) k2 ⟨rv, rfl⟩
  · exact p.elim
theorem de_ownGet {i : Nat} {x : Str} {g : EM D} {p1 : Pos} (hu : X.A.units + 1 < cLine) (hb : PE X b (teD X.K κ W g)) (hs : NoSl b := by exact fun _ _ => rfl) (hN : X.N[i]? = some x := by rfl) (hv : Vis X.env.scope x := by first | exact Or.inl rfl | exact Or.inr (Or.inl rfl) | exact Or.inr (Or.inr rfl)) (hd : (x == ("__debug__" : Str)) = false := by decide)
    (hcd : (x == ("__classdict__" : Str)) = false := by decide) : PE X (.Subscript (.Name x p1) b pos) (teD X.K κ W (eOwnGet i g)) := by
  refine pe_imp (pe_dget hu (pe_var hN hv hd hcd) hb hs) fun σ H Q h => ?_
  obtain ⟨I, F, env, k, p⟩ := h
  unfold eOwnGet at p
  split at p
  · rename_i ds q
    obtain ⟨v, f1, h1, h2⟩ := k.at_ q
    obtain ⟨d, e, p3⟩ := p.lift1
    cases hq : qD g env with
    | none => rw [hq] at e; cases e
    | some dy =>
      rw [hq] at e
      simp only [Option.bind_some, Lf.at_] at e
      cases hk : keyOf dy with
      | none => rw [hk] at e; cases e
      | some ky =>
        rw [hk] at e
        simp only [Option.bind_some] at e
        refine ⟨v, h1, teQ (te := teD X.K κ W g) (fun _ _ _ h => h) k hq fun fp H' y e1 e1' r k2 kp ry => ?_⟩
        have := keyOf_kV ry hk
        subst this
        obtain ⟨v', f1', h1', h2', hm⟩ := e1'.at_ q
        rw [h1] at h1'
        cases h1'
        cases h2' with
        | own m =>
          cases m with
          | lf l =>
            cases l with
            | dct hH ra =>
              obtain ⟨w, hw, rw'⟩ := getK_RpK ra e
              exact ⟨_, w, rfl, by rw [← hw]; exact DGet.k hH, p3 I H' _ [] (Step.refl F I) k2 ⟨rw', rfl⟩⟩
  · rename_i dd q
    obtain ⟨v, f1, h1, h2⟩ := k.at_ q
    obtain ⟨d, e, p3⟩ := p.lift1
    cases h2 with
    | dat rx =>
    cases hq : qD g env with
    | none => rw [hq] at e; cases e
    | some dy =>
      rw [hq] at e
      simp only [Option.bind_some] at e
      refine ⟨v, h1, teQ (te := teD X.K κ W g) (fun _ _ _ h => h) k hq fun fp H' y e1 e1' r k2 kp ry => ?_⟩
      exact rget_of k2.ext rx ry e fun v rv => p3 I H' _ [] (Step.refl F I) k2 ⟨rv, rfl⟩
  · exact p.elim
/-- self.f[e], self.f an own list or data -/
theorem de_selfIx {c i : Nat} {f x : Str} {g : EM D} {p1 p2 : Pos} (hc : Cls X.K (κ c)) (hn : NoAttr X.K (κ c) f) (hb : PE X b (teD X.K κ W g)) (hs : PlainIx b := by exact fun _ _ => rfl) (hN : X.N[i]? = some x := by rfl) (hv : Vis X.env.scope x := by first | exact Or.inl rfl | exact Or.inr (Or.inl rfl) | exact Or.inr (Or.inr rfl)) (hd : (x == ("__debug__" : Str)) = false := by decide)
    (hcd : (x == ("__classdict__" : Str)) = false := by decide) (hba : attributeBase (.Name x p1) f X.env (eval (.Name x p1) X.env) = eval (.Name x p1) X.env := by rfl) : PE X (.Subscript (.Attribute (.Name x p1) f p2) b pos) (teD X.K κ W (eSelfIx c i f g)) := by
  refine pe_imp (pe_ix ix_seq (pe_fld (pe_var hN hv hd hcd) hba) hb hs) fun σ H Q h => ?_
  obtain ⟨I, F, env, k, p⟩ := h
  unfold eSelfIx at p
  split at p
  · rename_i c' gs q
    split at p
    · rename_i hcc
      subst hcc
      split at p
      · rename_i ds hl
        obtain ⟨d, e, p3⟩ := p.lift1
        cases hq : qD g env with
        | none => rw [hq] at e; cases e
        | some dy =>
          rw [hq] at e
          simp only [Option.bind_some, Lf.at_] at e
          split at e
          · rename_i ix
            obtain ⟨fp, er, rr⟩ := k.ex
            obtain ⟨v, f1, h1, h2, hm⟩ := er.at_ q
            cases h2 with
            | own m =>
            cases m with
            | ins ho r1 =>
            obtain ⟨w, f2, hw, ow, hm2⟩ := r1.lookup hl
            refine ⟨_, h1, _, _, _, _, w, rfl, ho, hc, hn, hw, teQ (te := teD X.K κ W g) (fun _ _ _ h => h) ⟨fp, er, rr⟩ hq fun fp' H' y e1 e1' r k2 kp ry => ?_⟩
            cases ry
            cases ow with
            | own ow =>
              cases ow with
              | lst hH ra =>
                obtain ⟨u, hu, ru⟩ := atI_RpA ra e
                -- the list's own place stays
                obtain ⟨v', f1', h1', h2', hm'⟩ := e1.at_ q
                rw [h1] at h1'
                cases h1'
                cases h2' with
                | own m' =>
                  cases m' with
                  | ins ho' r1' =>
                    rw [ho] at ho'
                    cases ho'
                    obtain ⟨w', f2', hw', ow', hm2'⟩ := r1'.lookup hl
                    rw [hw] at hw'
                    cases hw'
                    cases ow' with
                    | own ow' =>
                      cases ow' with
                      | lst hH' ra' =>
                        have hk := kp _ (hm' _ (List.mem_cons_of_mem _ (hm2' _ (List.mem_singleton.mpr rfl))))
                        exact .inl ⟨_, _, _, u, rfl, rfl, SqL.of (hk.trans hH), hu, p3 I H' _ [] (Step.refl F I) k2 ⟨ru, rfl⟩⟩
          · cases e
      · rename_i dd hl
        obtain ⟨d, e, p3⟩ := p.lift1
        cases hq : qD g env with
        | none => rw [hq] at e; cases e
        | some dy =>
          rw [hq] at e
          simp only [Option.bind_some] at e
          obtain ⟨v, f1, h1, h2⟩ := k.at_ q
          cases h2 with
          | own m =>
          cases m with
          | ins ho r1 =>
          obtain ⟨w, f2, hw, ow, hm2⟩ := r1.lookup hl
          cases ow with
          | dat rx =>
          refine ⟨_, h1, _, _, _, _, w, rfl, ho, hc, hn, hw, teQ (te := teD X.K κ W g) (fun _ _ _ h => h) k hq fun fp' H' y e1 e1' r k2 kp ry => ?_⟩
          exact rix_of k2.ext rx ry e fun v rv => p3 I H' _ [] (Step.refl F I) k2 ⟨rv, rfl⟩
      · exact p.elim
    · exact p.elim
  · exact p.elim
end
end DL

/-! DL6: built-in calls -/
namespace DL
open PySem L2
def intsOf : List D → Option (List Int)
  | [] => some []
  | .int i :: r => (intsOf r).map (i :: ·)
  | _ => none
def blsOf : List D → Option (List Bool)
  | [] => some []
  | .bl i :: r => (blsOf r).map (i :: ·)
  | _ => none
theorem intsOf_some : ∀ {ds : List D} {ns : List Int}, intsOf ds = some ns → ds = ns.map D.int
  | [], ns, h => by simp [intsOf] at h; subst h; rfl
  | d :: r, ns, h => by
    cases d <;> simp [intsOf] at h
    obtain ⟨a, h1, h2⟩ := h
    subst h2
    rw [intsOf_some h1]; rfl
theorem intsOf_map : ∀ (ns : List Int), intsOf (ns.map D.int) = some ns
  | [] => rfl
  | n :: r => by simp [intsOf, intsOf_map r]
theorem blsOf_some : ∀ {ds : List D} {ns : List Bool}, blsOf ds = some ns → ds = ns.map D.bl
  | [], ns, h => by simp [blsOf] at h; subst h; rfl
  | d :: r, ns, h => by
    cases d <;> simp [blsOf] at h
    obtain ⟨a, h1, h2⟩ := h
    subst h2
    rw [blsOf_some h1]; rfl
theorem blsOf_map : ∀ (ns : List Bool), blsOf (ns.map D.bl) = some ns
  | [] => rfl
  | n :: r => by simp [blsOf, blsOf_map r]
def opLen : List D → Option D
  | [.lst ds] => some (.int ds.length)
  | [.tup ds] => some (.int ds.length)
  | [.scr ds] => some (.int ds.length)
  | [.str s] => if s.length ≤ sizeLine then some (.int s.length) else none
  | [.dct ds] => some (.int ds.length)
  | _ => none
def opMax : List D → Option D
  | [.lst ds] => (intsOf ds).bind fun ns => ns.max?.map D.int
  | [.int i, .int j] => some (.int (max i j))
  | _ => none
def opMin : List D → Option D
  | [.lst ds] => (intsOf ds).bind fun ns => ns.min?.map D.int
  | [.int i, .int j] => some (.int (min i j))
  | _ => none
def opSum : List D → Option D
  | [.lst ds] => (intsOf ds).map fun ns => .int ns.sum
  | _ => none
def sortI (ns : List Int) : List Int := ns.mergeSort fun a b => decide (a ≤ b)
def opSorted : List D → Option D
  | [.lst ds] => (intsOf ds).map fun ns => .lst ((sortI ns).map D.int)
  | _ => none
def opAbs : List D → Option D
  | [.int i] => some (.int (if i < 0 then -i else i))
  | _ => none
def opInt : List D → Option D
  | [.int i] => some (.int i)
  | [.bl b] => some (.int (if b then 1 else 0))
  | [.str s] => if s.length ≤ 640 then (PySem.intText? s).map D.int else none
  | _ => none
def opStr : List D → Option D
  | [.int i] => if i.natAbs.log2 < 1920 then some (.str (toString i)) else none
  | _ => none
def opDivmod : List D → Option D
  | [.int i, .int j] => if 0 < j ∧ j.natAbs.log2 < 9000 then some (.tup [.int (i / j), .int (i % j)]) else none
  | _ => none
def opList : List D → Option D
  | [.lst ds] => some (.lst ds)
  | [.tup ds] => some (.lst ds)
  | [.scr ns] => some (.lst (ns.map D.int))
  | _ => none
def opTuple : List D → Option D
  | [.lst ds] => some (.tup ds)
  | [.tup ds] => some (.tup ds)
  | _ => none
def opAll : List D → Option D
  | [.lst ds] => (blsOf ds).map fun bs => .bl (bs.all id)
  | _ => none
def tyD : D → Option String
  | .non => some "NoneType"
  | .bl _ => some "bool"
  | .int _ => some "int"
  | .str _ => some "str"
  | .lst _ => some "list"
  | .tup _ => some "tuple"
  | .dct _ => some "dict"
  | _ => none
def isB (a b : String) : Bool := a == b || (a == "bool" && b == "int")
def eIsB (T : String) (f : EM D) : EM D := f.bind fun d => lift ((tyD d).map fun t => .bl (isB t T))
section
variable {X : Cx} {κ : Nat → Addr} {W : WX}
def CallD (X : Cx) (κ : Nat → Addr) (f : Value) (op : List D → Option D) : Prop :=
  ∃ r, CallR X f r ∧ ∀ (σ : L2.St) (I F H : Hp) (env : Slots) (vs : List V) (ds : List D) (d : D) (Q : VK), Ok X.K κ I F H σ env [] → RpA X.K κ I vs ds → op ds = some d →
    (∀ I' H' v, Step F I I' → Ok X.K κ I' F H' σ env [] → Rp X.K κ I' v d → Q v H') → r vs H Q
theorem de_callB {id : String} {x : Str} {e : PySem.Expr} {es : List PySem.Expr} {p pos : Pos} {g : EM (List D)} {op : List D → Option D} (hc : CallD X κ (.builtin id) op) (hm : X.mg x = none) (hv : bootBuiltins x = some (.builtin id)) (ha : PA X (e :: es) (taD X.K κ W g)) (hg : Gl X x := by rfl) (hn : x ≠ "__name__" := by decide) (hdb : (x == ("__debug__" : Str)) = false := by decide)
    (he : starEach (e :: es) X.env = (false, eval e X.env) :: starEach es X.env := by rfl) (hpl : (backTo pos (starEach es X.env)).any (·.1) = false := by rfl) : PE X (.Call (.Name x p) (e :: es) [] pos) (teD X.K κ W (eCallB op g)) := by
  obtain ⟨r, h1, h2⟩ := hc
  refine pe_imp (pe_callB h1 hg hm hv ha hn hdb he hpl) fun σ H Q h => ?_
  obtain ⟨I, F, env, k, p⟩ := h
  refine ⟨I, F, env, k, Post.mono (p.bind (R := RA X.K κ)) ?_⟩
  rintro xs H1 ⟨I1, env1, ds, nfp, s1, k1, ⟨rx, rfl⟩, p1⟩
  obtain ⟨d, e, p3⟩ := p1.lift1
  exact h2 σ I1 F H1 env1 xs ds d Q k1 rx e fun I' H' v s o r => p3 I' H' v [] s o ⟨r, rfl⟩
theorem de_callTy {T : String} {x : Str} {e : PySem.Expr} {es : List PySem.Expr} {p pos : Pos} {g : EM (List D)} {op : List D → Option D} (hc : CallD X κ (.type T) op) (hm : X.mg x = none) (hv : bootBuiltins x = some (.type T)) (ha : PA X (e :: es) (taD X.K κ W g)) (hg : Gl X x := by rfl) (hn : x ≠ "__name__" := by decide) (hdb : (x == ("__debug__" : Str)) = false := by decide)
    (he : starEach (e :: es) X.env = (false, eval e X.env) :: starEach es X.env := by rfl) (hpl : (backTo pos (starEach es X.env)).any (·.1) = false := by rfl) : PE X (.Call (.Name x p) (e :: es) [] pos) (teD X.K κ W (eCallB op g)) := by
  obtain ⟨r, h1, h2⟩ := hc
  refine pe_imp (pe_callTy h1 hg hm hv ha hn hdb he hpl) fun σ H Q h => ?_
  obtain ⟨I, F, env, k, p⟩ := h
  refine ⟨I, F, env, k, Post.mono (p.bind (R := RA X.K κ)) ?_⟩
  rintro xs H1 ⟨I1, env1, ds, nfp, s1, k1, ⟨rx, rfl⟩, p1⟩
  obtain ⟨d, e, p3⟩ := p1.lift1
  exact h2 σ I1 F H1 env1 xs ds d Q k1 rx e fun I' H' v s o r => p3 I' H' v [] s o ⟨r, rfl⟩
theorem RpA.one {K : PySem.W.Frag} {I : Hp} {vs : List V} {d : D} (r : RpA K κ I vs [d]) : ∃ v, vs = [v] ∧ Rp K κ I v d := by
  cases r with
  | cons h t => cases t; exact ⟨_, rfl, h⟩
theorem RpA.two {K : PySem.W.Frag} {I : Hp} {vs : List V} {d d' : D} (r : RpA K κ I vs [d, d']) : ∃ v v', vs = [v, v'] ∧ Rp K κ I v d ∧ Rp K κ I v' d' := by
  cases r with
  | cons h t =>
    obtain ⟨v, rfl, h2⟩ := t.one
    exact ⟨_, _, rfl, h, h2⟩
theorem call_lenD' : CallR X (.builtin "len") (fun xs H Q => ∃ a kvs, xs = [V.ref a] ∧ H a = some (.dK kvs) ∧ Q (.int kvs.length) H) := call_lenD
theorem RpK.length {K : PySem.W.Frag} {I : Hp} : ∀ {vs : List (Key × V)} {ds : List (Key × D)}, RpK K κ I vs ds → vs.length = ds.length
  | _, _, .nil => rfl
  | _, _, .cons _ r => by simp [r.length]
theorem cd_len : CallD X κ (.builtin "len") opLen := by
  refine ⟨_, CallR.or call_len call_lenD', fun σ I F H env vs ds d Q k rs e q => ?_⟩
  unfold opLen at e
  split at e
  · cases e
    obtain ⟨v, rfl, r⟩ := rs.one
    cases r with
    | lst h r => exact .inl ⟨_, _, rfl, .inl ⟨_, SqL.of (k.ext _ _ h), r.length.symm⟩, q0 k q (.int _)⟩
  · cases e
    obtain ⟨v, rfl, r⟩ := rs.one
    cases r with
    | tup h r => exact .inl ⟨_, _, rfl, .inr ⟨_, SqT.of (k.ext _ _ h), r.length.symm⟩, q0 k q (.int _)⟩
  · cases e
    obtain ⟨v, rfl, r⟩ := rs.one
    cases r with
    | scr h => exact .inl ⟨_, _, rfl, .inl ⟨_, same_sq k.ext h, (List.length_map _).symm⟩, q0 k q (.int _)⟩
  · split at e
    · rename_i hz
      cases e
      obtain ⟨v, rfl, r⟩ := rs.one
      cases r
      exact .inl ⟨_, _, rfl, ⟨hz, rfl⟩, q0 k q (.int _)⟩
    · cases e
  · cases e
    obtain ⟨v, rfl, r⟩ := rs.one
    cases r with
    | dct h r => exact .inr ⟨_, _, rfl, k.ext _ _ h, by rw [r.length]; exact q0 k q (.int _)⟩
  · cases e
theorem max?_of {ns : List Int} {m : Int} (h : ns.max? = some m) : m ∈ ns ∧ ∀ y ∈ ns, y ≤ m := by
  have := List.max?_eq_some_iff.mp h
  exact this
theorem min?_of {ns : List Int} {m : Int} (h : ns.min? = some m) : m ∈ ns ∧ ∀ y ∈ ns, m ≤ y := by
  have := List.min?_eq_some_iff.mp h
  exact this
theorem cd_max (hc : X.calm = true) : CallD X κ (.builtin "max") opMax := by
  refine ⟨_, CallR.or (cr_max hc) (call_max2 hc), fun σ I F H env vs ds d Q k rs e q => ?_⟩
  unfold opMax at e
  split at e
  · obtain ⟨v, rfl, r⟩ := rs.one
    rename_i ds
    cases h : intsOf ds with
    | none => rw [h] at e; cases e
    | some ns =>
      rw [h] at e
      simp only [Option.bind_some] at e
      cases hm : ns.max? with
      | none => rw [hm] at e; cases e
      | some m =>
        rw [hm] at e
        cases e
        have := intsOf_some h
        subst this
        cases r with
        | lst hI r =>
          have := r.ofInts
          subst this
          obtain ⟨m1, m2⟩ := max?_of hm
          refine .inl ⟨_, ns, rfl, SqL.of (k.ext _ _ hI), List.length_pos_of_mem m1, fun m' h1 h2 => ?_⟩
          have : m' = m := Int.le_antisymm (m2 _ h1) (h2 _ m1)
          subst this
          exact q0 k q (.int _)
  · cases e
    obtain ⟨v, v', rfl, r, r'⟩ := rs.two
    cases r; cases r'
    refine .inr ⟨_, _, rfl, ?_⟩
    rename_i i j
    have : (if j > i then j else i) = max i j := by
      rw [Int.max_def]; split <;> split <;> omega
    rw [this]
    exact q0 k q (.int _)
  · cases e
theorem cd_min (hc : X.calm = true) : CallD X κ (.builtin "min") opMin := by
  refine ⟨_, CallR.or (cr_min hc) (call_min2 hc), fun σ I F H env vs ds d Q k rs e q => ?_⟩
  unfold opMin at e
  split at e
  · obtain ⟨v, rfl, r⟩ := rs.one
    rename_i ds
    cases h : intsOf ds with
    | none => rw [h] at e; cases e
    | some ns =>
      rw [h] at e
      simp only [Option.bind_some] at e
      cases hm : ns.min? with
      | none => rw [hm] at e; cases e
      | some m =>
        rw [hm] at e
        cases e
        have := intsOf_some h
        subst this
        cases r with
        | lst hI r =>
          have := r.ofInts
          subst this
          obtain ⟨m1, m2⟩ := min?_of hm
          refine .inl ⟨_, ns, rfl, SqL.of (k.ext _ _ hI), List.length_pos_of_mem m1, fun m' h1 h2 => ?_⟩
          have : m' = m := Int.le_antisymm (h2 _ m1) (m2 _ h1)
          subst this
          exact q0 k q (.int _)
  · cases e
    obtain ⟨v, v', rfl, r, r'⟩ := rs.two
    cases r; cases r'
    refine .inr ⟨_, _, rfl, ?_⟩
    rename_i i j
    have : (if j < i then j else i) = min i j := by
      rw [Int.min_def]; split <;> split <;> omega
    rw [this]
    exact q0 k q (.int _)
  · cases e
theorem cd_sum (hc : X.calm = true) : CallD X κ (.builtin "sum") opSum := by
  refine ⟨_, cr_sum hc, fun σ I F H env vs ds d Q k rs e q => ?_⟩
  unfold opSum at e
  split at e
  · obtain ⟨v, rfl, r⟩ := rs.one
    rename_i ds
    cases h : intsOf ds with
    | none => rw [h] at e; cases e
    | some ns =>
      rw [h] at e
      cases e
      have := intsOf_some h
      subst this
      cases r with
      | lst hI r =>
        have := r.ofInts
        subst this
        exact ⟨_, ns, rfl, SqL.of (k.ext _ _ hI), q0 k q (.int _)⟩
  · cases e
theorem sortI_perm (ns : List Int) : (sortI ns).Perm ns := List.mergeSort_perm _ _
theorem sortI_pw (ns : List Int) : (sortI ns).Pairwise (· ≤ ·) := by
  have := List.pairwise_mergeSort (le := fun a b : Int => decide (a ≤ b)) (fun a b c h1 h2 => by
    have h1 := of_decide_eq_true h1
    have h2 := of_decide_eq_true h2
    exact decide_eq_true (Int.le_trans h1 h2)) (fun a b => by
    rcases Int.le_total a b with h | h
    · simp [h]
    · simp [h]) ns
  exact this.imp fun h => of_decide_eq_true h
theorem sortI_unique {ns ms : List Int} (p : ms.Perm ns) (h : ms.Pairwise (· ≤ ·)) : ms = sortI ns := PySem.W.ksm_same (p.trans (sortI_perm ns).symm) h (sortI_pw ns)
theorem cd_sorted : CallD X κ (.builtin "sorted") opSorted := by
  refine ⟨_, cr_sortedI, fun σ I F H env vs ds d Q k rs e q => ?_⟩
  unfold opSorted at e
  split at e
  · obtain ⟨v, rfl, r⟩ := rs.one
    rename_i ds
    cases h : intsOf ds with
    | none => rw [h] at e; cases e
    | some ns =>
      rw [h] at e
      cases e
      have := intsOf_some h
      subst this
      cases r with
      | lst hI r =>
        have := r.ofInts
        subst this
        refine ⟨_, ns, rfl, SqL.of (k.ext _ _ hI), fun ms p pm pw hp => ?_⟩
        have := sortI_unique pm pw
        subst this
        exact q1 k q (fun p I' s e => .lst e RpA.ints) p hp
  · cases e
theorem cd_abs : CallD X κ (.builtin "abs") opAbs := by
  refine ⟨_, call_abs, fun σ I F H env vs ds d Q k rs e q => ?_⟩
  unfold opAbs at e
  split at e
  · cases e
    obtain ⟨v, rfl, r⟩ := rs.one
    cases r
    exact ⟨_, rfl, q0 k q (.int _)⟩
  · cases e
theorem cd_int : CallD X κ (.type "int") opInt := by
  refine ⟨_, CallR.or call_int1 call_int_str, fun σ I F H env vs ds d Q k rs e q => ?_⟩
  unfold opInt at e
  split at e
  · cases e
    obtain ⟨v, rfl, r⟩ := rs.one
    cases r
    exact .inl (.inl ⟨_, rfl, q0 k q (.int _)⟩)
  · cases e
    obtain ⟨v, rfl, r⟩ := rs.one
    cases r
    exact .inl (.inr ⟨_, rfl, q0 k q (.int _)⟩)
  · rename_i s
    split at e
    · rename_i hz
      obtain ⟨v, rfl, r⟩ := rs.one
      cases r
      cases h : PySem.intText? s with
      | none => rw [h] at e; cases e
      | some n =>
        rw [h] at e
        cases e
        exact .inr ⟨_, n, rfl, h, hz, q0 k q (.int _)⟩
    · cases e
  · cases e
theorem cd_str : CallD X κ (.type "str") opStr := by
  refine ⟨_, call_str_int, fun σ I F H env vs ds d Q k rs e q => ?_⟩
  unfold opStr at e
  split at e
  · split at e
    · rename_i hz
      cases e
      obtain ⟨v, rfl, r⟩ := rs.one
      cases r
      exact ⟨_, rfl, hz, q0 k q (.str _)⟩
    · cases e
  · cases e
theorem cd_divmod : CallD X κ (.builtin "divmod") opDivmod := by
  refine ⟨_, call_divmodW, fun σ I F H env vs ds d Q k rs e q => ?_⟩
  unfold opDivmod at e
  split at e
  · split at e
    · rename_i hz
      cases e
      obtain ⟨v, v', rfl, r, r'⟩ := rs.two
      cases r; cases r'
      exact ⟨_, _, rfl, ⟨hz.1, PyProof.noPylong_of_log2 hz.2⟩, q1 k q fun p I' s e => .tup e (.cons (.int _) (.cons (.int _) .nil))⟩
    · cases e
  · cases e
theorem cd_list : CallD X κ (.type "list") opList := by
  refine ⟨_, call_list_of, fun σ I F H env vs ds d Q k rs e q => ?_⟩
  unfold opList at e
  split at e
  · cases e
    obtain ⟨v, rfl, r⟩ := rs.one
    cases r with
    | lst h r => exact ⟨_, _, rfl, .inl (SqL.of (k.ext _ _ h)), q1 k q fun p I' s e => .lst e (r.mono s)⟩
  · cases e
    obtain ⟨v, rfl, r⟩ := rs.one
    cases r with
    | tup h r => exact ⟨_, _, rfl, .inr (SqT.of (k.ext _ _ h)), q1 k q fun p I' s e => .lst e (r.mono s)⟩
  · cases e
    obtain ⟨v, rfl, r⟩ := rs.one
    cases r with
    | scr h => exact ⟨_, _, rfl, .inl (same_sq k.ext h), q1 k q fun p I' s e => .lst e RpA.ints⟩
  · cases e
theorem cd_tuple : CallD X κ (.type "tuple") opTuple := by
  refine ⟨_, call_tuple_of, fun σ I F H env vs ds d Q k rs e q => ?_⟩
  unfold opTuple at e
  split at e
  · cases e
    obtain ⟨v, rfl, r⟩ := rs.one
    cases r with
    | lst h r => exact ⟨_, _, rfl, .inl ⟨SqL.of (k.ext _ _ h), q1 k q fun p I' s e => .tup e (r.mono s)⟩⟩
  · cases e
    obtain ⟨v, rfl, r⟩ := rs.one
    cases r with
    | tup h r => exact ⟨_, _, rfl, .inr ⟨SqT.of (k.ext _ _ h), q0 k q (.tup h r)⟩⟩
  · cases e
theorem cd_all (hc : X.calm = true) : CallD X κ (.builtin "all") opAll := by
  refine ⟨_, cr_all hc, fun σ I F H env vs ds d Q k rs e q => ?_⟩
  unfold opAll at e
  split at e
  · obtain ⟨v, rfl, r⟩ := rs.one
    rename_i ds
    cases h : blsOf ds with
    | none => rw [h] at e; cases e
    | some ns =>
      rw [h] at e
      cases e
      have := blsOf_some h
      subst this
      cases r with
      | lst hI r =>
        have := r.ofBls
        subst this
        exact ⟨_, ns, rfl, SqL.of (k.ext _ _ hI), q0 k q (.bl _)⟩
  · cases e
theorem kit_table : ∀ a ∈ ["NoneType", "bool", "int", "str", "list", "tuple", "dict"], ∀ b ∈ ["bool", "int", "str", "list", "tuple"], kitB a b = some (isB a b) := by decide +kernel
theorem ty_of {K : PySem.W.Frag} {I H : Hp} {v : V} {d : D} {t : String} (s : Same I H) (r : Rp K κ I v d) (h : tyD d = some t) : TyX K H v (.type t) := by
  cases r <;> simp only [tyD] at h <;> cases h
  · exact .base .non
  · exact .base (.bl _)
  · exact .base (.int _)
  · exact .base (.str _)
  · rename_i h1 _; exact .base (.tup (s _ _ h1))
  · rename_i h1 _; exact .base (.lst (s _ _ h1))
  · rename_i h1 _; exact .base (.dK (s _ _ h1))
theorem tyD_mem {d : D} {t : String} (h : tyD d = some t) : t ∈ ["NoneType", "bool", "int", "str", "list", "tuple", "dict"] := by
  cases d <;> simp only [tyD] at h <;> cases h <;> decide
/-- isinstance(e, T), T a built-in type -/
theorem de_isB {T : String} {x : Str} {e : PySem.Expr} {f : EM D} {p p2 pos : Pos} (hm : X.mg "isinstance" = none) (hmT : X.mg x = none) (hvT : bootBuiltins x = some (.type T)) (hT : T ∈ ["bool", "int", "str", "list", "tuple"]) (he : PE X e (teD X.K κ W f)) (hg : Gl X "isinstance" := by rfl) (hgT : Gl X x := by rfl) (hn : x ≠ "__name__" := by decide) (hdb : (x == ("__debug__" : Str)) = false := by decide)
    (hs : starEach [e, .Name x p2] X.env = (false, eval e X.env) :: starEach [.Name x p2] X.env := by rfl) (hs2 : starEach [.Name x p2] X.env = (false, eval (.Name x p2) X.env) :: starEach [] X.env := by rfl) (hpl : (backTo pos (starEach [.Name x p2] X.env)).any (·.1) = false := by rfl) :
    PE X (.Call (.Name "isinstance" p) [e, .Name x p2] [] pos) (teD X.K κ W (eIsB T f)) := by
  refine pe_imp (pe_callB call_isi hg hm (by decide +kernel) (pa_cons he (pa_cons (pe_bltn (v := .ty T) hgT hmT hvT rfl hn hdb) pa_nil hs2) hs) (by decide) (by decide) hs hpl) fun σ H Q h => ?_
  obtain ⟨I, F, env, k, p⟩ := h
  refine ⟨I, F, env, k, Post.mono (p.bind (R := RD X.K κ)) ?_⟩
  rintro v H1 ⟨I1, env1, d, nfp, s1, k1, ⟨rx, rfl⟩, p1⟩
  obtain ⟨d', e', p3⟩ := p1.lift1
  cases ht : tyD d with
  | none => rw [ht] at e'; cases e'
  | some t =>
    rw [ht] at e'
    cases e'
    exact ⟨v, .ty T, .type t, .type T, isB t T, rfl, .ty T, ty_of k1.ext rx ht, kit_ty (kit_table t (tyD_mem ht) T hT), p3 I1 H1 _ [] (Step.refl F I1) k1 ⟨.bl _, rfl⟩⟩
end
end DL

/-! DL7: statements -/
namespace DL
open PySem L2
inductive Fl where
  | nx | bk | ct | rt (v : SV)
abbrev SM := EM Fl
structure Pin (P : List Nat) (σ σ' : L2.St) : Prop where
  len : σ'.length = σ.length
  at_ : ∀ i ∈ P, σ'[i]? = σ[i]?
theorem Pin.refl (P : List Nat) (σ : L2.St) : Pin P σ σ := ⟨rfl, fun _ _ => rfl⟩
theorem Pin.trans {P : List Nat} {a b c : L2.St} (h : Pin P a b) (h' : Pin P b c) : Pin P a c := ⟨h'.len.trans h.len, fun i m => (h'.at_ i m).trans (h.at_ i m)⟩
theorem Pin.set {P : List Nat} {σ : L2.St} {i : Nat} {x : Option V} (h : i ∉ P) : Pin P σ (σ.set i x) := ⟨by simp, fun j m => by
  have : i ≠ j := fun z => h (z ▸ m)
  rw [List.getElem?_set_ne this]⟩
section
variable (K : PySem.W.Frag) (κ : Nat → Addr)
def PostS (W : WX) (P : List Nat) (I F : Hp) (σ : L2.St) (Dn : Ends) : RE Fl → Prop
  | .ok fl env' => ∀ I' H' σ', Step F I I' → Pin P σ σ' → match fl with
    | .nx => Ok K κ I' F H' σ' env' [] → Dn.nx σ' H'
    | .bk => Ok K κ I' F H' σ' env' [] → Dn.bk σ' H'
    | .ct => Ok K κ I' F H' σ' env' [] → Dn.ct σ' H'
    | .rt sv => ∀ v nfp, Ok K κ I' F H' σ' env' nfp → OwS K κ I' H' v sv nfp → Dn.rt v H'
  | .exc e env' => ∀ I' H' σ' cls dd, Step F I I' → Pin P σ σ' → Ok K κ I' F H' σ' env' [] → ExR K κ I' e cls dd → W cls dd σ' H'
  | .stuck => False
def tsD (W : WX) (P : List Nat) (f : SM) : TS := fun Dn σ H => ∃ I F env, Ok K κ I F H σ env [] ∧ PostS K κ W P I F σ Dn (f env)
end
section
variable {K : PySem.W.Frag} {κ : Nat → Addr} {I I' F H H' : Hp} {σ σ' : L2.St} {env : Slots} {W : WX} {P : List Nat} {Dn Dn' : Ends}
theorem PostS.step {r : RE Fl} (p : PostS K κ W P I F σ Dn r) (s : Step F I I') (pn : Pin P σ σ') : PostS K κ W P I' F σ' Dn r := by
  cases r with
  | ok fl env' =>
    intro I2 H2 σ2 s2 p2
    exact p I2 H2 σ2 (s.trans s2) (pn.trans p2)
  | exc e env' => exact fun I2 H2 σ2 c d s2 p2 o h => p I2 H2 σ2 c d (s.trans s2) (pn.trans p2) o h
  | stuck => exact p
/-- a statement's expression: what is left -/
theorem PostS.ex {α β : Type} {R : Hp → Hp → β → α → List Addr → Prop} {f : EM α} {g : α → SM} (p : PostS K κ W P I F σ Dn ((f.bind g) env)) :
    Post K κ R W I F σ (fun b H1 => ∃ I1 env1 a nfp, Step F I I1 ∧ Ok K κ I1 F H1 σ env1 nfp ∧ R I1 H1 b a nfp ∧ PostS K κ W P I1 F σ Dn (g a env1)) (f env) := by
  unfold EM.bind at p
  revert p
  cases f env with
  | ok a env' => exact fun p I2 H2 b nfp s o h => ⟨I2, env', a, nfp, s, o, h, p.step s (Pin.refl P σ)⟩
  | exc e env' => exact fun p I2 H2 c d s o h => p I2 H2 σ c d s (Pin.refl P σ) o h
  | stuck => exact fun p => p
theorem PostS.lift {α : Type} {o : Option α} {g : α → SM} (p : PostS K κ W P I F σ Dn (((DL.lift o).bind g) env)) : ∃ a, o = some a ∧ PostS K κ W P I F σ Dn (g a env) := by
  cases o with
  | none => exact False.elim p
  | some a => exact ⟨a, rfl, p⟩
theorem PostS.nx (p : PostS K κ W P I F σ Dn (.ok .nx env)) (k : Ok K κ I' F H' σ' env []) (s : Step F I I') (pn : Pin P σ σ') : Dn.nx σ' H' := p I' H' σ' s pn k
end
/-! ### the mirrors of statements -/
def sNx : SM := EM.pure .nx
def sSeq (f g : SM) : SM := fun env => match f env with
  | .ok .nx env' => g env'
  | r => r
def sIf (c : EM Bool) (f g : SM) : SM := c.bind fun b => if b = true then f else g
def setSlot (i : Nat) (x : SV) : SM := fun env => if i < env.length then .ok .nx (env.set i (some x)) else .stuck
def sAsg (i : Nat) (f : EM SV) : SM := f.bind fun x => setSlot i x
def sRet (f : EM SV) : SM := f.bind fun x => EM.pure (.rt x)
def sRetN : SM := EM.pure (.rt (.dat .non))
def sDrop (f : EM D) : SM := f.bind fun _ => sNx
def sBrk : SM := EM.pure .bk
def sCnt : SM := EM.pure .ct
def sNever : SM := fun _ => .stuck
/-- targets -/
abbrev TM := D → Slots → Option Slots
def gN (i : Nat) : TM := fun d env => if i < env.length then some (env.set i (some (.dat d))) else none
def gTs : List TM → List D → Slots → Option Slots
  | [], [], env => some env
  | g :: gs, d :: ds, env => (g d env).bind (gTs gs ds)
  | _, _, _ => none
def gT (gs : List TM) : TM := fun d env => match d with
  | .tup ds => gTs gs ds env
  | _ => none
def sAsgT (g : TM) (f : EM D) : SM := f.bind fun d => fun env => match g d env with
  | some env' => .ok .nx env'
  | none => .stuck
def sAug (i : Nat) (op : D → D → Option D) (f : EM D) : SM := fun env => match env[i]? with
  | some (some (.dat d)) => (f.bind fun e => (lift (op d e)).bind fun z => setSlot i (.dat z)) env
  | _ => .stuck
section
variable {X : Cx} {κ : Nat → Addr} {W : WX} {P : List Nat} {e a b : PySem.Expr} {pos : Pos} {st : PySem.Stmt} {rest : List PySem.Stmt}
theorem dss_nil : PSs X [] (tsD X.K κ W P sNx) := pss_imp pss_nil fun Dn σ H h => by
  obtain ⟨I, F, env, k, p⟩ := h
  exact p.nx k (Step.refl F I) (Pin.refl P σ)
theorem dss_cons {f g : SM} (h1 : PS X st (tsD X.K κ W P f)) (h2 : PSs X rest (tsD X.K κ W P g)) : PSs X (st :: rest) (tsD X.K κ W P (sSeq f g)) := pss_imp (pss_cons h1 h2) fun Dn σ H h => by
  obtain ⟨I, F, env, k, p⟩ := h
  refine ⟨I, F, env, k, ?_⟩
  unfold sSeq at p
  revert p
  cases f env with
  | ok fl env' =>
    cases fl with
    | nx => exact fun p I2 H2 σ2 s p2 k2 => ⟨I2, F, env', k2, p.step s p2⟩
    | bk => exact fun p => p
    | ct => exact fun p => p
    | rt v => exact fun p => p
  | exc e env' => exact fun p => p
  | stuck => exact fun p => p
theorem dss_one {f : SM} (h1 : PS X st (tsD X.K κ W P f)) : PSs X [st] (tsD X.K κ W P f) := pss_imp (pss_one h1) fun _ _ _ h => h
theorem d_pass : PS X (.Pass pos) (tsD X.K κ W P sNx) := ps_imp ps_pass fun Dn σ H h => by
  obtain ⟨I, F, env, k, p⟩ := h
  exact p.nx k (Step.refl F I) (Pin.refl P σ)
theorem d_brk : PS X (.Break pos) (tsD X.K κ W P sBrk) := ps_imp ps_break fun Dn σ H h => by
  obtain ⟨I, F, env, k, p⟩ := h
  exact p I H σ (Step.refl F I) (Pin.refl P σ) k
theorem d_never : PS X st (tsD X.K κ W P sNever) := ps_imp ps_never fun Dn σ H h => by
  obtain ⟨I, F, env, k, p⟩ := h
  exact p
theorem dss_never {sts : List PySem.Stmt} : PSs X sts (tsD X.K κ W P sNever) := pss_imp pss_never fun Dn σ H h => by
  obtain ⟨I, F, env, k, p⟩ := h
  exact p
theorem d_if {c : PySem.Expr} {x y : List PySem.Stmt} {t : EM Bool} {f g : SM} (hc : PT X c (ttD X.K κ W t)) (ha : PSs X x (tsD X.K κ W P f)) (hb : PSs X y (tsD X.K κ W P g)) : PS X (.If c x y pos) (tsD X.K κ W P (sIf t f g)) :=
  ps_imp (ps_if hc ha hb) fun Dn σ H h => by
    obtain ⟨I, F, env, k, p⟩ := h
    refine ⟨I, F, env, k, Post.mono (p.ex (R := RB)) ?_⟩
    rintro c H1 ⟨I1, env1, c', nfp, s1, k1, ⟨rfl, rfl⟩, p1⟩
    cases c with
    | true => exact ⟨I1, F, env1, k1, p1⟩
    | false => exact ⟨I1, F, env1, k1, p1⟩
theorem d_ret {f : EM SV} (he : PE X e (teS X.K κ W f)) : PS X (.Return (some e) pos) (tsD X.K κ W P (sRet f)) := ps_imp (ps_ret he) fun Dn σ H h => by
  obtain ⟨I, F, env, k, p⟩ := h
  refine ⟨I, F, env, k, Post.mono (p.ex (R := RS X.K κ)) ?_⟩
  rintro v H1 ⟨I1, env1, sv, nfp, s1, k1, r1, p1⟩
  exact p1 I1 H1 σ (Step.refl F I1) (Pin.refl P σ) v nfp k1 r1
theorem d_retN : PS X (.Return none pos) (tsD X.K κ W P sRetN) := ps_imp ps_retN fun Dn σ H h => by
  obtain ⟨I, F, env, k, p⟩ := h
  exact p I H σ (Step.refl F I) (Pin.refl P σ) .non [] k (.dat .non)
theorem d_drop {f : EM D} (he : PE X e (teD X.K κ W f)) (hs : swapsWith e none pos.line X.env = pure false := by rfl) : PS X (.Expr e pos) (tsD X.K κ W P (sDrop f)) := ps_imp (ps_expr he hs) fun Dn σ H h => by
  obtain ⟨I, F, env, k, p⟩ := h
  refine ⟨I, F, env, k, Post.mono (p.ex (R := RD X.K κ)) ?_⟩
  rintro v H1 ⟨I1, env1, sv, nfp, s1, k1, ⟨r1, rfl⟩, p1⟩
  exact p1.nx k1 (Step.refl F I1) (Pin.refl P σ)
/-- x = e -/
theorem d_asg {i : Nat} {x : Str} {f : EM SV} {pos' : Pos} (hN : X.N.Nodup) (he : PE X e (teS X.K κ W f)) (hP : i ∉ P := by decide) (hi : X.N[i]? = some x := by rfl) (hx : Loc X.env.scope x := by first | exact Or.inl rfl | exact Or.inr rfl) (hs : swapsWith e (some (.Name x pos')) pos.line X.env = pure false := by rfl) (hf : X.fn x = true ∨ X.env.scope.names.lookup x = some .local := by first | exact .inl rfl | exact .inr rfl | assumption) :
    PS X (.Assign [.Name x pos'] e pos) (tsD X.K κ W P (sAsg i f)) := ps_imp (ps_set hN hi hx he hs hf) fun Dn σ H h => by
  obtain ⟨I, F, env, k, p⟩ := h
  refine ⟨I, F, env, k, Post.mono (p.ex (R := RS X.K κ)) ?_⟩
  rintro v H1 ⟨I1, env1, sv, nfp, s1, k1, r1, p1⟩
  unfold setSlot at p1
  split at p1
  · rename_i hl
    have k2 := Ok.store (i := i) (nfp := []) (by rw [List.append_nil]; exact k1) hl r1
    exact p1.nx k2 (Step.refl F I1) (Pin.set hP)
  · exact p1.elim
/-! ### targets -/
def TGok (K : PySem.W.Frag) (κ : Nat → Addr) (P : List Nat) (t : TG) (g : TM) : Prop := ∀ (I F H : Hp) (σ : L2.St) (env env' : Slots) (v : V) (d : D) (Q : L2.St → Hp → Prop) (nfp : List Addr), Ok K κ I F H σ env nfp → Rp K κ I v d → g d env = some env' →
    (∀ σ', Pin P σ σ' → Ok K κ I F H σ' env' nfp → Q σ' H) → t v σ H Q
structure PGd (X : Cx) (κ : Nat → Addr) (P : List Nat) (tg : PySem.Expr) (t : TG) (g : TM) : Prop where
  pg : PG X tg t
  ok : TGok X.K κ P t g
structure PGds (X : Cx) (κ : Nat → Addr) (P : List Nat) (tg : List PySem.Expr) (t : TGs) (g : List TM) : Prop where
  pg : PGs X tg t
  ok : ∀ (I F H : Hp) (σ : L2.St) (env env' : Slots) (v : List V) (d : List D) (Q : L2.St → Hp → Prop) (nfp : List Addr), Ok X.K κ I F H σ env nfp → RpA X.K κ I v d → gTs g d env = some env' →
    (∀ σ', Pin P σ σ' → Ok X.K κ I F H σ' env' nfp → Q σ' H) → t v σ H Q
theorem dg_name {i : Nat} {x : Str} (hN : X.N.Nodup) (hP : i ∉ P := by decide) (hi : X.N[i]? = some x := by rfl) (hx : Loc X.env.scope x := by first | exact Or.inl rfl | exact Or.inr rfl) (hf : X.fn x = true ∨ X.env.scope.names.lookup x = some .local := by first | exact .inl rfl | exact .inr rfl | assumption) : PGd X κ P (.Name x pos) (gName i) (gN i) :=
  ⟨pg_name hN hi hx hf, fun I F H σ env env' v d Q nfp k r e q => by
    unfold gN at e
    split at e
    · rename_i hl
      cases e
      exact q _ (Pin.set hP) (Ok.store (f1 := []) k hl (.dat r))
    · cases e⟩
theorem dgs_nil : PGds X κ P [] gNil [] := ⟨pgs_nil, fun I F H σ env env' v d Q nfp k r e q => by
  cases r with
  | nil => simp only [gTs] at e; cases e; exact ⟨rfl, q σ (Pin.refl P σ) k⟩
  | cons _ _ => simp only [gTs] at e; cases e⟩
theorem dgs_cons {es : List PySem.Expr} {t : TG} {ts : TGs} {g : TM} {gs : List TM} (h1 : PGd X κ P e t g) (h2 : PGds X κ P es ts gs) (hs : (assignEach (e :: es) X.env).map (·.2) = assign e X.env :: (assignEach es X.env).map (·.2) := by rfl) : PGds X κ P (e :: es) (gCons t ts) (g :: gs) := by
  refine ⟨pgs_cons h1.pg h2.pg hs, fun I F H σ env env' v d Q nfp k r e q => ?_⟩
  cases r with
  | nil => simp only [gTs] at e; cases e
  | cons r rs =>
    simp only [gTs] at e
    rename_i d0 ds
    cases hg : g d0 env with
    | none => rw [hg] at e; cases e
    | some env1 =>
      rw [hg] at e
      refine ⟨_, _, rfl, h1.ok I F H σ env env1 _ _ _ nfp k r hg fun σ1 p1 k1 => ?_⟩
      exact h2.ok I F H σ1 env1 env' _ _ Q nfp k1 rs e fun σ2 p2 k2 => q σ2 (p1.trans p2) k2
theorem gTs_len {env' : Slots} : ∀ (gs : List TM) (ds : List D) (env : Slots), gTs gs ds env = some env' → ds.length = gs.length := by
  intro gs
  induction gs with
  | nil => intro ds env e; cases ds with
    | nil => rfl
    | cons _ _ => simp only [gTs] at e; cases e
  | cons g gs ih => intro ds env e; cases ds with
    | nil => simp only [gTs] at e; cases e
    | cons d ds =>
      simp only [gTs] at e
      cases hg : g d env with
      | none => rw [hg] at e; cases e
      | some env1 => rw [hg] at e; simp [ih ds env1 e]
theorem dg_tup {es : List PySem.Expr} {k : Nat} {n : Nat} {ts : TGs} {gs : List TM} (hc : X.calm = true) (h : PGds X κ P es ts gs) (hn2 : gs.length = n := by rfl) (hn : (assignEach es X.env).length = n := by rfl) (hst : (assignEach es X.env).findIdx? (·.1) = none := by rfl) : PGd X κ P (.Tuple es k pos) (gTup X.K n ts) (gT gs) := by
  refine ⟨pg_tup hc h.pg hn hst, fun I F H σ env env' v d Q nfp k r e q => ?_⟩
  cases r <;> simp only [gT] at e <;> try (cases e)
  rename_i a vs ds h1 r1
  exact ⟨_, _, rfl, SqT.of (k.ext _ _ h1), by rw [r1.length, gTs_len gs ds env e]; exact hn2, h.ok I F H σ env env' _ _ Q nfp k r1 e q⟩
/-- a, b = e -/
theorem d_asgT {tg : PySem.Expr} {f : EM D} {t : TG} {g : TM} (he : PE X e (teD X.K κ W f)) (hg : PGd X κ P tg t g) (hs : swapsWithSole [tg] e pos.line X.env = pure false := by rfl) (hw : swappedStores [tg] e X.env = pure none := by rfl)
    (h1 : (assignEach [tg] X.env).map (·.2) = [assign tg X.env] := by rfl) : PS X (.Assign [tg] e pos) (tsD X.K κ W P (sAsgT g f)) := by
  refine ps_imp (ps_asg he hg.pg hs hw h1) fun Dn σ H h => ?_
  obtain ⟨I, F, env, k, p⟩ := h
  refine ⟨I, F, env, k, Post.mono (p.ex (R := RD X.K κ)) ?_⟩
  rintro v H1 ⟨I1, env1, d, nfp, s1, k1, ⟨r1, rfl⟩, p1⟩
  cases hgd : g d env1 with
  | none => simp only [hgd] at p1; exact p1.elim
  | some env' =>
    simp only [hgd] at p1
    exact hg.ok I1 F H1 σ env1 env' v d _ [] k1 r1 hgd fun σ' pn k' => p1.nx k' (Step.refl F I1) pn
/-- a, b = x, y written -/
def sPar (i j : Nat) (g : EM (List D)) : SM := g.bind fun ds => fun env => match ds with
  | [x, y] => if i < env.length ∧ j < env.length then .ok .nx ((env.set i (some (.dat x))).set j (some (.dat y))) else .stuck
  | _ => .stuck
theorem d_par {i j : Nat} {x y : Str} {g : EM (List D)} {px py pt : Pos} {kt k2 pt2} (hc : X.calm = true) (hN : X.N.Nodup) (ha : PA X [a, b] (taD X.K κ W g)) (hP : i ∉ P := by decide) (hP2 : j ∉ P := by decide) (hi : X.N[i]? = some x := by rfl) (hj : X.N[j]? = some y := by rfl) (hij : i ≠ j := by decide)
    (hx : X.env.scope.names.lookup x = some .local := by rfl) (hy : X.env.scope.names.lookup y = some .local := by rfl)
    (hw : swappedStores [.Tuple [.Name x px, .Name y py] kt pt] (.Tuple [a, b] k2 pt2) X.env = pure (some [x, y]) := by rfl)
    (hs : swapsWithSole [.Tuple [.Name x px, .Name y py] kt pt] (.Tuple [a, b] k2 pt2) pos.line X.env = pure false := by rfl) :
    PS X (.Assign [.Tuple [.Name x px, .Name y py] kt pt] (.Tuple [a, b] k2 pt2) pos) (tsD X.K κ W P (sPar i j g)) := by
  refine ps_imp (ps_par hc hN hi hj hij hx hy ha hw hs) fun Dn σ H h => ?_
  obtain ⟨I, F, env, k, p⟩ := h
  refine ⟨I, F, env, k, Post.mono (p.ex (R := RA X.K κ)) ?_⟩
  rintro vs H1 ⟨I1, env1, ds, nfp, s1, k1, ⟨r1, rfl⟩, p1⟩
  split at p1
  · split at p1
    · rename_i hl
      obtain ⟨v, w, rfl, rv, rw'⟩ := r1.two
      have k2 := Ok.store (i := i) (f1 := []) k1 hl.1 (.dat rv)
      have k3 := Ok.store (i := j) (f1 := []) k2 (by rw [List.length_set]; exact hl.2) (.dat rw')
      exact ⟨v, w, rfl, p1.nx k3 (Step.refl F I1) ((Pin.set hP).trans (Pin.set hP2))⟩
    · exact p1.elim
  · exact p1.elim
/-- x op= e, x data -/
theorem d_aug {i : Nat} {x : Str} {op : PySem.Operator} {o : D → D → Option D} {f : EM D} {pos' : Pos} (hN : X.N.Nodup) (ho : OpD X κ (inplaceOp op) o) (he : PE X e (teD X.K κ W f)) (hP : i ∉ P := by decide) (hi : X.N[i]? = some x := by rfl) (hx : Loc X.env.scope x := by first | exact Or.inl rfl | exact Or.inr rfl) (hf : X.fn x = true ∨ X.env.scope.names.lookup x = some .local := by first | exact .inl rfl | exact .inr rfl | assumption) :
    PS X (.AugAssign (.Name x pos') op e pos) (tsD X.K κ W P (sAug i o f)) := by
  obtain ⟨r, h1, h2⟩ := ho
  have ho' : PIp X op r := fun pins s σ H x y v u Q I rx ry h => h1 pins s σ H x y v u Q I rx ry h
  refine ps_imp (ps_aug hN hi hx he ho' hf) fun Dn σ H h => ?_
  obtain ⟨I, F, env, k, p⟩ := h
  unfold sAug at p
  split at p
  · rename_i d q
    obtain ⟨v, f1, hv, h2'⟩ := k.at_ q
    cases h2' with
    | dat rv =>
    refine ⟨v, hv, I, F, env, k, Post.mono (p.ex (R := RD X.K κ)) ?_⟩
    rintro y H1 ⟨I1, env1, dy, nfp, s1, k1, ⟨ry, rfl⟩, p1⟩
    obtain ⟨z, ez, p2⟩ := p1.lift
    refine h2 σ I1 F H1 env1 v y d dy z _ k1 (rv.mono s1.ext) ry ez fun I' H' w s o rw' => ?_
    unfold setSlot at p2
    split at p2
    · rename_i hl
      have k2 := Ok.store (i := i) (f1 := []) o hl (.dat rw')
      exact p2.nx k2 s (Pin.set hP)
    · exact p2.elim
  · exact p.elim
end
end DL

/-! DL8: loops, comprehensions -/
namespace DL
open PySem L2
/-- an iterator goes through ds -/
structure WalkD (K : PySem.W.Frag) (κ : Nat → Addr) (I : Hp) (J : It) (ds : List D) : Prop where
  go : ∀ i H, i < ds.length → Same I H → J.go i H
  stop : ∀ H, Same I H → J.stop ds.length H
  yld : ∀ i H x H', i < ds.length → Same I H → J.yld i H x H' → ∃ d, ds[i]? = some d ∧ ∀ I1, Same I I1 → Same I1 H →
    (H' = H ∧ Rp K κ I1 x d) ∨ ∃ p o, H p = none ∧ H' = upd H p o ∧ ∀ I2, Same I1 I2 → I2 p = some o → Rp K κ I2 x d
theorem WalkD.mono {K : PySem.W.Frag} {κ : Nat → Addr} {I I' : Hp} {J : It} {ds : List D} (s : Same I I') (w : WalkD K κ I J ds) : WalkD K κ I' J ds :=
  ⟨fun i H h e => w.go i H h (s.trans e), fun H e => w.stop H (s.trans e), fun i H x H' h e y => by
    obtain ⟨d, h1, h2⟩ := w.yld i H x H' h (s.trans e) y
    exact ⟨d, h1, fun I1 s1 s2 => h2 I1 (s.trans s1) s2⟩⟩
def RI (K : PySem.W.Frag) (κ : Nat → Addr) : Hp → Hp → It → List D → List Addr → Prop := fun I _ J ds nfp => WalkD K κ I J ds ∧ nfp = []
abbrev tiD (K : PySem.W.Frag) (κ : Nat → Addr) (W : WX) (f : EM (List D)) : TI := tG K κ (RI K κ) W f
theorem pi_imp {X : Cx} {tg e : PySem.Expr} {t t' : TI} (h : PI X tg e t) (i : ∀ σ H Q, t' σ H Q → t σ H Q) : PI X tg e t' := ⟨fun pins s σ H Q I hw => h.run pins s σ H Q I (i σ H Q hw)⟩
theorem pi_or {X : Cx} {tg e : PySem.Expr} {t t' : TI} (h : PI X tg e t) (h' : PI X tg e t') : PI X tg e (fun σ H Q => t σ H Q ∨ t' σ H Q) := ⟨fun pins s σ H Q I hw => hw.elim (h.run pins s σ H Q I) (h'.run pins s σ H Q I)⟩
def itemsOf : D → Option (List D)
  | .lst ds => some ds
  | .tup ds => some ds
  | .scr ns => some (ns.map D.int)
  | _ => none
def iSeq (f : EM D) : EM (List D) := f.bind fun d => lift (itemsOf d)
def rangeD (a b : Int) : List D := (List.range (b - a).toNat).map fun i => .int (a + (i : Nat))
def smallI (i : Int) : Prop := -(2 ^ 62) ≤ i ∧ i < 2 ^ 62
noncomputable instance (i : Int) : Decidable (smallI i) := Classical.propDecidable _
noncomputable def iRange (g : EM (List D)) : EM (List D) := g.bind fun ds => match ds with
  | [.int j] => lift (if smallI j then some (rangeD 0 j) else none)
  | _ => fun _ => .stuck
noncomputable def iRange2 (g : EM (List D)) : EM (List D) := g.bind fun ds => match ds with
  | [.int i, .int j] => lift (if smallI i ∧ smallI j then some (rangeD i j) else none)
  | _ => fun _ => .stuck
def enumD (ds : List D) : List D := (List.range ds.length).map fun i => .tup [.int (i : Nat), ds.getD i .non]
def iEnumD (g : EM (List D)) : EM (List D) := g.bind fun ds => match ds with
  | [.lst xs] => EM.pure (enumD xs)
  | _ => fun _ => .stuck
def zipD (xs ys : List D) : List D := (xs.zip ys).map fun p => .tup [p.1, p.2]
def iZipD (g : EM (List D)) : EM (List D) := g.bind fun ds => match ds with
  | [.lst xs, .lst ys] => EM.pure (zipD xs ys)
  | [.tup xs, .tup ys] => EM.pure (zipD xs ys)
  | _ => fun _ => .stuck
def iRevD (g : EM (List D)) : EM (List D) := g.bind fun ds => match ds with
  | [.lst xs] => EM.pure xs.reverse
  | _ => fun _ => .stuck
section
variable {K : PySem.W.Frag} {κ : Nat → Addr} {I : Hp}
theorem walkD_list {a : Addr} {vs : List V} {ds : List D} (h : SqL K I a vs) (r : RpA K κ I vs ds) : WalkD K κ I (Itl K a) ds where
  go := fun i H hi s => by
    obtain ⟨v, hv, _⟩ := r.get (List.getElem?_eq_getElem hi)
    exact ⟨vs, v, same_sq s h, hv⟩
  stop := fun H s => ⟨vs, same_sq s h, by rw [r.length]; exact Nat.le_refl _⟩
  yld := fun i H x H' hi s y => by
    obtain ⟨d, h1, h2⟩ := r.getV (y.2 vs (same_sq s h))
    exact ⟨d, h1, fun I1 s1 s2 => .inl ⟨y.1, h2.mono s1⟩⟩
theorem same_sqT {I I' : Hp} {a : Addr} {xs : List V} (e : Same I I') (h : SqT K I a xs) : SqT K I' a xs := by
  rcases h with (h | ⟨o, h⟩) | h
  · exact .inl (.inl (e _ _ h))
  · exact .inl (.inr ⟨o, e _ _ h⟩)
  · exact .inr h
theorem walkD_tup {a : Addr} {vs : List V} {ds : List D} (h : SqT K I a vs) (r : RpA K κ I vs ds) : WalkD K κ I (Itt K a) ds where
  go := fun i H hi s => by
    obtain ⟨v, hv, _⟩ := r.get (List.getElem?_eq_getElem hi)
    exact ⟨vs, v, same_sqT s h, hv⟩
  stop := fun H s => ⟨vs, same_sqT s h, by rw [r.length]; exact Nat.le_refl _⟩
  yld := fun i H x H' hi s y => by
    obtain ⟨d, h1, h2⟩ := r.getV (y.2 vs (same_sqT s h))
    exact ⟨d, h1, fun I1 s1 s2 => .inl ⟨y.1, h2.mono s1⟩⟩
theorem rangeD_get {a b : Int} {i : Nat} (h : i < (b - a).toNat) : (rangeD a b)[i]? = some (.int (a + (i : Nat))) := by
  unfold rangeD
  rw [List.getElem?_map, List.getElem?_range h]; rfl
theorem walkD_range {a b : Int} : WalkD K κ I (Itr a (b - a).toNat) (rangeD a b) where
  go := fun i H hi s => by
    show i < (b - a).toNat
    simpa [rangeD] using hi
  stop := fun H s => by
    show (b - a).toNat ≤ (rangeD a b).length
    simp [rangeD]
  yld := fun i H x H' hi s y => by
    obtain ⟨rfl, rfl⟩ := y
    exact ⟨_, rangeD_get (by simpa [rangeD] using hi), fun I1 s1 s2 => .inl ⟨rfl, .int _⟩⟩
theorem enumD_get {ds : List D} {i : Nat} {d : D} (h : ds[i]? = some d) : (enumD ds)[i]? = some (.tup [.int (i : Nat), d]) := by
  have hi := (List.getElem?_eq_some_iff.mp h).1
  unfold enumD
  rw [List.getElem?_map, List.getElem?_range hi]
  simp [h]
theorem walkD_enum {a : Addr} {vs : List V} {ds : List D} (h : SqL K I a vs) (r : RpA K κ I vs ds) : WalkD K κ I (Ite K a) (enumD ds) where
  go := fun i H hi s => by
    have hi : i < ds.length := by simpa [enumD] using hi
    obtain ⟨v, hv, _⟩ := r.get (List.getElem?_eq_getElem hi)
    exact ⟨vs, v, same_sq s h, hv⟩
  stop := fun H s => ⟨vs, same_sq s h, by rw [r.length]; simp [enumD]⟩
  yld := fun i H x H' hi s y => by
    obtain ⟨T, x', rfl, hT, rfl, f⟩ := y
    obtain ⟨d, h1, h2⟩ := r.getV (f vs (same_sq s h))
    exact ⟨_, enumD_get h1, fun I1 s1 s2 => .inr ⟨T, _, hT, rfl, fun I2 s3 e => .tup e (.cons (.int _) (.cons ((h2.mono s1).mono s3) .nil))⟩⟩
theorem zipD_get {xs ys : List D} {i : Nat} {x y : D} (h : xs[i]? = some x) (h' : ys[i]? = some y) : (zipD xs ys)[i]? = some (.tup [x, y]) := by
  unfold zipD
  rw [List.getElem?_map, show (xs.zip ys)[i]? = some (x, y) from List.getElem?_zip_eq_some.mpr ⟨h, h'⟩]; rfl
theorem walkD_zip {a b : Addr} {vs us : List V} {ds es : List D} (h : SqL K I a vs) (h' : SqL K I b us) (r : RpA K κ I vs ds) (r' : RpA K κ I us es) : WalkD K κ I (Itz K a b) (zipD ds es) where
  go := fun i H hi s => by
    have hi : i < min ds.length es.length := by simpa [zipD] using hi
    obtain ⟨v, hv, _⟩ := r.get (List.getElem?_eq_getElem (by omega : i < ds.length))
    obtain ⟨u, hu, _⟩ := r'.get (List.getElem?_eq_getElem (by omega : i < es.length))
    exact ⟨vs, us, v, u, same_sq s h, same_sq s h', hv, hu⟩
  stop := fun H s => ⟨vs, us, same_sq s h, same_sq s h', by rw [r.length, r'.length]; simp [zipD]; omega⟩
  yld := fun i H x H' hi s y => by
    obtain ⟨T, x', y', rfl, hT, rfl, f, f'⟩ := y
    obtain ⟨d, h1, h2⟩ := r.getV (f vs (same_sq s h))
    obtain ⟨d', h1', h2'⟩ := r'.getV (f' us (same_sq s h'))
    exact ⟨_, zipD_get h1 h1', fun I1 s1 s2 => .inr ⟨T, _, hT, rfl, fun I2 s3 e => .tup e (.cons ((h2.mono s1).mono s3) (.cons ((h2'.mono s1).mono s3) .nil))⟩⟩
theorem walkD_zipT {a b : Addr} {vs us : List V} {ds es : List D} (h : SqT K I a vs) (h' : SqT K I b us) (r : RpA K κ I vs ds) (r' : RpA K κ I us es) : WalkD K κ I (RZ.ItzT K a b) (zipD ds es) where
  go := fun i H hi s => by
    have hi : i < min ds.length es.length := by simpa [zipD] using hi
    obtain ⟨v, hv, _⟩ := r.get (List.getElem?_eq_getElem (by omega : i < ds.length))
    obtain ⟨u, hu, _⟩ := r'.get (List.getElem?_eq_getElem (by omega : i < es.length))
    exact ⟨vs, us, v, u, same_sqT s h, same_sqT s h', hv, hu⟩
  stop := fun H s => ⟨vs, us, same_sqT s h, same_sqT s h', by rw [r.length, r'.length]; simp [zipD]; omega⟩
  yld := fun i H x H' hi s y => by
    obtain ⟨T, x', y', rfl, hT, rfl, f, f'⟩ := y
    obtain ⟨d, h1, h2⟩ := r.getV (f vs (same_sqT s h))
    obtain ⟨d', h1', h2'⟩ := r'.getV (f' us (same_sqT s h'))
    exact ⟨_, zipD_get h1 h1', fun I1 s1 s2 => .inr ⟨T, _, hT, rfl, fun I2 s3 e => .tup e (.cons ((h2.mono s1).mono s3) (.cons ((h2'.mono s1).mono s3) .nil))⟩⟩
theorem walkD_rev {a : Addr} {vs : List V} {ds : List D} (h : SqL K I a vs) (r : RpA K κ I vs ds) : WalkD K κ I (Itv K a vs.length) ds.reverse where
  go := fun i H hi s => by
    have hi : i < ds.length := by simpa using hi
    have hl := r.length
    obtain ⟨v, hv, _⟩ := r.get (List.getElem?_eq_getElem (show ds.length - 1 - i < ds.length by omega))
    exact ⟨by omega, vs, v, same_sq s h, by rw [hl]; exact hv⟩
  stop := fun H s => by
    show vs.length ≤ _
    rw [r.length]; simp
  yld := fun i H x H' hi s y => by
    have hi : i < ds.length := by simpa using hi
    obtain ⟨d, h1, h2⟩ := r.getV (y.2 vs (same_sq s h))
    rw [r.length] at h1
    exact ⟨d, by rw [List.getElem?_reverse hi]; exact h1, fun I1 s1 s2 => .inl ⟨y.1, h2.mono s1⟩⟩
end
section
variable {X : Cx} {κ : Nat → Addr} {W : WX} {P : List Nat} {tg e a b : PySem.Expr} {pos : Pos}
theorem di_seq {f : EM D} (he : PE X e (teD X.K κ W f)) : PI X tg e (tiD X.K κ W (iSeq f)) := by
  refine pi_imp (pi_or (pi_list he) (pi_tup he)) fun σ H R h => ?_
  obtain ⟨I, F, env, k, p⟩ := h
  cases hf : f env with
  | ok d0 env0 =>
    cases d0 with
    | tup ds =>
      refine .inr ⟨I, F, env, k, Post.mono (p.bindE (R := RD X.K κ)) ?_⟩
      rintro x H1 ⟨I1, env1, d, nfp, s1, k1, ⟨rx, rfl⟩, e1, p1⟩
      rw [hf] at e1
      cases e1
      obtain ⟨d', e', p2⟩ := p1.lift1
      cases rx with
      | tup h r =>
        cases e'
        exact ⟨_, rfl, ⟨_, SqT.of (k1.ext _ _ h)⟩, p2 I1 H1 _ [] (Step.refl F I1) k1 ⟨walkD_tup (SqT.of h) r, rfl⟩⟩
    | lst ds =>
      refine .inl ⟨I, F, env, k, Post.mono (p.bindE (R := RD X.K κ)) ?_⟩
      rintro x H1 ⟨I1, env1, d, nfp, s1, k1, ⟨rx, rfl⟩, e1, p1⟩
      rw [hf] at e1
      cases e1
      obtain ⟨d', e', p2⟩ := p1.lift1
      cases rx with
      | lst h r =>
        cases e'
        exact ⟨_, rfl, ⟨_, SqL.of (k1.ext _ _ h)⟩, p2 I1 H1 _ [] (Step.refl F I1) k1 ⟨walkD_list (SqL.of h) r, rfl⟩⟩
    | scr ds =>
      refine .inl ⟨I, F, env, k, Post.mono (p.bindE (R := RD X.K κ)) ?_⟩
      rintro x H1 ⟨I1, env1, d, nfp, s1, k1, ⟨rx, rfl⟩, e1, p1⟩
      rw [hf] at e1
      cases e1
      obtain ⟨d', e', p2⟩ := p1.lift1
      cases rx with
      | scr h =>
        cases e'
        exact ⟨_, rfl, ⟨_, same_sq k1.ext h⟩, p2 I1 H1 _ [] (Step.refl F I1) k1 ⟨walkD_list h RpA.ints, rfl⟩⟩
    | non => unfold iSeq EM.bind at p; rw [hf] at p; exact p.elim
    | bl _ => unfold iSeq EM.bind at p; rw [hf] at p; exact p.elim
    | int _ => unfold iSeq EM.bind at p; rw [hf] at p; exact p.elim
    | str _ => unfold iSeq EM.bind at p; rw [hf] at p; exact p.elim
    | any => unfold iSeq EM.bind at p; rw [hf] at p; exact p.elim
    | dct _ => unfold iSeq EM.bind at p; rw [hf] at p; exact p.elim
    | obj _ _ => unfold iSeq EM.bind at p; rw [hf] at p; exact p.elim
    | exc _ _ => unfold iSeq EM.bind at p; rw [hf] at p; exact p.elim
  | exc ex env0 =>
    refine .inl ⟨I, F, env, k, ?_⟩
    unfold iSeq EM.bind at p
    rw [hf] at p ⊢
    exact p
  | stuck => unfold iSeq EM.bind at p; rw [hf] at p; exact p.elim
theorem di_range1 {g : EM (List D)} {p : Pos} (hm : X.mg "range" = none) (ha : PA X [a] (taD X.K κ W g)) (hg : Gl X "range" := by rfl) (hs : starEach [a] X.env = [(false, eval a X.env)] := by rfl) : PI X tg (.Call (.Name "range" p) [a] [] pos) (tiD X.K κ W (iRange g)) := by
  refine pi_imp (pi_range1 hg hm ha hs) fun σ H R h => ?_
  obtain ⟨I, F, env, k, p⟩ := h
  refine ⟨I, F, env, k, Post.mono (p.bind (R := RA X.K κ)) ?_⟩
  rintro xs H1 ⟨I1, env1, ds, nfp, s1, k1, ⟨rx, rfl⟩, p1⟩
  split at p1
  · obtain ⟨d', e', p2⟩ := p1.lift1
    split at e'
    · rename_i hz
      cases e'
      obtain ⟨v, rfl, r⟩ := rx.one
      cases r
      refine ⟨_, rfl, hz.1, hz.2, p2 I1 H1 _ [] (Step.refl F I1) k1 ⟨?_, rfl⟩⟩
      rename_i j
      have := walkD_range (K := X.K) (κ := κ) (I := I1) (a := 0) (b := j)
      simpa using this
    · cases e'
  · exact p1.elim
theorem di_range2 {g : EM (List D)} {p : Pos} (hm : X.mg "range" = none) (ha : PA X [a, b] (taD X.K κ W g)) (hg : Gl X "range" := by rfl) (hs : starEach [a, b] X.env = [(false, eval a X.env), (false, eval b X.env)] := by rfl) (hs2 : starEach [b] X.env = [(false, eval b X.env)] := by rfl) : PI X tg (.Call (.Name "range" p) [a, b] [] pos) (tiD X.K κ W (iRange2 g)) := by
  refine pi_imp (pi_range2 hg hm ha hs hs2) fun σ H R h => ?_
  obtain ⟨I, F, env, k, p⟩ := h
  refine ⟨I, F, env, k, Post.mono (p.bind (R := RA X.K κ)) ?_⟩
  rintro xs H1 ⟨I1, env1, ds, nfp, s1, k1, ⟨rx, rfl⟩, p1⟩
  split at p1
  · obtain ⟨d', e', p2⟩ := p1.lift1
    split at e'
    · rename_i hz
      cases e'
      obtain ⟨v, v', rfl, r, r'⟩ := rx.two
      cases r; cases r'
      exact ⟨_, _, rfl, ⟨hz.1.1, hz.1.2, hz.2.1, hz.2.2⟩, p2 I1 H1 _ [] (Step.refl F I1) k1 ⟨walkD_range, rfl⟩⟩
    · cases e'
  · exact p1.elim
theorem di_enum {g : EM (List D)} {p tpos : Pos} {elts : List PySem.Expr} {kk : Nat} (hm : X.mg "enumerate" = none) (ha : PA X [e] (taD X.K κ W g)) (hg : Gl X "enumerate" := by rfl) (hs : starEach [e] X.env = [(false, eval e X.env)] := by rfl) : PI X (.Tuple elts kk tpos) (.Call (.Name "enumerate" p) [e] [] pos) (tiD X.K κ W (iEnumD g)) := by
  refine pi_imp (pi_enum hg hm ha hs) fun σ H R h => ?_
  obtain ⟨I, F, env, k, p⟩ := h
  refine ⟨I, F, env, k, Post.mono (p.bind (R := RA X.K κ)) ?_⟩
  rintro xs H1 ⟨I1, env1, ds, nfp, s1, k1, ⟨rx, rfl⟩, p1⟩
  split at p1
  · obtain ⟨v, rfl, r⟩ := rx.one
    cases r with
    | lst h r => exact ⟨_, _, rfl, SqL.of (k1.ext _ _ h), p1 I1 H1 _ [] (Step.refl F I1) k1 ⟨walkD_enum (SqL.of h) r, rfl⟩⟩
  · exact p1.elim
theorem di_rev {g : EM (List D)} {p : Pos} (hm : X.mg "reversed" = none) (ha : PA X [e] (taD X.K κ W g)) (hg : Gl X "reversed" := by rfl) (hs : starEach [e] X.env = [(false, eval e X.env)] := by rfl) : PI X tg (.Call (.Name "reversed" p) [e] [] pos) (tiD X.K κ W (iRevD g)) := by
  refine pi_imp (pi_reversed hg hm ha hs) fun σ H R h => ?_
  obtain ⟨I, F, env, k, p⟩ := h
  refine ⟨I, F, env, k, Post.mono (p.bind (R := RA X.K κ)) ?_⟩
  rintro xs H1 ⟨I1, env1, ds, nfp, s1, k1, ⟨rx, rfl⟩, p1⟩
  split at p1
  · obtain ⟨v, rfl, r⟩ := rx.one
    cases r with
    | lst h r => exact ⟨_, _, rfl, SqL.of (k1.ext _ _ h), p1 I1 H1 _ [] (Step.refl F I1) k1 ⟨walkD_rev (SqL.of h) r, rfl⟩⟩
  · exact p1.elim
theorem di_zip {g : EM (List D)} {p tpos : Pos} {elts : List PySem.Expr} {kk : Nat} (hm : X.mg "zip" = none) (ha : PA X [a, b] (taD X.K κ W g)) (hg : Gl X "zip" := by rfl) (hs : starEach [a, b] X.env = (false, eval a X.env) :: starEach [b] X.env := by rfl) (hpl : (backTo pos (starEach [b] X.env)).any (·.1) = false := by rfl) : PI X (.Tuple elts kk tpos) (.Call (.Name "zip" p) [a, b] [] pos) (tiD X.K κ W (iZipD g)) := by
  refine pi_imp (RZ.pi_zipA hg hm ha hs hpl) fun σ H R h => ?_
  obtain ⟨I, F, env, k, p⟩ := h
  refine ⟨I, F, env, k, Post.mono (p.bind (R := RA X.K κ)) ?_⟩
  rintro xs H1 ⟨I1, env1, ds, nfp, s1, k1, ⟨rx, rfl⟩, p1⟩
  split at p1
  · obtain ⟨v, v', rfl, r, r'⟩ := rx.two
    cases r with
    | lst h r => cases r' with
      | lst h' r' => exact ⟨_, _, _, _, rfl, .inl ⟨SqL.of (k1.ext _ _ h), SqL.of (k1.ext _ _ h'), p1 I1 H1 _ [] (Step.refl F I1) k1 ⟨walkD_zip (SqL.of h) (SqL.of h') r r', rfl⟩⟩⟩
  · obtain ⟨v, v', rfl, r, r'⟩ := rx.two
    cases r with
    | tup h r => cases r' with
      | tup h' r' => exact ⟨_, _, _, _, rfl, .inr ⟨SqT.of (k1.ext _ _ h), SqT.of (k1.ext _ _ h'), p1 I1 H1 _ [] (Step.refl F I1) k1 ⟨walkD_zipT (SqT.of h) (SqT.of h') r r', rfl⟩⟩⟩
  · exact p1.elim
end
/-! ### for, while -/
def loopD (g : TM) (body : SM) : List D → SM
  | [], env => .ok .nx env
  | d :: ds, env => match g d env with
    | none => .stuck
    | some env1 => match body env1 with
      | .ok .nx e => loopD g body ds e
      | .ok .ct e => loopD g body ds e
      | .ok .bk e => .ok .nx e
      | r => r
def sFor (it : EM (List D)) (g : TM) (body : SM) : SM := it.bind fun ds => loopD g body ds
def whileD (c : EM Bool) (body : SM) : Nat → SM
  | 0 => fun _ => .stuck
  | n + 1 => c.bind fun b => if b = true then (fun env => match body env with
      | .ok .nx e => whileD c body n e
      | .ok .ct e => whileD c body n e
      | .ok .bk e => .ok .nx e
      | r => r) else sNx
section
variable {X : Cx} {κ : Nat → Addr} {W : WX} {P : List Nat} {tg e a b : PySem.Expr} {pos : Pos} {body : List PySem.Stmt}
/-- one item comes -/
theorem WalkD.item {K : PySem.W.Frag} {I F H H' : Hp} {σ : L2.St} {env : Slots} {nfp : List Addr} {J : It} {ds : List D} {i : Nat} {x : V} (w : WalkD K κ I J ds) (k : Ok K κ I F H σ env nfp) (hi : i < ds.length) (y : J.yld i H x H') :
    ∃ I2 d, ds[i]? = some d ∧ Step F I I2 ∧ Ok K κ I2 F H' σ env nfp ∧ Rp K κ I2 x d := by
  obtain ⟨d, h1, h2⟩ := w.yld i H x H' hi k.ext y
  rcases h2 I (Same.refl I) k.ext with ⟨rfl, r⟩ | ⟨p, o, hp, rfl, r⟩
  · exact ⟨I, d, h1, Step.refl F I, k, r⟩
  · obtain ⟨k1, s1, e1⟩ := k.newI (o := o) hp
    exact ⟨_, d, h1, s1, k1, r _ s1.ext e1⟩
theorem d_for {it : EM (List D)} {t : TG} {g : TM} {f : SM} {iter : PySem.Expr} (hp : PassesOwn (model X.prog X.w) X.A X.env X.xe) (hc : X.calm = true) (hi : PI X tg iter (tiD X.K κ W it)) (hg : PGd X κ P tg t g) (hb : PSs X body (tsD X.K κ W P f))
    (hs : ∀ x, foldedSetIterable iter X.env x = pure x := by intro _; rfl) : PS X (.For tg iter body [] pos) (tsD X.K κ W P (sFor it g f)) := by
  refine ps_imp (ps_for hp hc hi hg.pg hb hs) fun Dn σ H h => ?_
  obtain ⟨I, F, env, k, p⟩ := h
  refine ⟨I, F, env, k, Post.mono (p.ex (R := RI X.K κ)) ?_⟩
  rintro J H1 ⟨I1, env1, ds, nfp, s1, k1, ⟨w, rfl⟩, p1⟩
  refine ⟨fun i m σ' H' => m = ds.length - i ∧ i ≤ ds.length ∧ ∃ I2 env2, Step F I1 I2 ∧ Pin P σ σ' ∧ Ok X.K κ I2 F H' σ' env2 [] ∧ PostS X.K κ W P I2 F σ' Dn (loopD g f (ds.drop i) env2),
    ⟨_, rfl, Nat.zero_le _, I1, env1, Step.refl F I1, Pin.refl P σ, k1, by rw [List.drop_zero]; exact p1⟩, ?_⟩
  rintro i m σ2 H2 ⟨rfl, hi2, I2, env2, s2, pn2, k2, p2⟩
  by_cases hlt : i < ds.length
  · refine .inr ⟨w.go i H2 hlt (s2.ext.trans k2.ext), fun σ' H' => ∃ I3 env3, Step F I1 I3 ∧ Pin P σ σ' ∧ Ok X.K κ I3 F H' σ' env3 [] ∧ PostS X.K κ W P I3 F σ' Dn (loopD g f (ds.drop (i + 1)) env3),
      fun σ' H' h => ⟨_, by omega, rfl, hlt, h⟩, fun x H3 y => ?_⟩
    obtain ⟨I3, d, hd, s3, k3, r3⟩ := WalkD.item (WalkD.mono s2.ext w) k2 hlt y
    have hdrop : ds.drop i = d :: ds.drop (i + 1) := by
      rw [List.drop_eq_getElem_cons hlt]
      rw [List.getElem?_eq_getElem hlt] at hd
      cases hd; rfl
    rw [hdrop] at p2
    unfold loopD at p2
    cases hgd : g d env2 with
    | none => rw [hgd] at p2; exact p2.elim
    | some env3 =>
      rw [hgd] at p2
      refine hg.ok I3 F H3 σ2 env2 env3 x d _ [] k3 r3 hgd fun σ3 pn3 k4 => ?_
      refine ⟨I3, F, env3, k4, ?_⟩
      simp only at p2
      revert p2
      cases f env3 with
      | ok fl env4 =>
        cases fl with
        | nx => exact fun p2 I5 H5 σ5 s5 pn5 k5 => ⟨I5, env4, (s2.trans s3).trans s5, (pn2.trans pn3).trans pn5, k5, p2.step (s3.trans s5) (pn3.trans pn5)⟩
        | ct => exact fun p2 I5 H5 σ5 s5 pn5 k5 => ⟨I5, env4, (s2.trans s3).trans s5, (pn2.trans pn3).trans pn5, k5, p2.step (s3.trans s5) (pn3.trans pn5)⟩
        | bk => exact fun p2 I5 H5 σ5 s5 pn5 k5 => p2 I5 H5 σ5 (s3.trans s5) (pn3.trans pn5) k5
        | rt v => exact fun p2 I5 H5 σ5 s5 pn5 => p2 I5 H5 σ5 (s3.trans s5) (pn3.trans pn5)
      | exc e env4 => exact fun p2 I5 H5 σ5 c d s5 pn5 => p2 I5 H5 σ5 c d (s3.trans s5) (pn3.trans pn5)
      | stuck => exact fun p2 => p2
  · have e : i = ds.length := by omega
    subst e
    rw [List.drop_length] at p2
    exact .inl ⟨w.stop H2 (s2.ext.trans k2.ext), p2.nx k2 (Step.refl F I2) (Pin.refl P σ2)⟩
theorem d_while {c : PySem.Expr} {t : EM Bool} {f : SM} (n : Nat) (hp : PassesOwn (model X.prog X.w) X.A X.env X.xe) (hc : PT X c (ttD X.K κ W t)) (hb : PSs X body (tsD X.K κ W P f)) : PS X (.While c body [] pos) (tsD X.K κ W P (whileD t f n)) := by
  refine ps_imp (ps_while hp hc hb) fun Dn σ H h => ?_
  obtain ⟨I, F, env, k, p⟩ := h
  refine ⟨fun m σ' H' => ∃ I2 env2, Step F I I2 ∧ Pin P σ σ' ∧ Ok X.K κ I2 F H' σ' env2 [] ∧ PostS X.K κ W P I2 F σ' Dn (whileD t f m env2), ⟨n, I, env, Step.refl F I, Pin.refl P σ, k, p⟩, ?_⟩
  rintro m σ2 H2 ⟨I2, env2, s2, pn2, k2, p2⟩
  cases m with
  | zero => exact p2.elim
  | succ m =>
    refine ⟨I2, F, env2, k2, Post.mono (PostS.ex (R := RB) p2) ?_⟩
    rintro b H3 ⟨I3, env3, b', nfp, s3, k3, ⟨rfl, rfl⟩, p3⟩
    cases b with
    | true =>
      refine ⟨fun σ' H' => ∃ I4 env4, Step F I I4 ∧ Pin P σ σ' ∧ Ok X.K κ I4 F H' σ' env4 [] ∧ PostS X.K κ W P I4 F σ' Dn (whileD t f m env4), fun σ' H' h => ⟨m, Nat.lt_succ_self m, h⟩, I3, F, env3, k3, ?_⟩
      simp only [if_true] at p3
      revert p3
      cases f env3 with
      | ok fl env4 =>
        cases fl with
        | nx => exact fun p2 I5 H5 σ5 s5 pn5 k5 => ⟨I5, env4, (s2.trans s3).trans s5, pn2.trans pn5, k5, p2.step s5 pn5⟩
        | ct => exact fun p2 I5 H5 σ5 s5 pn5 k5 => ⟨I5, env4, (s2.trans s3).trans s5, pn2.trans pn5, k5, p2.step s5 pn5⟩
        | bk => exact fun p2 I5 H5 σ5 s5 pn5 k5 => p2 I5 H5 σ5 s5 pn5 k5
        | rt v => exact fun p2 I5 H5 σ5 s5 pn5 => p2 I5 H5 σ5 s5 pn5
      | exc e env4 => exact fun p2 I5 H5 σ5 c d s5 pn5 => p2 I5 H5 σ5 c d s5 pn5
      | stuck => exact fun p2 => p2
    | false => exact PostS.nx p3 k3 (Step.refl F I3) (Pin.refl P σ2)
end
/-! ### comprehensions -/
def wipeE (env : Slots) : List Nat → Slots
  | [] => env
  | v :: vs => (wipeE env vs).set v none
/-- a name's own slot as it was, where it was data -/
def backE (old env : Slots) : List Nat → Slots
  | [] => env
  | v :: vs => match old[v]? with
    | some (some (.dat d)) => (backE old env vs).set v (some (.dat d))
    | _ => backE old env vs
/-- no slot of these is owned -/
def noOwn (env : Slots) (vs : List Nat) : Bool := vs.all fun v => match env[v]? with
  | some (some (.own _)) => false
  | _ => true
def lcLoop (vs : List Nat) (g : TM) (t : EM Bool) (f : EM D) : List D → List D → EM (List D)
  | [], acc, env => .ok acc env
  | d :: ds, acc, env => match g d (wipeE env vs) with
    | none => .stuck
    | some env1 => match t env1 with
      | .ok true env2 => match f env2 with
        | .ok y env3 => if acc.length < sizeLine then lcLoop vs g t f ds (acc ++ [y]) env3 else .stuck
        | _ => .stuck
      | .ok false env2 => lcLoop vs g t f ds acc env2
      | _ => .stuck
def eLc (vs : List Nat) (it : EM (List D)) (g : TM) (t : EM Bool) (f : EM D) : EM (List D) := it.bind fun ds => fun env => match lcLoop vs g t f ds [] env with
  | .ok acc env' => if noOwn env vs then .ok acc (backE env (wipeE env' vs) vs) else .stuck
  | _ => .stuck
def bYes : EM Bool := EM.pure true
def lcF (f : EM (List D)) : EM D := f.bind fun ds => EM.pure (.lst ds)
def lcO (f : EM (List D)) : EM SV := f.bind fun ds => EM.pure (.own (.lf (.lst ds)))
end DL

/-! DL9: comprehensions, kept sound -/
namespace DL
open PySem L2
theorem EM.assoc {α β γ : Type} (f : EM α) (g : α → EM β) (h : β → EM γ) : (f.bind g).bind h = f.bind fun a => (g a).bind h := by
  funext env
  unfold EM.bind
  cases f env <;> rfl
section
variable {K : PySem.W.Frag} {κ : Nat → Addr} {I I' F H H' : Hp} {σ σ' : L2.St} {env : Slots} {nfp : List Addr}
theorem EnvR.swap : ∀ {σ : List (Option V)} {env : Slots} {fp : List Addr} {σ' : List (Option V)}, EnvR K κ I H σ env fp → σ'.length = σ.length → (∀ (i : Nat) (y : SV), env[i]? = some (some y) → σ'[i]? = σ[i]?) → EnvR K κ I H σ' env fp
  | _, _, _, [], .nil, _, _ => .nil
  | _, _, _, x :: σ', .nil, h, _ => by simp at h
  | _, _, _, [], .no r, h, _ => by simp at h
  | _, _, _, [], .so _ r, h, _ => by simp at h
  | _, _, _, x :: σ', .no r, h, e => .no (r.swap (by simpa using h) fun i y q => by simpa using e (i + 1) y (by simpa using q))
  | _, _, _, x :: σ', .so g r, h, e => by
    have := e 0 _ rfl
    simp at this
    subst this
    exact .so g (r.swap (by simpa using h) fun i y q => by simpa using e (i + 1) y (by simpa using q))
theorem Ok.swap (k : Ok K κ I F H σ env nfp) (h : σ'.length = σ.length) (e : ∀ (i : Nat) (y : SV), env[i]? = some (some y) → σ'[i]? = σ[i]?) : Ok K κ I F H σ' env nfp := by
  obtain ⟨fp, r, rr⟩ := k.ex
  exact ⟨fp, r.swap h e, rr⟩
theorem set_none_get {α : Type} (l : List (Option α)) (i j : Nat) (y : α) (h : (l.set i none)[j]? = some (some y)) : i ≠ j ∧ l[j]? = some (some y) := by
  by_cases e : i = j
  · subst e
    by_cases hi : i < l.length
    · rw [List.getElem?_set_self hi] at h; cases h
    · rw [List.getElem?_eq_none (by simpa using hi)] at h; cases h
  · rw [List.getElem?_set_ne e] at h; exact ⟨e, h⟩
theorem wipeE_length (env : Slots) : ∀ vs, (wipeE env vs).length = env.length
  | [] => rfl
  | v :: vs => by simp [wipeE, wipeE_length env vs]
theorem wipeE_get {env : Slots} {j : Nat} {y : SV} : ∀ {vs : List Nat}, (wipeE env vs)[j]? = some (some y) → j ∉ vs ∧ env[j]? = some (some y)
  | [], h => ⟨by simp, h⟩
  | v :: vs, h => by
    obtain ⟨h1, h2⟩ := set_none_get _ _ _ _ h
    obtain ⟨h3, h4⟩ := wipeE_get h2
    exact ⟨by simp [h3, Ne.symm h1], h4⟩
theorem Ok.forgetL : ∀ vs, Ok K κ I F H σ env nfp → Ok K κ I F H σ (wipeE env vs) nfp
  | [], k => k
  | v :: vs, k => (Ok.forgetL vs k).forget v
theorem Ok.wipe (vs : List Nat) (k : Ok K κ I F H σ env nfp) : Ok K κ I F H (wipe σ vs) (wipeE env vs) nfp :=
  (k.forgetL vs).swap (wipe_length σ vs) fun i y e => wipe_out (wipeE_get e).1
theorem Ok.unwipe {vs : List Nat} (k : Ok K κ I F H (L2.wipe σ vs) (wipeE env vs) nfp) : Ok K κ I F H σ (wipeE env vs) nfp :=
  k.swap (wipe_length σ vs).symm fun i y e => (wipe_out (wipeE_get e).1).symm
theorem wipe_set : ∀ {vs : List Nat} {σ : L2.St} {i : Nat} {x : Option V}, i ∈ vs → L2.wipe (σ.set i x) vs = L2.wipe σ vs
  | [], _, _, _, h => by simp at h
  | v :: vs, σ, i, x, h => by
    show (L2.wipe (σ.set i x) vs).set v none = (L2.wipe σ vs).set v none
    by_cases e : i = v
    · subst e
      by_cases m : i ∈ vs
      · rw [wipe_set m]
      · have : ∀ (vs : List Nat), i ∉ vs → L2.wipe (σ.set i x) vs = (L2.wipe σ vs).set i x := by
          intro vs
          induction vs with
          | nil => intro _; rfl
          | cons w ws ih =>
            intro hm
            simp only [List.mem_cons, not_or] at hm
            show (L2.wipe (σ.set i x) ws).set w none = ((L2.wipe σ ws).set w none).set i x
            rw [ih hm.2, List.set_comm _ _ hm.1]
        rw [this vs m, List.set_set]
    · have m : i ∈ vs := by simpa [e] using h
      rw [wipe_set m]
theorem wipe_wipe : ∀ (vs ws : List Nat) (σ : L2.St), (∀ v ∈ vs, v ∈ ws) → L2.wipe (L2.wipe σ vs) ws = L2.wipe σ ws
  | [], _, _, _ => rfl
  | v :: vs, ws, σ, h => by
    show L2.wipe ((L2.wipe σ vs).set v none) ws = _
    rw [wipe_set (h v (by simp)), wipe_wipe vs ws σ fun u m => h u (List.mem_cons_of_mem _ m)]
/-- what was data comes back -/
theorem Ok.back {old : Slots} (hl : old.length = env.length) : ∀ {vs : List Nat}, (∀ (i : Nat) (d : D), old[i]? = some (some (.dat d)) → ∃ v, σ[i]? = some (some v) ∧ Rp K κ I v d) → Ok K κ I F H σ env nfp → Ok K κ I F H σ (backE old env vs) nfp
  | [], _, k => k
  | v :: vs, h, k => by
    have k2 := Ok.back hl (vs := vs) h k
    unfold backE
    split
    · rename_i d q
      obtain ⟨w, h1, h2⟩ := h v d q
      have k3 := k2.forget v
      have hv : v < (backE old env vs).length := by
        have := k2.len
        rw [← this, k.len, ← hl]
        exact (List.getElem?_eq_some_iff.mp q).1
      have k4 := Ok.put (f1 := []) (i := v) k3 (by rw [List.getElem?_set_self hv]) h1 (.dat h2)
      rwa [List.set_set] at k4
    · exact k2
end
section
variable {X : Cx} {κ : Nat → Addr} {W : WX} {P : List Nat} {tg e a b elt iter : PySem.Expr} {pos : Pos}
abbrev W0 : WX := fun _ _ _ _ => False
/-- a target keeps to its own names -/
def Own (t : TG) (vs : List Nat) : Prop := ∀ (x : V) (σ : L2.St) (H : Hp) (Q : L2.St → Hp → Prop), t x (wipe σ vs) H (fun σ2 H2 => wipe σ2 vs = wipe σ vs → Q σ2 H2) → t x (wipe σ vs) H (fun σ2 H2 => wipe σ2 vs = wipe σ vs ∧ Q σ2 H2)
theorem wipe_2 (vs : List Nat) (σ : L2.St) : wipe (wipe σ vs) vs = wipe σ vs := wipe_wipe vs vs σ fun _ h => h
theorem own_name {i : Nat} {vs : List Nat} (h : i ∈ vs := by decide) : Own (gName i) vs := fun x σ H Q q => by
  have e : wipe ((wipe σ vs).set i (some x)) vs = wipe σ vs := by rw [wipe_set h, wipe_2]
  exact ⟨e, q e⟩
theorem own_tup {K : PySem.W.Frag} {i j : Nat} {vs : List Nat} (h : i ∈ vs := by decide) (h' : j ∈ vs := by decide) : Own (gTup K 2 (gCons (gName i) (gCons (gName j) gNil))) vs := fun x σ H Q q => by
  obtain ⟨a, xs, e1, e2, e3, v, r, e4, w, r', e5, e6, q⟩ := q
  have e : wipe (((wipe σ vs).set i (some v)).set j (some w)) vs = wipe σ vs := by rw [wipe_set h', wipe_set h, wipe_2]
  exact ⟨a, xs, e1, e2, e3, v, r, e4, w, r', e5, e6, e, q e⟩
theorem own_tup3 {K : PySem.W.Frag} {i j k : Nat} {vs : List Nat} (h : i ∈ vs := by decide) (h' : j ∈ vs := by decide) (h'' : k ∈ vs := by decide) : Own (gTup K 3 (gCons (gName i) (gCons (gName j) (gCons (gName k) gNil)))) vs := fun x σ H Q q => by
  obtain ⟨a, xs, e1, e2, e3, v, r, e4, w, r', e5, u, r'', e6, e7, q⟩ := q
  have e : wipe ((((wipe σ vs).set i (some v)).set j (some w)).set k (some u)) vs = wipe σ vs := by rw [wipe_set h'', wipe_set h', wipe_set h, wipe_2]
  exact ⟨a, xs, e1, e2, e3, v, r, e4, w, r', e5, u, r'', e6, e7, e, q e⟩
def RL (K : PySem.W.Frag) (κ : Nat → Addr) : Hp → Hp → V → List D → List Addr → Prop := fun I H v ds nfp => OwL K κ I H v (.lst ds) nfp
theorem lcLoop_nil {vs : List Nat} {g : TM} {t : EM Bool} {f : EM D} {acc : List D} {env : Slots} : lcLoop vs g t f [] acc env = .ok acc env := rfl
theorem lcLoop_cons {vs : List Nat} {g : TM} {t : EM Bool} {f : EM D} {d : D} {ds acc : List D} {env : Slots} : lcLoop vs g t f (d :: ds) acc env = (match g d (wipeE env vs) with
    | none => .stuck
    | some env1 => match t env1 with
      | .ok true env2 => match f env2 with
        | .ok y env3 => if acc.length < sizeLine then lcLoop vs g t f ds (acc ++ [y]) env3 else .stuck
        | _ => .stuck
      | .ok false env2 => lcLoop vs g t f ds acc env2
      | _ => .stuck) := rfl
/-- the state ahead of a turn -/
def LcI (K : PySem.W.Frag) (κ : Nat → Addr) (I1 F : Hp) (σ : L2.St) (vs : List Nat) (Da : Addr) (g : TM) (c : EM Bool) (f : EM D) (ds : List D) (L : RE (List D)) (H' : Hp) : Prop :=
  ∃ I2 σ2 env2 accV acc, Step F I1 I2 ∧ wipe σ2 vs = wipe σ vs ∧ H' Da = some (.lst accV) ∧ RpA K κ I2 accV acc ∧ Ok K κ I2 F H' σ2 env2 [Da] ∧ lcLoop vs g c f ds acc env2 = L
theorem lc_turn {K : PySem.W.Frag} {I1 F H2 H3 : Hp} {σ : L2.St} {vs : List Nat} {Da : Addr} {g : TM} {t : TG} {c : EM Bool} {f : EM D} {ds : List D} {J : It} {i : Nat} {x : V} {tt : TT} {te : TE} {L : RE (List D)} (w : WalkD K κ I1 J ds) (hi : i < ds.length)
    (ho : Own t vs) (ig : TGok K κ [] t g) (it' : ∀ σ H Q, ttD K κ W0 c σ H Q → tt σ H Q) (ie : ∀ σ H Q, teD K κ W0 f σ H Q → te σ H Q) (noS : L ≠ .stuck) (h : LcI K κ I1 F σ vs Da g c f (ds.drop i) L H2) (y : J.yld i H2 x H3) :
    t x (wipe σ vs) H3 fun σ2 H2 => wipe σ2 vs = wipe σ vs ∧ tt σ2 H2 fun b H3 => if b = true then te σ2 H3 fun y H4 => ∃ acc, H4 Da = some (.lst acc) ∧ acc.length < sizeLine ∧ LcI K κ I1 F σ vs Da g c f (ds.drop (i + 1)) L (upd H4 Da (.lst (acc ++ [y]))) else LcI K κ I1 F σ vs Da g c f (ds.drop (i + 1)) L H3 := by
  obtain ⟨I2, σ2, env2, accV, acc, s2, hw, hDv, ra, k2, heq⟩ := h
  have k2' : Ok K κ I2 F H2 σ2 env2 ([Da] ++ []) := k2
  have kf := k2'.frame
  obtain ⟨I3, d, hd, s3, k3, r3⟩ := WalkD.item (WalkD.mono s2.ext w) kf hi y
  have hdrop : ds.drop i = d :: ds.drop (i + 1) := by
    rw [List.drop_eq_getElem_cons hi]
    rw [List.getElem?_eq_getElem hi] at hd
    cases hd; rfl
  rw [hdrop, lcLoop_cons] at heq
  have k3w := k3.wipe vs
  rw [hw] at k3w
  have atD : ∀ {I' : Hp} {H' : Hp} {σ' : L2.St} {env' : Slots}, Ok K κ I' (addF F H2 [Da]) H' σ' env' [] → H' Da = some (.lst accV) := fun k => k.frm Da _ (by unfold addF; rw [if_pos (List.mem_singleton.mpr rfl)]; exact hDv)
  cases hgd : g d (wipeE env2 vs) with
  | none => rw [hgd] at heq; exact absurd heq.symm noS
  | some env3 =>
    rw [hgd] at heq
    simp only at heq
    exact ho x σ H3 (fun σ2 H2' => tt σ2 H2' fun b H3 => if b = true then te σ2 H3 fun y H4 => ∃ acc, H4 Da = some (.lst acc) ∧ acc.length < sizeLine ∧ LcI K κ I1 F σ vs Da g c f (ds.drop (i + 1)) L (upd H4 Da (.lst (acc ++ [y]))) else LcI K κ I1 F σ vs Da g c f (ds.drop (i + 1)) L H3)
      (ig I3 (addF F H2 [Da]) H3 (wipe σ vs) (wipeE env2 vs) env3 x d _ [] k3w r3 hgd fun σ3 _ k4 hw3 => by
        refine it' _ _ _ ⟨I3, addF F H2 [Da], env3, k4, ?_⟩
        revert heq
        cases hc : c env3 with
        | exc e ev => exact fun heq => absurd heq.symm noS
        | stuck => exact fun heq => absurd heq.symm noS
        | ok b env4 =>
          intro heq I4 H4 b' nfp s4 k5 hR
          obtain ⟨rfl, rfl⟩ := hR
          cases b' with
          | false =>
            simp only at heq
            obtain ⟨k6, kp, s6⟩ := k2'.unframe k5 (s3.trans s4)
            rw [if_neg Bool.false_ne_true]
            exact ⟨I4, σ3, env4, accV, acc, s2.trans s6, hw3, atD k5, ra.mono s6.ext, k6, heq⟩
          | true =>
            simp only at heq
            rw [if_pos rfl]
            refine ie _ _ _ ⟨I4, addF F H2 [Da], env4, k5, ?_⟩
            revert heq
            cases hf : f env4 with
            | exc e ev => exact fun heq => absurd heq.symm noS
            | stuck => exact fun heq => absurd heq.symm noS
            | ok yd env5 =>
              intro heq I5 H5 yv nfp s5 k6 hR
              obtain ⟨ry, rfl⟩ := hR
              simp only at heq
              split at heq
              · rename_i hz
                obtain ⟨k7, kp, s7⟩ := k2'.unframe k6 ((s3.trans s4).trans s5)
                have ra' := ra.mono s7.ext
                refine ⟨accV, atD k6, by rw [ra.length]; exact hz, I5, σ3, env5, accV ++ [yv], acc ++ [yd], s2.trans s7, hw3, upd_same, ra'.append (.cons ry .nil), ?_, heq⟩
                have k7' : Ok K κ I5 F H5 σ3 env5 [Da] := k7
                exact k7'.write
              · exact absurd heq.symm noS)
theorem lc_imp {X : Cx} {κ : Nat → Addr} {W : WX} {t : TG} {g : TM} {c : EM Bool} {f : EM D} {it : EM (List D)} {vs : List Nat} (ho : Own t vs) (ig : TGok X.K κ [] t g) : ∀ σ H Q, tG X.K κ (RL X.K κ) W (eLc vs it g c f) σ H Q → tLc (tiD X.K κ W it) t (ttD X.K κ W0 c) (teD X.K κ W0 f) vs σ H Q := by
  intro σ H Q h
  obtain ⟨I, F, env, k, p⟩ := h
  refine ⟨I, F, env, k, Post.mono (p.bind (R := RI X.K κ)) ?_⟩
  rintro J H1 ⟨I1, env1, ds, nfp, s1, k1, ⟨w, rfl⟩, p1⟩
  intro Da hD
  generalize hL : lcLoop vs g c f ds [] env1 = L at p1
  have noS : L ≠ .stuck := fun z => by subst z; exact p1
  refine ⟨fun i m H' => m = ds.length - i ∧ i ≤ ds.length ∧ LcI X.K κ I1 F σ vs Da g c f (ds.drop i) L H',
    ⟨_, rfl, Nat.zero_le _, I1, σ, env1, [], [], Step.refl F I1, rfl, upd_same, .nil, k1.newO hD, by rw [List.drop_zero]; exact hL⟩, ?_⟩
  rintro i m H2 ⟨rfl, hi2, h⟩
  by_cases hlt : i < ds.length
  · have hSame : Same I1 H2 := by
      obtain ⟨I2, σ2, env2, accV, acc, s2, hw, hDv, ra, k2, heq⟩ := h
      exact s2.ext.trans k2.ext
    exact .inr ⟨w.go i H2 hlt hSame, fun H' => LcI X.K κ I1 F σ vs Da g c f (ds.drop (i + 1)) L H', fun H' h => ⟨_, by omega, rfl, hlt, h⟩, fun x H3 y => lc_turn w hlt ho ig (fun _ _ _ h => h) (fun _ _ _ h => h) noS h y⟩
  · have e : i = ds.length := by omega
    subst e
    obtain ⟨I2, σ2, env2, accV, acc, s2, hw, hDv, ra, k2, heq⟩ := h
    rw [List.drop_length, lcLoop_nil] at heq
    subst heq
    refine .inl ⟨w.stop H2 (s2.ext.trans k2.ext), ?_⟩
    simp only at p1
    split at p1
    · have k3 := k2.wipe vs
      rw [hw] at k3
      have k4 := k3.unwipe
      have hl : env1.length = (wipeE env2 vs).length := by rw [← k4.len, k1.len]
      have k5 := k4.back (old := env1) (vs := vs) hl fun j d q => by
        obtain ⟨v, f1, h1, h2⟩ := k1.at_ q
        cases h2 with
        | dat r => exact ⟨v, h1, r.mono s2.ext⟩
      exact p1 I2 H2 (.ref Da) [Da] s2 k5 (.lst hDv ra)
    · exact p1.elim
theorem de_lcL {t : TG} {g : TM} {c : EM Bool} {f : EM D} {it : EM (List D)} {scope : Scope} {own : List (Str × Nat)} {ifs : List PySem.Expr} (hc : X.calm = true) (hN : X.N.Nodup) (hi : PI X tg iter (tiD X.K κ W it)) (ok : BlkOk X.N X.env.scope scope own)
    (ho : Own t (own.map (·.2))) (ig : TGok X.K κ [] t g)
    (hg : ∀ (s : Shared) (H : Hp) (C : Addr) (cl : List (Str × Addr)) (fp : List Addr), PG (X.blk s H scope (compEnvC scope cl C X.env) fp) tg t)
    (ht : ∀ (s : Shared) (H : Hp) (C : Addr) (cl : List (Str × Addr)) (fp : List Addr), PTs (X.blk s H scope (compEnvC scope cl C X.env) fp) ifs (ttD X.K κ W0 c))
    (he : ∀ (s : Shared) (H : Hp) (C : Addr) (cl : List (Str × Addr)) (fp : List Addr), PE (X.blk s H scope (compEnvC scope cl C X.env) fp) elt (teD X.K κ W0 f)) (hs : ∀ x, foldedSetIterable iter X.env x = pure x := by intro _; rfl) :
    PE X (.ListComp elt [⟨tg, iter, ifs, 0⟩] scope pos) (tG X.K κ (RL X.K κ) W (eLc (own.map (·.2)) it g c f)) := by
  exact pe_imp (pe_lc hc hN hi ok hg ht he hs) (lc_imp ho ig)
/-- x = [..], x a plain local -/
theorem d_setLc {P : List Nat} {i : Nat} {y : Str} {py spos : Pos} {t : TG} {g : TM} {c : EM Bool} {f : EM D} {it : EM (List D)} {scope : Scope} {own : List (Str × Nat)} {ifs : List PySem.Expr} (hc : X.calm = true) (hN : X.N.Nodup) (hi : PI X tg iter (tiD X.K κ W it)) (ok : BlkOk X.N X.env.scope scope own)
    (ho : Own t (own.map (·.2))) (ig : TGok X.K κ [] t g)
    (hg : ∀ (s : Shared) (H : Hp) (C : Addr) (cl : List (Str × Addr)) (fp : List Addr), PG (X.blk s H scope (compEnvC scope cl C X.env) fp) tg t)
    (ht : ∀ (s : Shared) (H : Hp) (C : Addr) (cl : List (Str × Addr)) (fp : List Addr), PTs (X.blk s H scope (compEnvC scope cl C X.env) fp) ifs (ttD X.K κ W0 c))
    (he : ∀ (s : Shared) (H : Hp) (C : Addr) (cl : List (Str × Addr)) (fp : List Addr), PE (X.blk s H scope (compEnvC scope cl C X.env) fp) elt (teD X.K κ W0 f)) (hP : i ∉ P := by decide) (hy : X.N[i]? = some y := by rfl) (hyl : X.env.scope.names.lookup y = some .local := by rfl)
    (hsw : swapsWith (.ListComp elt [⟨tg, iter, ifs, 0⟩] scope pos) (some (.Name y py)) spos.line X.env = pure true := by exact sw_true rfl rfl rfl rfl) (hs : ∀ x, foldedSetIterable iter X.env x = pure x := by intro _; rfl) :
    PS X (.Assign [.Name y py] (.ListComp elt [⟨tg, iter, ifs, 0⟩] scope pos) spos) (tsD X.K κ W P (sAsg i (lcO (eLc (own.map (·.2)) it g c f)))) := by
  refine ps_imp (ps_setLc hc hN hy hyl hsw hi ok hg ht he hs) fun Dn σ H h => ?_
  obtain ⟨I, F, env, k, p⟩ := h
  unfold sAsg lcO at p
  rw [EM.assoc] at p
  refine lc_imp ho ig σ H _ ⟨I, F, env, k, Post.mono (p.ex (R := RL X.K κ)) ?_⟩
  rintro v H1 ⟨I1, env1, ds, nfp, s1, k1, r1, p1⟩
  have p1 : PostS X.K κ W P I1 F σ Dn (setSlot i (.own (.lf (.lst ds))) env1) := p1
  unfold setSlot at p1
  split at p1
  · rename_i hl
    have k2 := Ok.store (i := i) (nfp := []) (by rw [List.append_nil]; exact k1) hl (.own (.lf r1))
    exact p1.nx k2 (Step.refl F I1) (Pin.set hP)
  · exact p1.elim
theorem takes0 {X : Cx} : Takes X W0 := fun _ _ h => by
  obtain ⟨_, _, _, _, _, _, _, _, _, _, _, _, _, _, _, _, h⟩ := h
  exact h.elim
/-- [..], that stands still from now on -/
theorem de_lcF {e : PySem.Expr} {f : EM (List D)} (h : PE X e (tG X.K κ (RL X.K κ) W f)) : PE X e (teD X.K κ W (lcF f)) := pe_imp h fun σ H Q h => by
  obtain ⟨I, F, env, k, p⟩ := h
  refine ⟨I, F, env, k, Post.mono (p.bind (R := RL X.K κ)) ?_⟩
  rintro v H1 ⟨I1, env1, ds, nfp, s1, k1, r, p1⟩
  have k1' : Ok X.K κ I1 F H1 σ env1 (nfp ++ []) := by rw [List.append_nil]; exact k1
  obtain ⟨k2, s2⟩ := k1'.freeze
  exact p1 _ H1 v [] s2 k2 ⟨r.viewed s2.ext fun a h => frz_at h, rfl⟩
/-- [..], owned -/
theorem ds_lcO {e : PySem.Expr} {f : EM (List D)} (h : PE X e (tG X.K κ (RL X.K κ) W f)) : PE X e (teS X.K κ W (lcO f)) := pe_imp h fun σ H Q h => by
  obtain ⟨I, F, env, k, p⟩ := h
  refine ⟨I, F, env, k, Post.mono (p.bind (R := RL X.K κ)) ?_⟩
  rintro v H1 ⟨I1, env1, ds, nfp, s1, k1, r, p1⟩
  exact p1 I1 H1 v nfp (Step.refl F I1) k1 (.own (.lf r))
/-- a clause's tests -/
theorem dts_nil {X : Cx} : PTs X [] (ttD X.K κ W bYes) := ⟨fun pins s σ H Q I h => pts_nil.run pins s σ H Q I (by
  obtain ⟨I, F, env, k, p⟩ := h
  exact p I H true [] (Step.refl F I) k ⟨rfl, rfl⟩)⟩
theorem dts_one {X : Cx} {c : PySem.Expr} {f : EM Bool} (h : PT X c (ttD X.K κ W f)) : PTs X [c] (ttD X.K κ W f) := pts_one h
theorem tgk_name {K : PySem.W.Frag} {i : Nat} {P : List Nat} (hP : i ∉ P := by decide) : TGok K κ P (gName i) (gN i) := fun I F H σ env env' v d Q nfp k r e q => by
  unfold gN at e
  split at e
  · rename_i hl
    cases e
    exact q _ (Pin.set hP) (Ok.store (f1 := []) k hl (.dat r))
  · cases e
theorem tgk_tup {K : PySem.W.Frag} {i j : Nat} {P : List Nat} (hP : i ∉ P := by decide) (hP2 : j ∉ P := by decide) : TGok K κ P (gTup K 2 (gCons (gName i) (gCons (gName j) gNil))) (gT [gN i, gN j]) := fun I F H σ env env' v d Q nfp k r e q => by
  cases r <;> simp only [gT] at e <;> try (cases e)
  rename_i a vs ds h1 r1
  have hl := gTs_len _ _ _ e
  match ds, hl, r1, e with
  | [d1, d2], _, r1, e =>
    obtain ⟨v1, v2, rfl, ra, rb⟩ := r1.two
    simp only [gTs, gN] at e
    split at e
    · simp only [Option.bind_some] at e
      split at e
      · rename_i hl1 hl2
        simp only [Option.bind_some] at e
        cases e
        exact ⟨_, _, rfl, SqT.of (k.ext _ _ h1), rfl, v1, [v2], rfl, v2, [], rfl, rfl, q _ ((Pin.set hP).trans (Pin.set hP2)) (Ok.store (f1 := []) (Ok.store (f1 := []) k hl1 (.dat ra)) hl2 (.dat rb))⟩
      · cases e
    · cases e
end
end DL

/-! DL10: defs and their calls -/
namespace DL
open PySem L2
/-- what an argument is: data, or an owned thing of a slot (lent for the call), or of a field of a slot's instance -/
inductive AR where
  | dat (f : EM D) | var (i : Nat) | fld (c i : Nat) (f : Str) | new (f : EM SV)
inductive AV where
  | dat (d : D) | var (i : Nat) | fld (i : Nat) (f : Str) | new (x : SV)
def evA : List AR → EM (List AV)
  | [] => EM.pure []
  | .dat f :: r => f.bind fun d => (evA r).bind fun as => EM.pure (.dat d :: as)
  | .new f :: r => f.bind fun x => (evA r).bind fun as => EM.pure (.new x :: as)
  | .var i :: r => fun env => match env[i]? with
    | some (some _) => ((evA r).bind fun as => EM.pure (.var i :: as)) env
    | _ => .stuck
  | .fld c i f :: _ => fun env => match env[i]? with
    | some (some (.own (.ins c' gs))) => if c' = c then (match gs.lookup f with
      | some (.own _) => .ok [.fld i f] env
      | _ => .stuck) else .stuck
    | _ => .stuck
def setF {α : Type} [DecidableEq α] (f : α) (x : FV) : List (α × FV) → List (α × FV)
  | [] => []
  | (g, y) :: r => if f = g then (g, x) :: r else (g, y) :: setF f x r
def takeA : List AV → Slots → Option (List SV × Slots)
  | [], env => some ([], env)
  | .dat d :: r, env => (takeA r env).map fun p => (.dat d :: p.1, p.2)
  | .new x :: r, env => (takeA r env).map fun p => (x :: p.1, p.2)
  | .var i :: r, env => match env[i]? with
    | some (some x) => (takeA r (env.set i none)).map fun p => (x :: p.1, p.2)
    | _ => none
  | .fld i f :: r, env => match env[i]? with
    | some (some (.own (.ins c gs))) => match gs.lookup f with
      | some (.own l) => (takeA r (env.set i (some (.own (.ins c (setF f .hole gs)))))).map fun p => (.own (.lf l) :: p.1, p.2)
      | _ => none
    | _ => none
def putA : List AV → Slots → Slots → Option Slots
  | [], _, env => some env
  | .dat _ :: r, _ :: outs, env => putA r outs env
  | .new _ :: r, _ :: outs, env => putA r outs env
  | .var i :: r, some x :: outs, env => match env[i]? with
    | some none => putA r outs (env.set i (some x))
    | _ => none
  | .var _ :: r, none :: outs, env => putA r outs env
  | .fld i f :: r, some (.own (.lf l)) :: outs, env => match env[i]? with
    | some (some (.own (.ins c gs))) => match gs.lookup f with
      | some .hole => putA r outs (env.set i (some (.own (.ins c (setF f (.own l) gs)))))
      | _ => none
    | _ => none
  | _, _, _ => none
/-- a call of a def with such a mirror -/
def callD (Φ : List SV → RE SV) (ars : List AR) : EM SV := (evA ars).bind fun avs env => match takeA avs env with
  | none => .stuck
  | some (args, env1) => match Φ args with
    | .ok sv outs => match putA avs outs env1 with
      | some env2 => .ok sv env2
      | none => .stuck
    | .exc e outs => match putA avs outs env1 with
      | some env2 => .exc e env2
      | none => .stuck
    | .stuck => .stuck
def outs (modes : List Bool) (env : Slots) : Slots := List.zipWith (fun m s => if m = true then s else none) modes env
def fnD (modes : List Bool) (n : Nat) (body : SM) : List SV → RE SV := fun args =>
  if args.length = modes.length then match body (args.map some ++ List.replicate (n - args.length) none) with
    | .ok (.rt sv) env' => .ok sv (outs modes env')
    | .ok .nx env' => .ok (.dat .non) (outs modes env')
    | .exc e env' => .exc e (outs modes env')
    | _ => .stuck
  else .stuck
section
variable (K : PySem.W.Frag) (κ : Nat → Addr)
def PostF (I F : Hp) (vs : List V) (Q : VK) (E : XK) : RE SV → Prop
  | .ok sv outs => ∀ I' H' v nfp, Step F I I' → Ok K κ I' F H' (vs.map some) outs nfp → OwS K κ I' H' v sv nfp → Q v H'
  | .exc e outs => ∀ I' H' cls dd, Step F I I' → Ok K κ I' F H' (vs.map some) outs [] → ExR K κ I' e cls dd → E cls dd H'
  | .stuck => False
def spD (Φ : List SV → RE SV) : Sp := fun vs H Q E => ∃ I F args, Ok K κ I F H (vs.map some) (args.map some) [] ∧ PostF K κ I F vs Q E (Φ args)
/-- arguments as values -/
inductive AvR (I H : Hp) (σ : L2.St) : List V → List AV → Prop
  | nil : AvR I H σ [] []
  | dat {v : V} {d : D} {vs : List V} {as : List AV} : Rp K κ I v d → AvR I H σ vs as → AvR I H σ (v :: vs) (.dat d :: as)
  | var {v : V} {i : Nat} {vs : List V} {as : List AV} : σ[i]? = some (some v) → AvR I H σ vs as → AvR I H σ (v :: vs) (.var i :: as)
  | fld {v : V} {i : Nat} {f : Str} {a C dx : Addr} {fs : List (Str × V)} : σ[i]? = some (some (.ref a)) → H a = some (.ins C dx fs) → fs.lookup f = some v → AvR I H σ [v] [.fld i f]
  | new {v : V} {x : SV} {vs : List V} {as : List AV} : AvR I H σ vs as → AvR I H σ (v :: vs) (.new x :: as)
/-- .. and what is new of them -/
inductive AvN (I H : Hp) : List V → List AV → List Addr → Prop
  | nil : AvN I H [] [] []
  | dat {v : V} {d : D} {vs : List V} {as : List AV} {fp : List Addr} : AvN I H vs as fp → AvN I H (v :: vs) (.dat d :: as) fp
  | var {v : V} {i : Nat} {vs : List V} {as : List AV} {fp : List Addr} : AvN I H vs as fp → AvN I H (v :: vs) (.var i :: as) fp
  | fld {v : V} {i : Nat} {f : Str} : AvN I H [v] [.fld i f] []
  | new {v : V} {x : SV} {vs : List V} {as : List AV} {f1 f2 : List Addr} : OwS K κ I H v x f1 → AvN I H vs as f2 → AvN I H (v :: vs) (.new x :: as) (f1 ++ f2)
end
section
variable {K : PySem.W.Frag} {κ : Nat → Addr} {I I' F H H' : Hp} {σ : L2.St} {env : Slots} {nfp : List Addr}
theorem Rel.frame {l fp : List Addr} (r : Rel I F H (l ++ fp)) : Rel I (addF F H l) H fp := by
  refine ⟨r.ext, fun a o q => ?_, r.sub.nd, r.sub.nI, fun a h => ?_, r.sub.tr⟩
  · unfold addF at q; split at q
    · exact q
    · exact r.frm a o q
  · have : a ∉ l := fun z => (List.nodup_append.mp r.nd).2.2 a z a h rfl
    unfold addF; rw [if_neg this]; exact r.nF a (List.mem_append_right _ h)
theorem Rel.unframe {l fp fp' : List Addr} (r : Rel I F H (l ++ fp)) (r' : Rel I' (addF F H l) H' fp') (st : Step (addF F H l) I I') : Rel I' F H' (l ++ fp') ∧ (∀ a ∈ l, H' a = H a) ∧ Step F I I' := by
  have at_ : ∀ a ∈ l, ∃ o, H a = some o ∧ addF F H l a = some o := fun a h => by
    cases q : H a with
    | none => exact absurd q (r.tr a (List.mem_append_left _ h))
    | some o => exact ⟨o, rfl, by unfold addF; rw [if_pos h]; exact q⟩
  have keep : ∀ a ∈ l, H' a = H a := fun a h => by
    obtain ⟨o, h1, h2⟩ := at_ a h
    rw [h1]; exact r'.frm a o h2
  have FF : ∀ a o, F a = some o → addF F H l a = some o := fun a o q => by
    unfold addF; split
    · exact r.frm a o q
    · exact q
  refine ⟨⟨r'.ext, fun a o q => r'.frm a o (FF a o q), ?_, ?_, ?_, ?_⟩, keep, ⟨st.ext, fun a o q1 q2 => st.ap a o (FF a o q1) q2⟩⟩
  · refine List.nodup_append.mpr ⟨(List.nodup_append.mp r.nd).1, r'.nd, fun a h b h2 z => ?_⟩
    subst z
    obtain ⟨o, _, h3⟩ := at_ a h
    rw [r'.nF a h2] at h3; cases h3
  · intro a h; rcases List.mem_append.mp h with h | h
    · obtain ⟨o, _, h3⟩ := at_ a h
      exact st.ap a o h3 (r.nI a (List.mem_append_left _ h))
    · exact r'.nI a h
  · intro a h; rcases List.mem_append.mp h with h | h
    · exact r.nF a (List.mem_append_left _ h)
    · have := r'.nF a h
      cases q : F a with
      | none => rfl
      | some o => rw [FF a o q] at this; cases this
  · intro a h; rcases List.mem_append.mp h with h | h
    · rw [keep a h]; exact r.tr a (List.mem_append_left _ h)
    · exact r'.tr a h
/-- a field is exchanged: what it owned comes out, what is put in goes in -/
theorem OwFs.setF {α : Type} [DecidableEq α] [LawfulBEq α] {f : α} {x : FV} {v : V} {f1 : List Addr} : ∀ {vs : List (α × V)} {gs : List (α × FV)} {fp : List Addr}, OwFs K κ I H vs gs fp → vs.lookup f = some v → OwF K κ I H v x f1 →
    ∃ f0 fp', OwFs K κ I H vs (DL.setF f x gs) fp' ∧ (f1 ++ fp).Perm (f0 ++ fp') ∧ (∀ y, gs.lookup f = some y → OwF K κ I H v y f0)
  | _, _, _, .nil, h, _ => by simp at h
  | (k', w) :: vs, (_, y) :: gs, _, .cons (fp := g1) (fq := g2) h r, e, ho => by
    rw [List.lookup_cons] at e
    by_cases z : f = k'
    · subst z
      simp at e; subst e
      refine ⟨g1, f1 ++ g2, ?_, List.perm_append_comm_assoc f1 g1 g2, fun y' hy => ?_⟩
      · unfold DL.setF; rw [if_pos rfl]; exact .cons ho r
      · rw [List.lookup_cons] at hy; simp at hy; subst hy; exact h
    · have zb : (f == k') = false := by simpa using z
      rw [zb] at e
      obtain ⟨f0, fp', h1, h2, h3⟩ := OwFs.setF (f := f) (x := x) r (by simpa using e) ho
      refine ⟨f0, g1 ++ fp', ?_, ?_, fun y' hy => ?_⟩
      · unfold DL.setF; rw [if_neg z]; exact .cons h h1
      · exact (List.perm_append_comm_assoc f1 g1 g2).trans ((h2.append_left g1).trans (List.perm_append_comm_assoc g1 f0 fp'))
      · rw [List.lookup_cons, zb] at hy; exact h3 y' (by simpa using hy)
theorem lookup_of {f : Str} {x : FV} {vs : List (Str × V)} {gs : List (Str × FV)} {fp : List Addr} (r : OwFs K κ I H vs gs fp) (h : gs.lookup f = some x) : ∃ v, vs.lookup f = some v := by
  obtain ⟨v, _, h, _⟩ := r.lookup h
  exact ⟨v, h⟩
theorem takeA_ok : ∀ {avs : List AV} {vs : List V} {env env' : Slots} {args : List SV} {nfp fn : List Addr}, AvR K κ I H σ vs avs → AvN K κ I H vs avs fn → Ok K κ I F H σ env (fn ++ nfp) → takeA avs env = some (args, env') →
    ∃ fa, EnvR K κ I H (vs.map some) (args.map some) fa ∧ Ok K κ I F H σ env' (fa ++ nfp)
  | [], _, env, env', args, nfp, _, .nil, .nil, k, h => by
    simp only [takeA, Option.some.injEq, Prod.mk.injEq] at h
    obtain ⟨rfl, rfl⟩ := h
    exact ⟨[], .nil, k⟩
  | .new x :: r, _, env, env', args, nfp, _, .new hr, .new (f1 := f1) (f2 := f2) ho an, k, h => by
    simp only [takeA] at h
    cases q : takeA r env with
    | none => rw [q] at h; cases h
    | some p =>
      rw [q] at h
      simp only [Option.map_some, Option.some.injEq, Prod.mk.injEq] at h
      obtain ⟨rfl, rfl⟩ := h
      have k0 : Ok K κ I F H σ env (f2 ++ (f1 ++ nfp)) := k.perm (by rw [List.append_assoc]; exact List.perm_append_comm_assoc f1 f2 nfp)
      obtain ⟨fa, h1, h2⟩ := takeA_ok hr an k0 q
      exact ⟨f1 ++ fa, .so ho h1, h2.perm (by rw [List.append_assoc]; exact List.perm_append_comm_assoc fa f1 nfp)⟩
  | .dat d :: r, _, env, env', args, nfp, _, .dat hd hr, .dat an, k, h => by
    simp only [takeA] at h
    cases q : takeA r env with
    | none => rw [q] at h; cases h
    | some p =>
      rw [q] at h
      simp only [Option.map_some, Option.some.injEq, Prod.mk.injEq] at h
      obtain ⟨rfl, rfl⟩ := h
      obtain ⟨fa, h1, h2⟩ := takeA_ok hr an k q
      exact ⟨[] ++ fa, .so (.dat hd) h1, h2⟩
  | .var i :: r, _, env, env', args, nfp, fn, .var hv hr, .var an, k, h => by
    simp only [takeA] at h
    split at h
    · rename_i x hx
      cases q : takeA r (env.set i none) with
      | none => rw [q] at h; cases h
      | some p =>
        rw [q] at h
        simp only [Option.map_some, Option.some.injEq, Prod.mk.injEq] at h
        obtain ⟨rfl, rfl⟩ := h
        obtain ⟨v', f1, e1, o1, k1⟩ := k.get hx
        rw [hv] at e1
        cases e1
        have k2 : Ok K κ I F H σ (env.set i none) (fn ++ (f1 ++ nfp)) := k1.perm (List.perm_append_comm_assoc f1 fn nfp)
        obtain ⟨fa, h1, h2⟩ := takeA_ok hr an k2 q
        refine ⟨f1 ++ fa, .so o1 h1, h2.perm ?_⟩
        rw [List.append_assoc]
        exact List.perm_append_comm_assoc fa f1 nfp
    · cases h
  | [.fld i f], _, env, env', args, nfp, _, .fld (a := aa) hv ha hl, .fld, k, h => by
    simp only [takeA] at h
    split at h
    · rename_i c gs hx
      split at h
      · rename_i l hlk
        simp only [takeA, Option.map_some, Option.some.injEq, Prod.mk.injEq] at h
        obtain ⟨rfl, rfl⟩ := h
        obtain ⟨v', f1, e1, o1, k1⟩ := k.get hx
        rw [hv] at e1
        cases e1
        cases o1 with
        | own o1 =>
          cases o1 with
          | ins ho ofs =>
            rw [ha] at ho
            cases ho
            rename_i fpo
            obtain ⟨f0, fp', h1, h2, h3⟩ := OwFs.setF (f := f) (x := .hole) ofs hl .hole
            have h4 := h3 _ hlk
            cases h4 with
            | own h4 =>
              refine ⟨f0 ++ [], .so (.own (.lf h4)) .nil, ?_⟩
              have hil : i < env.length := (List.getElem?_eq_some_iff.mp hx).1
              have pm : (aa :: fpo ++ nfp).Perm ((aa :: fp') ++ (f0 ++ [] ++ nfp)) := by
                rw [List.append_nil]
                rw [List.nil_append] at h2
                refine ((h2.cons _).append_right nfp).trans ?_
                rw [List.cons_append, List.cons_append]
                refine List.Perm.cons _ ?_
                rw [List.append_assoc]
                exact List.perm_append_comm_assoc f0 fp' nfp
              have k2 := Ok.put (f1 := aa :: fp') (i := i) (k1.perm pm) (by rw [List.getElem?_set_self hil]) hv (.own (.ins ha h1))
              rwa [List.set_set] at k2
      · cases h
    · cases h
theorem setF_len {α : Type} [DecidableEq α] (f : α) (x : FV) (gs : List (α × FV)) : (setF f x gs).length = gs.length := by
  induction gs with
  | nil => rfl
  | cons p r ih =>
    obtain ⟨g, y⟩ := p
    unfold setF
    split
    · rfl
    · simp [ih]
theorem putA_ok : ∀ {avs : List AV} {vs : List V} {os env env' : Slots} {nfp fo : List Addr}, AvR K κ I' H σ vs avs → (∀ (i : Nat) (f : Str), AV.fld i f ∈ avs → ∀ (a C dx : Addr) (fs : List (Str × V)), σ[i]? = some (some (.ref a)) → H a = some (.ins C dx fs) → H' a = H a) → EnvR K κ I H' (vs.map some) os fo → Ok K κ I F H' σ env (fo ++ nfp) → putA avs os env = some env' →
    Ok K κ I F H' σ env' nfp
  | [], _, os, env, env', nfp, fo, .nil, _, e, k, h => by
    simp only [putA, Option.some.injEq] at h
    subst h
    cases e
    exact k
  | .dat d :: r, _, [], env, env', nfp, fo, .dat hd hr, _, e, k, h => by simp [putA] at h
  | .dat d :: r, _, o :: os, env, env', nfp, fo, .dat hd hr, st, e, k, h => by
    simp only [putA] at h
    cases e with
    | no e => exact putA_ok hr (fun i f m => st i f (List.mem_cons_of_mem _ m)) e k h
    | so _ e =>
      rw [List.append_assoc] at k
      exact putA_ok hr (fun i f m => st i f (List.mem_cons_of_mem _ m)) e k.drop h
  | .new x :: r, _, [], env, env', nfp, fo, .new hr, _, e, k, h => by simp [putA] at h
  | .new x :: r, _, o :: os, env, env', nfp, fo, .new hr, st, e, k, h => by
    simp only [putA] at h
    cases e with
    | no e => exact putA_ok hr (fun i f m => st i f (List.mem_cons_of_mem _ m)) e k h
    | so _ e =>
      rw [List.append_assoc] at k
      exact putA_ok hr (fun i f m => st i f (List.mem_cons_of_mem _ m)) e k.drop h
  | .var i :: r, _, [], env, env', nfp, fo, .var hv hr, _, e, k, h => by simp [putA] at h
  | .var i :: r, _, none :: os, env, env', nfp, fo, .var hv hr, st, e, k, h => by
    simp only [putA] at h
    cases e with
    | no e => exact putA_ok hr (fun i f m => st i f (List.mem_cons_of_mem _ m)) e k h
  | .var i :: r, _, some x :: os, env, env', nfp, fo, .var hv hr, st, e, k, h => by
    simp only [putA] at h
    split at h
    · rename_i hn
      cases e with
      | so g e =>
        rw [List.append_assoc] at k
        have k2 := Ok.put (i := i) k hn hv g
        exact putA_ok hr (fun i f m => st i f (List.mem_cons_of_mem _ m)) e k2 h
    · cases h
  | [.fld i f], _, [], env, env', nfp, fo, .fld hv ha hl, _, e, k, h => by simp [putA] at h
  | [.fld i f], _, none :: os, env, env', nfp, fo, .fld hv ha hl, _, e, k, h => by simp [putA] at h
  | [.fld i f], _, some (.dat d) :: os, env, env', nfp, fo, .fld hv ha hl, _, e, k, h => by simp [putA] at h
  | [.fld i f], _, some (.own (.ins c gs)) :: os, env, env', nfp, fo, .fld hv ha hl, _, e, k, h => by simp [putA] at h
  | [.fld i f], _, some (.own (.rcd gs)) :: os, env, env', nfp, fo, .fld hv ha hl, _, e, k, h => by simp [putA] at h
  | [.fld i f], _, some (.own (.tup gs)) :: os, env, env', nfp, fo, .fld hv ha hl, _, e, k, h => by simp [putA] at h
  | [.fld i f], _, some (.own (.lf l)) :: os, env, env', nfp, fo, .fld (a := aa) hv ha hl, st, e, k, h => by
    simp only [putA] at h
    split at h
    · rename_i c gs hx
      split at h
      · rename_i hlk
        cases e with
        | so g e =>
          cases e
          simp only [putA, Option.some.injEq] at h
          subst h
          rename_i fg
          obtain ⟨v', f1, e1, o1, k1⟩ := k.get hx
          rw [hv] at e1
          cases e1
          cases o1 with
          | own o1 =>
            cases o1 with
            | ins ho ofs =>
              have hk := st i f (by simp) _ _ _ _ hv ha
              rw [hk, ha] at ho
              cases ho
              rename_i fpo
              cases g with
              | own g =>
                cases g with
                | lf g =>
                  obtain ⟨f0, fp', h1, h2, h3⟩ := OwFs.setF (f := f) (x := .own l) ofs hl (.own g)
                  have h4 := h3 _ hlk
                  cases h4
                  have hil : i < env.length := (List.getElem?_eq_some_iff.mp hx).1
                  rw [List.nil_append] at h2
                  rw [List.append_nil] at k1
                  have pm : (aa :: fpo ++ (fg ++ nfp)).Perm ((aa :: fp') ++ nfp) := by
                    rw [List.cons_append, List.cons_append]
                    refine List.Perm.cons _ ?_
                    refine (List.perm_append_comm_assoc fpo fg nfp).trans ?_
                    rw [← List.append_assoc]
                    exact h2.append_right nfp
                  have k2 := Ok.put (f1 := aa :: fp') (i := i) (k1.perm pm) (by rw [List.getElem?_set_self hil]) hv (.own (.ins (hk.trans ha) h1))
                  rwa [List.set_set] at k2
      · cases h
    · cases h
end
end DL

/-! DL11: calls, kept sound -/
namespace DL
open PySem L2
def RAV (K : PySem.W.Frag) (κ : Nat → Addr) (σ : L2.St) : Hp → Hp → List V → List AV → List Addr → Prop := fun I H vs as nfp => AvR K κ I H σ vs as ∧ AvN K κ I H vs as nfp
abbrev taV (K : PySem.W.Frag) (κ : Nat → Addr) (W : WX) (ars : List AR) : TA := fun σ H Q => tG K κ (RAV K κ σ) W (evA ars) σ H Q
section
variable {K : PySem.W.Frag} {κ : Nat → Addr} {I I' F H H' : Hp} {σ : L2.St}
theorem AvR.len : ∀ {vs : List V} {as : List AV}, AvR K κ I H σ vs as → vs.length = as.length
  | _, _, .nil => rfl
  | _, _, .dat _ r => by simp [r.len]
  | _, _, .var _ r => by simp [r.len]
  | _, _, .new r => by simp [r.len]
  | _, _, .fld _ _ _ => rfl
theorem AvR.mono (s : Same I I') : ∀ {vs : List V} {as : List AV}, AvR K κ I H σ vs as → AvR K κ I' H σ vs as
  | _, _, .nil => .nil
  | _, _, .dat h r => .dat (Rp.mono s h) (r.mono s)
  | _, _, .var h r => .var h (r.mono s)
  | _, _, .new r => .new (r.mono s)
  | _, _, .fld h1 h2 h3 => .fld h1 h2 h3
theorem AvN.mono (s : Same I I') : ∀ {vs : List V} {as : List AV} {fp : List Addr}, AvN K κ I H vs as fp → (∀ a ∈ fp, H' a = H a) → AvN K κ I' H' vs as fp
  | _, _, _, .nil, _ => .nil
  | _, _, _, .dat r, k => .dat (r.mono s k)
  | _, _, _, .var r, k => .var (r.mono s k)
  | _, _, _, .fld, _ => .fld
  | _, _, _, .new h r, k => .new (h.mono s fun a m => k a (List.mem_append_left _ m)) (r.mono s fun a m => k a (List.mem_append_right _ m))
theorem takeA_fld {i : Nat} {f : Str} : ∀ {vs : List V} {as : List AV} {env env1 : Slots} {args : List SV}, AvR K κ I H σ vs as → takeA as env = some (args, env1) → AV.fld i f ∈ as → ∃ c gs, env1[i]? = some (some (.own (.ins c gs)))
  | _, _, _, _, _, .nil, _, m => by simp at m
  | _, .dat d :: as, env, env1, args, .dat _ r, h, m => by
    simp only [takeA] at h
    cases q : takeA as env with
    | none => rw [q] at h; cases h
    | some p =>
      rw [q] at h
      simp only [Option.map_some, Option.some.injEq, Prod.mk.injEq] at h
      obtain ⟨rfl, rfl⟩ := h
      exact takeA_fld r q (by simpa using m)
  | _, .new x :: as, env, env1, args, .new r, h, m => by
    simp only [takeA] at h
    cases q : takeA as env with
    | none => rw [q] at h; cases h
    | some p =>
      rw [q] at h
      simp only [Option.map_some, Option.some.injEq, Prod.mk.injEq] at h
      obtain ⟨rfl, rfl⟩ := h
      exact takeA_fld r q (by simpa using m)
  | _, .var j :: as, env, env1, args, .var _ r, h, m => by
    simp only [takeA] at h
    split at h
    · cases q : takeA as (env.set j none) with
      | none => rw [q] at h; cases h
      | some p =>
        rw [q] at h
        simp only [Option.map_some, Option.some.injEq, Prod.mk.injEq] at h
        obtain ⟨rfl, rfl⟩ := h
        exact takeA_fld r q (by simpa using m)
    · cases h
  | _, [.fld j g], env, env1, args, .fld _ _ _, h, m => by
    simp only [List.mem_cons, List.not_mem_nil, or_false, AV.fld.injEq] at m
    obtain ⟨rfl, rfl⟩ := m
    simp only [takeA] at h
    split at h
    · rename_i hx
      split at h
      · simp only [takeA, Option.map_some, Option.some.injEq, Prod.mk.injEq] at h
        obtain ⟨rfl, rfl⟩ := h
        exact ⟨_, _, by rw [List.getElem?_set_self (List.getElem?_eq_some_iff.mp hx).1]⟩
      · cases h
    · cases h
end
section
variable {X : Cx} {κ : Nat → Addr} {W : WX} {P : List Nat} {e a b : PySem.Expr} {pos : Pos} {es : List PySem.Expr}
theorem dv_nil : PA X [] (taV X.K κ W []) := pa_imp pa_nil fun σ H Q h => by
  obtain ⟨I, F, env, k, p⟩ := h
  exact p I H _ [] (Step.refl F I) k ⟨.nil, .nil⟩
theorem dv_dat {f : EM D} {ars : List AR} (ha : PE X e (teD X.K κ W f)) (hr : PA X es (taV X.K κ W ars)) (hs : starEach (e :: es) X.env = (false, eval e X.env) :: starEach es X.env := by rfl) : PA X (e :: es) (taV X.K κ W (.dat f :: ars)) :=
  pa_imp (pa_cons ha hr hs) fun σ H Q h => by
    obtain ⟨I, F, env, k, p⟩ := h
    refine ⟨I, F, env, k, Post.mono (Post.bind (R := RD X.K κ) p) ?_⟩
    rintro x H1 ⟨I1, env1, dx, nfp, s1, k1, ⟨rx, rfl⟩, p1⟩
    refine ⟨I1, F, env1, k1, Post.mono (p1.bind (R := RAV X.K κ σ)) ?_⟩
    rintro xs H2 ⟨I2, env2, ds, nfp, s2, k2, ⟨rs, an⟩, p2⟩
    exact p2 I2 H2 _ nfp (Step.refl F I2) k2 ⟨.dat (rx.mono s2.ext) rs, .dat an⟩
/-- a new thing, owned by the call -/
theorem dv_new {f : EM SV} {ars : List AR} (ha : PE X e (teS X.K κ W f)) (hr : PA X es (taV X.K κ W ars)) (hs : starEach (e :: es) X.env = (false, eval e X.env) :: starEach es X.env := by rfl) : PA X (e :: es) (taV X.K κ W (.new f :: ars)) :=
  pa_imp (pa_cons ha hr hs) fun σ H Q h => by
    obtain ⟨I, F, env, k, p⟩ := h
    refine ⟨I, F, env, k, Post.mono (Post.bind (R := RS X.K κ) p) ?_⟩
    rintro x H1 ⟨I1, env1, sx, f1, s1, k1, ox, p1⟩
    have k1' : Ok X.K κ I1 F H1 σ env1 (f1 ++ []) := by rw [List.append_nil]; exact k1
    refine ⟨I1, addF F H1 f1, env1, k1'.frame, ?_⟩
    revert p1
    unfold EM.bind
    cases evA ars env1 with
    | ok as env2 =>
      intro p1 I2 H2 xs nfp s2 k2 hR
      obtain ⟨rs, an⟩ := hR
      obtain ⟨k3, kp, s3⟩ := k1'.unframe k2 s2
      exact p1 I2 H2 _ (f1 ++ nfp) s3 k3 ⟨.new rs, .new (ox.mono s3.ext kp) an⟩
    | exc ex env2 =>
      intro p1 I2 H2 cls dd s2 k2 hE
      obtain ⟨k3, kp, s3⟩ := k1'.unframe k2 s2
      exact p1 I2 H2 cls dd s3 (by rw [List.append_nil] at k3; exact (show Ok X.K κ I2 F H2 σ env2 (f1 ++ []) by rw [List.append_nil]; exact k3).drop) hE
    | stuck => exact fun p1 => p1.elim
theorem dv_var {i : Nat} {x : Str} {ars : List AR} {p1 : Pos} (hr : PA X es (taV X.K κ W ars)) (hs : starEach (.Name x p1 :: es) X.env = (false, eval (.Name x p1) X.env) :: starEach es X.env := by rfl) (hN : X.N[i]? = some x := by rfl) (hv : Vis X.env.scope x := by first | exact Or.inl rfl | exact Or.inr (Or.inl rfl) | exact Or.inr (Or.inr rfl)) (hd : (x == ("__debug__" : Str)) = false := by decide)
    (hcd : (x == ("__classdict__" : Str)) = false := by decide) : PA X (.Name x p1 :: es) (taV X.K κ W (.var i :: ars)) :=
  pa_imp (pa_cons (pe_var hN hv hd hcd) hr hs) fun σ H Q h => by
    obtain ⟨I, F, env, k, p⟩ := h
    simp only [evA] at p
    split at p
    · rename_i y hy
      obtain ⟨v, f1, h1, h2⟩ := k.at_ hy
      refine ⟨v, h1, I, F, env, k, Post.mono (p.bind (R := RAV X.K κ σ)) ?_⟩
      rintro xs H2 ⟨I2, env2, ds, nfp, s2, k2, ⟨rs, an⟩, p2⟩
      exact p2 I2 H2 _ nfp (Step.refl F I2) k2 ⟨.var h1 rs, .var an⟩
    · exact p.elim
theorem dv_fld {c i : Nat} {f x : Str} {p1 : Pos} (hc : Cls X.K (κ c)) (hn : NoAttr X.K (κ c) f) (hN : X.N[i]? = some x := by rfl) (hv : Vis X.env.scope x := by first | exact Or.inl rfl | exact Or.inr (Or.inl rfl) | exact Or.inr (Or.inr rfl)) (hd : (x == ("__debug__" : Str)) = false := by decide)
    (hcd : (x == ("__classdict__" : Str)) = false := by decide) (hb : attributeBase (.Name x p1) f X.env (eval (.Name x p1) X.env) = eval (.Name x p1) X.env := by rfl) (hs : starEach [.Attribute (.Name x p1) f pos] X.env = (false, eval (.Attribute (.Name x p1) f pos) X.env) :: starEach [] X.env := by rfl) : PA X [.Attribute (.Name x p1) f pos] (taV X.K κ W [.fld c i f]) :=
  pa_imp (pa_cons (pe_fld (pe_var hN hv hd hcd) hb) pa_nil hs) fun σ H Q h => by
    obtain ⟨I, F, env, k, p⟩ := h
    simp only [evA] at p
    split at p
    · rename_i c' gs hy
      split at p
      · rename_i hcc
        subst hcc
        split at p
        · rename_i l hl
          obtain ⟨v, f1, h1, h2⟩ := k.at_ hy
          cases h2 with
          | own m =>
            cases m with
            | ins ho r1 =>
              obtain ⟨w, f2, hw, ow, hm2⟩ := r1.lookup hl
              exact ⟨_, h1, _, _, _, _, w, rfl, ho, hc, hn, hw, p I H _ [] (Step.refl F I) k ⟨.fld h1 ho hw, .fld⟩⟩
        · exact p.elim
      · exact p.elim
    · exact p.elim
/-- the callee's end and the caller's going on -/
theorem call_end {K : PySem.W.Frag} {I F H : Hp} {σ : L2.St} {env : Slots} {vs : List V} {avs : List AV} {Φ : List SV → RE SV} {Q : VK} {E : XK} {fn : List Addr} (k : Ok K κ I F H σ env fn) (ra : AvR K κ I H σ vs avs) (an : AvN K κ I H vs avs fn)
    (p : Post K κ (RS K κ) W I F σ Q (match takeA avs env with
      | none => .stuck
      | some (args, env1) => match Φ args with
        | .ok sv outs => match putA avs outs env1 with
          | some env2 => .ok sv env2
          | none => .stuck
        | .exc e outs => match putA avs outs env1 with
          | some env2 => .exc e env2
          | none => .stuck
        | .stuck => .stuck)) (hE : ∀ cls dd H', W cls dd σ H' → E cls dd H') : spD K κ Φ vs H Q E := by
  cases ht : takeA avs env with
  | none => rw [ht] at p; exact p.elim
  | some q =>
    obtain ⟨args, env1⟩ := q
    rw [ht] at p
    simp only at p
    obtain ⟨fa, e1, k1⟩ := takeA_ok (nfp := []) ra an (by rw [List.append_nil]; exact k) ht
    obtain ⟨fr, er, rr⟩ := k1.ex
    rw [List.append_nil] at rr
    have rr2 : Rel I F H (fr ++ fa) := rr.perm List.perm_append_comm
    refine ⟨I, addF F H fr, args, ⟨fa, e1, rr2.frame⟩, ?_⟩
    have stay : ∀ {H' : Hp}, (∀ a ∈ fr, H' a = H a) → ∀ (i : Nat) (f : Str), AV.fld i f ∈ avs → ∀ (a C dx : Addr) (fs : List (Str × V)), σ[i]? = some (some (.ref a)) → H a = some (.ins C dx fs) → H' a = H a := by
      intro H' kp i f m a C dx fs h1 _
      obtain ⟨c, gs, hg⟩ := takeA_fld ra ht m
      obtain ⟨v, f1, h3, h4, h5⟩ := er.at_ hg
      rw [h1] at h3
      cases h3
      cases h4 with
      | own h4 =>
        cases h4 with
        | ins _ _ => exact kp a (h5 a (by simp))
    revert p
    cases Φ args with
    | ok sv os =>
      intro p I' H' v nfp s' k' ow
      simp only at p
      cases hp : putA avs os env1 with
      | none => rw [hp] at p; exact p.elim
      | some env2 =>
        rw [hp] at p
        obtain ⟨fo, eo, ro⟩ := k'.ex
        obtain ⟨r3, kp, s3⟩ := rr2.unframe ro s'
        have er' := er.mono (K := K) (κ := κ) (H' := H') s3.ext kp
        have k4 : Ok K κ I' F H' σ env1 (fo ++ nfp) := ⟨fr, er', r3.perm (by
          refine List.perm_append_comm.trans ?_
          exact (List.perm_append_comm (l₁ := nfp) (l₂ := fo)).append_right fr)⟩
        exact p I' H' v nfp s3 (putA_ok (ra.mono s3.ext) (stay kp) eo k4 hp) ow
    | exc e os =>
      intro p I' H' cls dd s' k' ex
      simp only at p
      cases hp : putA avs os env1 with
      | none => rw [hp] at p; exact p.elim
      | some env2 =>
        rw [hp] at p
        obtain ⟨fo, eo, ro⟩ := k'.ex
        obtain ⟨r3, kp, s3⟩ := rr2.unframe ro s'
        have er' := er.mono (K := K) (κ := κ) (H' := H') s3.ext kp
        have k4 : Ok K κ I' F H' σ env1 (fo ++ []) := ⟨fr, er', r3.perm (by
          refine List.perm_append_comm.trans ?_
          rw [List.nil_append, List.append_nil])⟩
        exact hE _ _ _ (p I' H' cls dd s3 (putA_ok (ra.mono s3.ext) (stay kp) eo k4 hp) ex)
    | stuck => exact fun p => p
/-- a def's mirror at some level -/
abbrev FnD (X : Cx) (κ : Nat → Addr) (k : Nat) (f : Addr) (fd : FuncData) (ps : List Str) (Φ : List SV → RE SV) : Prop := FnOk X.prog X.w X.K X.mg X.base (L2.CX X.prog X.w) k f fd ps (spD X.K κ Φ)
theorem de_call {Φ : List SV → RE SV} {ars : List AR} {k : Nat} {f : Addr} {fd : FuncData} {ps : List Str} {x : Str} {p : Pos} (G : FnD X κ k f fd ps Φ) (hr : Room k X.A) (hm : X.mg x = some (.ref f)) (hk : PySem.W.keepIn X.K (.ref f) = true) (hb : Binds X.K fd ps []) (tk : Takes X W)
    (ha : PA X (e :: es) (taV X.K κ W ars)) (hg : Gl X x := by rfl) (hdb : (x == ("__debug__" : Str)) = false := by decide) (he : starEach (e :: es) X.env = (false, eval e X.env) :: starEach es X.env := by rfl) (hpl : (backTo pos (starEach es X.env)).any (·.1) = false := by rfl) : PE X (.Call (.Name x p) (e :: es) [] pos) (teS X.K κ W (callD Φ ars)) := by
  refine pe_imp (pe_callSD (dvs := []) G hr hg hm hk hb .nil (fun σ => passAt tk σ) ha hdb he hpl) fun σ H Q h => ?_
  obtain ⟨I, F, env, k, p⟩ := h
  refine ⟨I, F, env, k, Post.mono (Post.bind (R := RAV X.K κ σ) p) ?_⟩
  rintro vs H1 ⟨I1, env1, avs, nfp, s1, k1, ⟨ra, an⟩, p1⟩
  rw [List.append_nil]
  exact call_end k1 ra an p1 fun _ _ _ h => h
/-- o.m(..), o a slot: its own instance, or data -/
theorem pe_methS {E : L2.St → XK} {pl : Sem Bool} {o : PySem.Expr} {m : Str} {apos : Pos} {C f : Addr} {k : Nat} {fd : FuncData} {ps : List Str} {sp : Sp} {ta : TE} {t : TA} (he : PE X o ta) (c : Cls X.K C) (hm : Meth X.K C m f) (G : FnOk X.prog X.w X.K X.mg X.base (L2.CX X.prog X.w) k f fd ps sp) (hr : Room k X.A) (hb : Binds X.K fd ps []) (hx : ∀ σ, PassesAt (L2.CX X.prog X.w) X σ (E σ)) (ha : PA X (e :: es) t)
    (hst : starEach (e :: es) X.env = (false, eval e X.env) :: starEach es X.env := by rfl) (hpl : (backTo pos (starEach es X.env)).any (·.1) = false := by rfl)
    (ht : eval (.Call (.Attribute o m apos) (e :: es) [] pos) X.env = (do
      let r ← eval o X.env
      standAt apos.atName
      let (g, first) ← holding [r] (getMethod r m pl)
      callWith pos g first (backTo pos (starEach (e :: es) X.env)) (backToKw pos (keywordEach [] X.env))) := by rfl) :
    PE X (.Call (.Attribute o m apos) (e :: es) [] pos) (fun σ H Q => ta σ H fun x H1 => ∃ a dx fs, x = .ref a ∧ H1 a = some (.ins C dx fs) ∧ fs.lookup m = none ∧ t σ H1 fun vs H2 => sp (x :: vs) H2 Q (E σ)) := by
  constructor
  intro pins s σ H Q I h
  refine PySem.W.methodCall_KW (pl := pl) (thn (he.run pins s σ H _ I h) ?_) ht
  rintro u s1 ⟨x, H1, I1, rx, a, dx, fs, rfl, ea, l, q⟩
  have eu : u = Value.ref a := rx
  subst eu
  refine getmeth_ok I1 ea c hm l (PySem.W.callWith_K (first := [.ref a]) (h₀ := X.base) I.ok.mod.kin hm.kp (thn (ha.run pos pins s1 σ H1 _ I1 q) ?_) hst hpl)
  rintro us s2 ⟨vs, H2, I2, r, q2⟩
  refine ⟨I2.kIn, run_fnSD (us := .ref a :: us) (vs := .ref a :: vs) (dvs := []) (ds := []) G hr hb .nil (hx σ) I2 (.cons rfl r) ?_⟩
  rw [List.append_nil]
  exact q2
theorem pe_methS0 {E : L2.St → XK} {pl : Sem Bool} {o : PySem.Expr} {m : Str} {apos : Pos} {C f : Addr} {k : Nat} {fd : FuncData} {ps : List Str} {sp : Sp} {ta : TE} (he : PE X o ta) (c : Cls X.K C) (hm : Meth X.K C m f) (G : FnOk X.prog X.w X.K X.mg X.base (L2.CX X.prog X.w) k f fd ps sp) (hr : Room k X.A) (hb : Binds X.K fd ps []) (hx : ∀ σ, PassesAt (L2.CX X.prog X.w) X σ (E σ))
    (ht : eval (.Call (.Attribute o m apos) [] [] pos) X.env = (do
      let r ← eval o X.env
      standAt apos.atName
      let (g, first) ← holding [r] (getMethod r m pl)
      callWith pos g first (backTo pos (starEach [] X.env)) (backToKw pos (keywordEach [] X.env))) := by rfl) :
    PE X (.Call (.Attribute o m apos) [] [] pos) (fun σ H Q => ta σ H fun x H1 => ∃ a dx fs, x = .ref a ∧ H1 a = some (.ins C dx fs) ∧ fs.lookup m = none ∧ sp [x] H1 Q (E σ)) := by
  constructor
  intro pins s σ H Q I h
  refine PySem.W.methodCall_KW (pl := pl) (thn (he.run pins s σ H _ I h) ?_) ht
  rintro u s1 ⟨x, H1, I1, rx, a, dx, fs, rfl, ea, l, q⟩
  have eu : u = Value.ref a := rx
  subst eu
  refine getmeth_ok I1 ea c hm l (PySem.W.callWith_K0 (first := [.ref a]) I1.kIn hm.kp ?_)
  exact run_fnSD (us := [.ref a]) (vs := [.ref a]) (dvs := []) (ds := []) G hr hb .nil (hx σ) I1 (.cons rfl .nil) q
end
end DL

/-! DL12: methods, instances made, the rule of a def -/
namespace DL
open PySem L2
/-- o.m(..), o a slot -/
def methV (c : Nat) (m : Str) (i : Nat) (Φ : List SV → RE SV) (ars : List AR) : EM SV := fun env => match env[i]? with
  | some (some (.own (.ins c' gs))) => if c' = c ∧ gs.lookup m = none then callD Φ (.var i :: ars) env else .stuck
  | some (some (.dat (.obj c' gs))) => if c' = c ∧ gs.lookup m = none then callD Φ (.dat (eC (.obj c' gs)) :: ars) env else .stuck
  | _ => .stuck
/-- e.m(..), e data -/
def methE (c : Nat) (m : Str) (f : EM D) (Φ : List SV → RE SV) (ars : List AR) : EM SV := f.bind fun d => match d with
  | .obj c' gs => if c' = c ∧ gs.lookup m = none then callD Φ (.dat (eC d) :: ars) else fun _ => .stuck
  | _ => fun _ => .stuck
/-- .. of one of two classes -/
def methE2 (c c2 : Nat) (m : Str) (f : EM D) (Φ Φ2 : List SV → RE SV) (ars : List AR) : EM SV := f.bind fun d => match d with
  | .obj c' gs => if c' = c ∧ gs.lookup m = none then callD Φ (.dat (eC d) :: ars) else if c' = c2 ∧ gs.lookup m = none then callD Φ2 (.dat (eC d) :: ars) else fun _ => .stuck
  | _ => fun _ => .stuck
def newEnd (Φ : List SV → RE SV) (avs : List AV) (c : Nat) : EM SV := fun env => match takeA avs env with
  | none => .stuck
  | some (args, env1) => match Φ (.own (.ins c []) :: args) with
    | .ok (.dat .non) (some m :: outs) => match putA avs outs env1 with
      | some env2 => .ok m env2
      | none => .stuck
    | .exc e (_ :: outs) => match putA avs outs env1 with
      | some env2 => .exc e env2
      | none => .stuck
    | _ => .stuck
/-- C(..) -/
def newD (c : Nat) (Φ : List SV → RE SV) (ars : List AR) : EM SV := (evA ars).bind fun avs => newEnd Φ avs c
theorem EM.pure_bind {α β : Type} (a : α) (g : α → EM β) : (EM.pure a).bind g = g a := rfl
section
variable {K : PySem.W.Frag} {κ : Nat → Addr} {I I' F H H' : Hp} {σ : L2.St} {env : Slots} {W : WX}
theorem Ok.ghost {nfp : List Addr} {p : Addr} {o : HO} (k : Ok K κ I F H σ env nfp) (hp : H p = none) : Ok K κ I F (upd H p o) σ env nfp := by
  have k1 : Ok K κ I F (upd H p o) σ env ([p] ++ nfp) := k.newO hp
  exact k1.drop
theorem make_end {vs : List V} {avs : List AV} {Φ : List SV → RE SV} {Q : VK} {E : XK} {c : Nat} {fn : List Addr} (k : Ok K κ I F H σ env fn) (ra : AvR K κ I H σ vs avs) (an : AvN K κ I H vs avs fn)
    (p : Post K κ (RS K κ) W I F σ Q (newEnd Φ avs c env)) (hE : ∀ cls dd H', W cls dd σ H' → E cls dd H') (x dx : Addr) (hx : H x = none) (hd : H dx = none) (ne : dx ≠ x) :
    spD K κ Φ (.ref x :: vs) (upd (upd H dx (.own x)) x (.ins (κ c) dx [])) (fun v H2 => v = .non ∧ Q (.ref x) H2) E := by
  unfold newEnd at p
  have k0 : Ok K κ I F (upd H dx (.own x)) σ env fn := k.ghost hd
  have hx2 : (upd H dx (.own x)) x = none := by rw [upd_ne (Ne.symm ne)]; exact hx
  have k2 : Ok K κ I F (upd (upd H dx (.own x)) x (.ins (κ c) dx [])) σ env (x :: fn) := k0.newO hx2
  have an2 : AvN K κ I (upd (upd H dx (.own x)) x (.ins (κ c) dx [])) vs avs fn := by
    refine an.mono (Same.refl I) fun a m => ?_
    obtain ⟨fp, _, r⟩ := k.ex
    have ht := r.tr a (List.mem_append_left _ m)
    rw [upd_ne (fun z => ht (by rw [z]; exact hx)), upd_ne (fun z => ht (by rw [z]; exact hd))]
  have ra2 : AvR K κ I (upd (upd H dx (.own x)) x (.ins (κ c) dx [])) σ vs avs := by
    have keep : ∀ a o, H a = some o → (upd (upd H dx (.own x)) x (.ins (κ c) dx [])) a = some o := fun a o h => by
      rw [upd_ne (ne_of_none h hx), upd_ne (ne_of_none h hd)]; exact h
    clear p k k0 k2 hE an an2
    induction ra with
    | nil => exact .nil
    | dat h _ ih => exact .dat h ih
    | var h _ ih => exact .var h ih
    | new _ ih => exact .new ih
    | fld h1 h2 h3 => exact .fld h1 (keep _ _ h2) h3
  generalize hH2 : upd (upd H dx (.own x)) x (.ins (κ c) dx []) = H2 at *
  have atx : H2 x = some (.ins (κ c) dx []) := by rw [← hH2]; exact upd_same
  cases ht : takeA avs env with
  | none => rw [ht] at p; exact p.elim
  | some q =>
    obtain ⟨args, env1⟩ := q
    rw [ht] at p
    simp only at p
    have k2' : Ok K κ I F H2 σ env (fn ++ [x]) := k2.perm (List.perm_append_comm (l₁ := [x]) (l₂ := fn))
    obtain ⟨fa, e1, k1⟩ := takeA_ok (nfp := [x]) ra2 an2 k2' ht
    obtain ⟨fr, er, rr⟩ := k1.ex
    have rr2 : Rel I F H2 (fr ++ ([x] ++ fa)) := rr.perm (by
      refine List.perm_append_comm.trans ?_
      exact (List.perm_append_comm (l₁ := fa) (l₂ := [x])).append_left fr)
    refine ⟨I, addF F H2 fr, .own (.ins c []) :: args, ⟨[x] ++ fa, .so (.own (.ins atx .nil)) e1, rr2.frame⟩, ?_⟩
    have stay : ∀ {H' : Hp}, (∀ a ∈ fr, H' a = H2 a) → ∀ (i : Nat) (f : Str), AV.fld i f ∈ avs → ∀ (a C dx : Addr) (fs : List (Str × V)), σ[i]? = some (some (.ref a)) → H2 a = some (.ins C dx fs) → H' a = H2 a := by
      intro H' kp i f m a C dx fs h1 _
      obtain ⟨c, gs, hg⟩ := takeA_fld ra2 ht m
      obtain ⟨v, f1, h3, h4, h5⟩ := er.at_ hg
      rw [h1] at h3
      cases h3
      cases h4 with
      | own h4 =>
        cases h4 with
        | ins _ _ => exact kp a (h5 a (by simp))
    revert p
    cases Φ (.own (.ins c []) :: args) with
    | ok sv os =>
      intro p I' H' v nfp s' k' ow
      cases sv with
      | own m => exact p.elim
      | dat d =>
        cases d with
        | non =>
          cases os with
          | nil => exact p.elim
          | cons o os =>
            cases o with
            | none => exact p.elim
            | some m =>
              simp only at p
              cases hp : putA avs os env1 with
              | none => rw [hp] at p; exact p.elim
              | some env2 =>
                rw [hp] at p
                cases ow with
                | dat rv =>
                  cases rv
                  refine ⟨rfl, ?_⟩
                  obtain ⟨fo, eo, ro⟩ := k'.ex
                  cases eo with
                  | so om eo =>
                    rename_i fm fo
                    rw [List.nil_append] at ro
                    obtain ⟨r3, kp, s3⟩ := rr2.unframe ro s'
                    have er' := er.mono (K := K) (κ := κ) (H' := H') s3.ext kp
                    have k4 : Ok K κ I' F H' σ env1 (fo ++ fm) := ⟨fr, er', r3.perm (by
                      refine List.perm_append_comm.trans ?_
                      exact (List.perm_append_comm (l₁ := fm) (l₂ := fo)).append_right fr)⟩
                    exact p I' H' (.ref x) fm s3 (putA_ok (ra2.mono s3.ext) (stay kp) eo k4 hp) om
        | _ => exact p.elim
    | exc e os =>
      intro p I' H' cls dd s' k' ex
      cases os with
      | nil => exact p.elim
      | cons o os =>
        simp only at p
        cases hp : putA avs os env1 with
        | none => rw [hp] at p; exact p.elim
        | some env2 =>
          rw [hp] at p
          obtain ⟨fo, eo, ro⟩ := k'.ex
          obtain ⟨r3, kp, s3⟩ := rr2.unframe ro s'
          have er' := er.mono (K := K) (κ := κ) (H' := H') s3.ext kp
          rw [List.nil_append] at r3
          have fin : ∃ fm fo2, EnvR K κ I' H' (vs.map some) os fo2 ∧ fo = fm ++ fo2 := by
            cases eo with
            | no eo => exact ⟨[], fo, eo, rfl⟩
            | so _ eo => exact ⟨_, _, eo, rfl⟩
          obtain ⟨fm, fo2, eo2, rfl⟩ := fin
          have k4 : Ok K κ I' F H' σ env1 (fm ++ (fo2 ++ [])) := ⟨fr, er', r3.perm (by
            refine List.perm_append_comm.trans ?_
            rw [List.append_nil])⟩
          exact hE _ _ _ (p I' H' cls dd s3 (putA_ok (ra2.mono s3.ext) (stay kp) eo2 k4.drop hp) ex)
    | stuck => exact fun p => p.elim
end
section
variable {X : Cx} {κ : Nat → Addr} {W : WX} {P : List Nat} {e a b : PySem.Expr} {pos : Pos} {es : List PySem.Expr}
theorem call_var {Φ : List SV → RE SV} {i : Nat} {ars : List AR} {I F H : Hp} {σ : L2.St} {env : Slots} {v : V} {x : SV} {Q : VK} {E : XK} {t : TA} (ht : ∀ σ H Q, taV X.K κ W ars σ H Q → t σ H Q) (k : Ok X.K κ I F H σ env []) (hv : σ[i]? = some (some v)) (hx : env[i]? = some (some x)) (hE : ∀ cls dd H', W cls dd σ H' → E cls dd H')
    (p : Post X.K κ (RS X.K κ) W I F σ Q (callD Φ (.var i :: ars) env)) : t σ H fun vs H2 => spD X.K κ Φ (v :: vs) H2 Q E := by
  unfold callD at p
  have e1 : evA (.var i :: ars) env = ((evA ars).bind fun as => EM.pure (.var i :: as)) env := by simp only [evA, hx]
  rw [show ∀ g : List AV → EM SV, ((evA (.var i :: ars)).bind g) env = (((evA ars).bind fun as => EM.pure (.var i :: as)).bind g) env from fun g => by unfold EM.bind at *; rw [e1], EM.assoc] at p
  refine ht _ _ _ ⟨I, F, env, k, Post.mono (Post.bind (R := RAV X.K κ σ) p) ?_⟩
  rintro vs H1 ⟨I1, env1, avs, nfp, s1, k1, ⟨ra, an⟩, p1⟩
  exact call_end k1 (.var hv ra) (.var an) p1 hE
theorem call_dat {Φ : List SV → RE SV} {d : D} {ars : List AR} {I F H : Hp} {σ : L2.St} {env : Slots} {v : V} {Q : VK} {E : XK} {t : TA} (ht : ∀ σ H Q, taV X.K κ W ars σ H Q → t σ H Q) (k : Ok X.K κ I F H σ env []) (hv : Rp X.K κ I v d) (hE : ∀ cls dd H', W cls dd σ H' → E cls dd H')
    (p : Post X.K κ (RS X.K κ) W I F σ Q (callD Φ (.dat (eC d) :: ars) env)) : t σ H fun vs H2 => spD X.K κ Φ (v :: vs) H2 Q E := by
  unfold callD at p
  have e1 : evA (.dat (eC d) :: ars) = (evA ars).bind fun as => EM.pure (.dat d :: as) := rfl
  rw [e1, EM.assoc] at p
  refine ht _ _ _ ⟨I, F, env, k, Post.mono (Post.bind (R := RAV X.K κ σ) p) ?_⟩
  rintro vs H1 ⟨I1, env1, avs, nfp, s1, k1, ⟨ra, an⟩, p1⟩
  exact call_end k1 (.dat (hv.mono s1.ext) ra) (.dat an) p1 hE
theorem methV_run {c i : Nat} {m : Str} {Φ : List SV → RE SV} {ars : List AR} {t : TA} {σ : L2.St} {H : Hp} {Q : VK} {E : L2.St → XK} (hE : ∀ σ cls dd H', W cls dd σ H' → E σ cls dd H') (ht : ∀ σ H Q, taV X.K κ W ars σ H Q → t σ H Q) (h : teS X.K κ W (methV c m i Φ ars) σ H Q) :
    tVar i σ H fun x H1 => ∃ a dx fs, x = .ref a ∧ H1 a = some (.ins (κ c) dx fs) ∧ fs.lookup m = none ∧ t σ H1 fun vs H2 => spD X.K κ Φ (x :: vs) H2 Q (E σ) := by
  obtain ⟨I, F, env, k, p⟩ := h
  unfold methV at p
  split at p
  · rename_i c' gs hx
    split at p
    · rename_i hc
      obtain ⟨rfl, hl⟩ := hc
      obtain ⟨v, f1, h1, h2⟩ := k.at_ hx
      cases h2 with
      | own h2 =>
        cases h2 with
        | ins ho of => exact ⟨_, h1, _, _, _, rfl, ho, of.lookup_none hl, call_var ht k h1 hx (hE σ) p⟩
    · exact p.elim
  · rename_i c' gs hx
    split at p
    · rename_i hc
      obtain ⟨rfl, hl⟩ := hc
      obtain ⟨v, f1, h1, h2⟩ := k.at_ hx
      cases h2 with
      | dat h2 =>
        cases h2 with
        | obj ho of => exact ⟨_, h1, _, _, _, rfl, k.ext _ _ ho, of.lookup_none hl, call_dat ht k (.obj ho of) (hE σ) p⟩
    · exact p.elim
  · exact p.elim
theorem de_methV {c i : Nat} {m : Str} {Φ : List SV → RE SV} {ars : List AR} {pl : Sem Bool} {x : Str} {p1 apos : Pos} {f : Addr} {k : Nat} {fd : FuncData} {ps : List Str} (hc : Cls X.K (κ c)) (hm : Meth X.K (κ c) m f) (G : FnD X κ k f fd ps Φ) (hr : Room k X.A) (hb : Binds X.K fd ps []) (tk : Takes X W) (ha : PA X (e :: es) (taV X.K κ W ars))
    (hN : X.N[i]? = some x := by rfl) (hv : Vis X.env.scope x := by first | exact Or.inl rfl | exact Or.inr (Or.inl rfl) | exact Or.inr (Or.inr rfl)) (hd : (x == ("__debug__" : Str)) = false := by decide) (hcd : (x == ("__classdict__" : Str)) = false := by decide)
    (hst : starEach (e :: es) X.env = (false, eval e X.env) :: starEach es X.env := by rfl) (hpl : (backTo pos (starEach es X.env)).any (·.1) = false := by rfl)
    (ht : eval (.Call (.Attribute (.Name x p1) m apos) (e :: es) [] pos) X.env = (do
      let r ← eval (.Name x p1) X.env
      standAt apos.atName
      let (g, first) ← holding [r] (getMethod r m pl)
      callWith pos g first (backTo pos (starEach (e :: es) X.env)) (backToKw pos (keywordEach [] X.env))) := by rfl) :
    PE X (.Call (.Attribute (.Name x p1) m apos) (e :: es) [] pos) (teS X.K κ W (methV c m i Φ ars)) :=
  pe_imp (pe_methS (pe_var hN hv hd hcd) hc hm G hr hb (fun σ => passAt tk σ) ha hst hpl ht) fun σ H Q h => methV_run (fun _ _ _ _ h => h) (fun _ _ _ h => h) h
theorem de_methV0 {c i : Nat} {m : Str} {Φ : List SV → RE SV} {pl : Sem Bool} {x : Str} {p1 apos : Pos} {f : Addr} {k : Nat} {fd : FuncData} {ps : List Str} (hc : Cls X.K (κ c)) (hm : Meth X.K (κ c) m f) (G : FnD X κ k f fd ps Φ) (hr : Room k X.A) (hb : Binds X.K fd ps []) (tk : Takes X W)
    (hN : X.N[i]? = some x := by rfl) (hv : Vis X.env.scope x := by first | exact Or.inl rfl | exact Or.inr (Or.inl rfl) | exact Or.inr (Or.inr rfl)) (hd : (x == ("__debug__" : Str)) = false := by decide) (hcd : (x == ("__classdict__" : Str)) = false := by decide)
    (ht : eval (.Call (.Attribute (.Name x p1) m apos) [] [] pos) X.env = (do
      let r ← eval (.Name x p1) X.env
      standAt apos.atName
      let (g, first) ← holding [r] (getMethod r m pl)
      callWith pos g first (backTo pos (starEach [] X.env)) (backToKw pos (keywordEach [] X.env))) := by rfl) :
    PE X (.Call (.Attribute (.Name x p1) m apos) [] [] pos) (teS X.K κ W (methV c m i Φ [])) :=
  pe_imp (pe_methS0 (pe_var hN hv hd hcd) hc hm G hr hb (fun σ => passAt tk σ) ht) fun σ H Q h => methV_run (t := tNil) (fun _ _ _ _ h => h) (fun σ H Q h => by
    obtain ⟨I, F, env, k, p⟩ := h
    exact p I H _ [] (Step.refl F I) k ⟨.nil, .nil⟩) h
/-- C(..) -/
theorem pe_makeS {E : L2.St → XK} {C f : Addr} {k : Nat} {fd : FuncData} {ps : List Str} {sp : Sp} {t : TA} {x : Str} {p : Pos} (M : Mk X.K C f) (G : FnOk X.prog X.w X.K X.mg X.base (L2.CX X.prog X.w) k f fd ps sp) (hr : Room (k + 1) X.A) (hg : Gl X x) (hm : X.mg x = some (.ref C)) (hb : Binds X.K fd ps []) (hx : ∀ σ, PassesAt (L2.CX X.prog X.w) X σ (E σ))
    (ha : PA X (e :: es) t) (hdb : (x == ("__debug__" : Str)) = false := by decide) (he : starEach (e :: es) X.env = (false, eval e X.env) :: starEach es X.env := by rfl) (hpl : (backTo pos (starEach es X.env)).any (·.1) = false := by rfl) :
    PE X (.Call (.Name x p) (e :: es) [] pos) (fun σ H Q => t σ H fun vs H1 => ∀ x dx, H1 x = none → H1 dx = none → dx ≠ x → sp (.ref x :: vs) (upd (upd H1 dx (.own x)) x (.ins C dx [])) (fun v H2 => v = .non ∧ Q (.ref x) H2) (E σ)) := by
  constructor
  intro pins s σ H Q I h
  refine wpAny_Call_Name_kw (ld_glob I hg hm (PySem.W.callWith_K (h₀ := X.base) I.ok.mod.kin M.kp (thn (ha.run pos pins s σ H _ I h) ?_) he hpl) hdb)
  rintro us s1 ⟨vs, H1, I1, r, q⟩
  refine ⟨I1.kIn, ?_⟩
  have new := q (s1.heap.objs.size + 1) s1.heap.objs.size (I1.hok.fresh (Nat.le_succ _)) (I1.hok.fresh (Nat.le_refl _)) (Nat.ne_of_lt (Nat.lt_succ_self _))
  have J := Inv.made (C := C) I1
  have rr : Vals (V.ref (s1.heap.objs.size + 1) :: vs) (Value.ref (s1.heap.objs.size + 1) :: us) := .cons rfl r
  have hl : ((Value.ref (s1.heap.objs.size + 1) :: us) ++ []).length = ps.length := by
    rw [List.append_nil, ← rr.length]
    exact G.len _ _ _ _ new
  have bb := hb _ (Value.ref (s1.heap.objs.size + 1) :: us) J.kIn hl
  rw [List.append_nil] at bb
  refine wpAny_call (make_map (f := f) I1.kIn M.makes M.init (beq_iff_eq.mp M.fn) (codeAny_mono (G.run _ X.stack _ _ _ _ _ _ (E σ) (hr.make C us []) (J.env0.make C us []) bb rr new) ?_))
  intro res s' hq
  cases res with
  | error e => exact hx σ pins _ _ e s' J hq
  | ok fl =>
    cases fl with
    | ret u =>
      obtain ⟨v, H', I3, rv, ev, q3⟩ := J.after hq
      subst ev
      exact ⟨rv, V.ref (s1.heap.objs.size + 1), H', I3, rfl, q3⟩
    | next => exact False.elim hq
    | brk => exact False.elim hq
    | cont => exact False.elim hq
theorem de_new {c : Nat} {Φ : List SV → RE SV} {ars : List AR} {k : Nat} {f : Addr} {fd : FuncData} {ps : List Str} {x : Str} {p : Pos} (M : Mk X.K (κ c) f) (G : FnD X κ k f fd ps Φ) (hr : Room (k + 1) X.A) (hm : X.mg x = some (.ref (κ c))) (hb : Binds X.K fd ps []) (tk : Takes X W)
    (ha : PA X (e :: es) (taV X.K κ W ars)) (hg : Gl X x := by rfl) (hdb : (x == ("__debug__" : Str)) = false := by decide) (he : starEach (e :: es) X.env = (false, eval e X.env) :: starEach es X.env := by rfl) (hpl : (backTo pos (starEach es X.env)).any (·.1) = false := by rfl) :
    PE X (.Call (.Name x p) (e :: es) [] pos) (teS X.K κ W (newD c Φ ars)) := by
  refine pe_imp (pe_makeS M G hr hg hm hb (fun σ => passAt tk σ) ha hdb he hpl) fun σ H Q h => ?_
  obtain ⟨I, F, env, k, p⟩ := h
  refine ⟨I, F, env, k, Post.mono (Post.bind (R := RAV X.K κ σ) p) ?_⟩
  rintro vs H1 ⟨I1, env1, avs, nfp, s1, k1, ⟨ra, an⟩, p1⟩
  exact fun x dx hx hd ne => make_end k1 ra an p1 (fun _ _ _ h => h) x dx hx hd ne
/-- a value that must be data -/
def asD (f : EM SV) : EM D := f.bind fun sv => match sv with
  | .dat d => EM.pure d
  | .own m => EM.pure m.view
theorem de_asD {f : EM SV} (h : PE X e (teS X.K κ W f)) : PE X e (teD X.K κ W (asD f)) := pe_imp h fun σ H Q h => by
  obtain ⟨I, F, env, k, p⟩ := h
  refine ⟨I, F, env, k, Post.mono (Post.bind (R := RS X.K κ) p) ?_⟩
  rintro v H1 ⟨I1, env1, sv, nfp, s1, k1, r, p1⟩
  cases r with
  | dat r => exact p1 I1 H1 v [] (Step.refl F I1) k1 ⟨r, rfl⟩
  | own r =>
    have k1' : Ok X.K κ I1 F H1 σ env1 (nfp ++ []) := by rw [List.append_nil]; exact k1
    obtain ⟨k2, s2⟩ := k1'.freeze
    exact p1 _ H1 v [] s2 k2 ⟨r.viewed s2.ext fun a h => frz_at h, rfl⟩
end
/-! ### the rule of a def -/
section
variable {K : PySem.W.Frag} {κ : Nat → Addr} {I I' F H H' : Hp}
theorem EnvR.outs : ∀ {modes : List Bool} {σ : List (Option V)} {env : Slots} {fp : List Addr}, EnvR K κ I H σ env fp → modes.length ≤ env.length → ∃ f1 f2, EnvR K κ I H (σ.take modes.length) (DL.outs modes env) f1 ∧ (f2 ++ f1).Perm fp
  | [], σ, env, fp, r, _ => ⟨[], fp, by simpa [DL.outs] using EnvR.nil, by simp⟩
  | m :: ms, _, _, _, .nil, h => by simp at h
  | m :: ms, _, _, _, .no r, h => by
    obtain ⟨f1, f2, h1, h2⟩ := r.outs (modes := ms) (by simpa using h)
    exact ⟨f1, f2, by simpa [DL.outs] using EnvR.no h1, h2⟩
  | m :: ms, _, _, _, .so (fp := g1) (fq := g2) g r, h => by
    obtain ⟨f1, f2, h1, h2⟩ := r.outs (modes := ms) (by simpa using h)
    cases m with
    | true =>
      exact ⟨g1 ++ f1, f2, by simpa [DL.outs] using EnvR.so g h1, (List.perm_append_comm_assoc f2 g1 f1).trans (h2.append_left g1)⟩
    | false =>
      exact ⟨f1, g1 ++ f2, by simpa [DL.outs] using EnvR.no h1, by rw [List.append_assoc]; exact h2.append_left g1⟩
theorem outs_get {modes : List Bool} {env : Slots} {i : Nat} {y : SV} (h : (DL.outs modes env)[i]? = some (some y)) : modes[i]? = some true := by
  unfold DL.outs at h
  rw [List.getElem?_zipWith] at h
  cases hm : modes[i]? with
  | none => rw [hm] at h; simp at h
  | some m =>
    rw [hm] at h
    cases he : env[i]? with
    | none => rw [he] at h; simp at h
    | some s =>
      rw [he] at h
      cases m with
      | true => rfl
      | false => simp at h
theorem EnvR.pad : ∀ {σ : List (Option V)} {env : Slots} {fp : List Addr} (n : Nat), EnvR K κ I H σ env fp → EnvR K κ I H (σ ++ List.replicate n none) (env ++ List.replicate n none) fp
  | _, _, _, 0, .nil => by simpa using EnvR.nil
  | _, _, _, n + 1, .nil => by
    have := EnvR.pad n (EnvR.nil (K := K) (κ := κ) (I := I) (H := H))
    simpa [List.replicate_succ] using EnvR.no (x := none) this
  | _, _, _, n, .no r => by simpa using EnvR.no (r.pad n)
  | _, _, _, n, .so g r => by simpa using EnvR.so g (r.pad n)
end
section
variable {P : Program} {w : World} {K : PySem.W.Frag} {mg : Str → Option Value} {base : Heap} {κ : Nat → Addr}
/-- what of the slots' ends goes back -/
theorem Ok.outs {I' F H' : Hp} {σ' : L2.St} {env' : Slots} {nfp : List Addr} {vs : List V} {N : List Str} {modes : List Bool} {pin : List Nat} (k : Ok K κ I' F H' σ' env' nfp) (hl : vs.length = modes.length) (hN : modes.length ≤ N.length) (hs : σ'.length = N.length) (hp : ∀ i, modes[i]? = some true → i ∈ pin) (pn : Pin pin (L2.start N vs) σ') :
    Ok K κ I' F H' (vs.map some) (DL.outs modes env') nfp := by
  obtain ⟨fp, e, r⟩ := k.ex
  have hle : modes.length ≤ env'.length := by rw [← e.length, hs]; exact hN
  obtain ⟨f1, f2, h1, h2⟩ := e.outs hle
  refine ⟨f1, ?_, ?_⟩
  · refine h1.swap (by rw [List.length_map, List.length_take, hl, hs]; omega) fun i y q => ?_
    have hi := hp i (outs_get q)
    have hm : i < modes.length := (List.getElem?_eq_some_iff.mp (outs_get q)).1
    rw [List.getElem?_take_of_lt hm, pn.at_ i hi]
    unfold L2.start
    rw [List.getElem?_append_left (by rw [List.length_map]; omega)]
  · have := r.perm ((h2.symm.append_left nfp).trans (List.perm_append_comm_assoc nfp f2 f1))
    exact this.sub
/-- THE RULE of a def: its body's mirror is its own -/
theorem fn_ok {x qual : Str} {st : PySem.Stmt} {f : Addr} {fd : FuncData} {N ps : List Str} {k : Nat} {modes : List Bool} {body : SM} (pin : List Nat) (G : Fun K x qual st f fd) (S : FnScope N ps (defScope st)) (hm : modes.length = ps.length := by rfl) (hN : ps.length ≤ N.length := by decide)
    (hp : ∀ i, modes[i]? = some true → i ∈ pin)
    (hb : ∀ (cdv : Value) (A : Around) (outer : List Env) (s : Shared) (H : Hp) (E : XK), Room k (A.deeper (PyProof.Rows.envOfC qual (defScope st) s.heap.objs.size f cdv)) → Takes (cxOf (L2.CX P w) P w K mg base N qual (defScope st) f cdv A outer s H E) (fun cls d _ H => E cls d H) →
      PassesOwn (model P w) (A.deeper (PyProof.Rows.envOfC qual (defScope st) s.heap.objs.size f cdv)) (PyProof.Rows.envOfC qual (defScope st) s.heap.objs.size f cdv) (cxOf (L2.CX P w) P w K mg base N qual (defScope st) f cdv A outer s H E).xe →
      PSs (cxOf (L2.CX P w) P w K mg base N qual (defScope st) f cdv A outer s H E) (defBody st) (tsD K κ (fun cls d _ H => E cls d H) pin body)) :
    FnOk P w K mg base (L2.CX P w) (k + 1) f fd ps (spD K κ (fnD modes N.length body)) := by
  have lenOf : ∀ vs H Q E, spD K κ (fnD modes N.length body) vs H Q E → vs.length = ps.length := by
    rintro vs H Q E ⟨I, F, args, ko, p⟩
    have h1 := ko.len
    simp only [List.length_map] at h1
    by_cases h2 : args.length = modes.length
    · omega
    · unfold fnD at p
      rw [if_neg h2] at p
      exact p.elim
  refine G.okX S lenOf fun cdv A outer s H vs Q E hr h => ⟨_, hb cdv A outer s H E hr (takes_of rfl rfl rfl rfl) (passes_of rfl), ?_⟩
  have hvl := lenOf vs H Q E h
  obtain ⟨I, F, args, ko, p⟩ := h
  have hal := ko.len
  simp only [List.length_map] at hal
  unfold fnD at p
  have hargs : args.length = modes.length := by omega
  rw [if_pos hargs] at p
  obtain ⟨fp, e, rr⟩ := ko.ex
  have k0 : Ok K κ I F H (L2.start N vs) (args.map some ++ List.replicate (N.length - args.length) none) [] := by
    refine ⟨fp, ?_, rr⟩
    unfold L2.start
    rw [hal]
    exact e.pad _
  refine ⟨I, F, _, k0, ?_⟩
  have slen : (L2.start N vs).length = N.length := by
    unfold L2.start
    rw [List.length_append, List.length_map, List.length_replicate]
    omega
  have hml : vs.length = modes.length := by omega
  have hmN : modes.length ≤ N.length := by omega
  revert p
  cases body (args.map some ++ List.replicate (N.length - args.length) none) with
  | ok fl env' =>
    cases fl with
    | nx => exact fun p I' H' σ' s' pn k' => p I' H' .non [] s' (k'.outs hml hmN (pn.len.trans slen) hp pn) (.dat .non)
    | rt sv => exact fun p I' H' σ' s' pn v nfp k' ow => p I' H' v nfp s' (k'.outs hml hmN (pn.len.trans slen) hp pn) ow
    | bk => exact fun p => p.elim
    | ct => exact fun p => p.elim
  | exc e env' => exact fun p I' H' σ' cls dd s' pn k' ex => p I' H' cls dd s' (k'.outs hml hmN (pn.len.trans slen) hp pn) ex
  | stuck => exact fun p => p.elim
end
end DL

/-! DL13: owned things changed -/
namespace DL
open PySem L2
def putFV (f : Str) (v : FV) : List (Str × FV) → List (Str × FV)
  | [] => [(f, v)]
  | (g, x) :: r => if g = f then (g, v) :: r else (g, x) :: putFV f v r
def toFV : SV → Option FV
  | .dat d => some (.dat d)
  | .own (.lf l) => some (.own l)
  | _ => none
def isLst (env : Slots) (i : Nat) : Bool := match env[i]? with
  | some (some (.own (.lf (.lst _)))) => true
  | _ => false
/-- x.append(e), x.extend(e) -/
def sApp (i : Nat) (f : EM D) : SM := fun env => if isLst env i then (f.bind fun d env => match env[i]? with
  | some (some (.own (.lf (.lst ds)))) => if ds.length < sizeLine then .ok .nx (env.set i (some (.own (.lf (.lst (ds ++ [d])))))) else .stuck
  | _ => .stuck) env else .stuck
def sExt (i : Nat) (f : EM D) : SM := fun env => if isLst env i then (f.bind fun d env => match env[i]?, d with
  | some (some (.own (.lf (.lst ds)))), .lst es => if ds.length + es.length ≤ sizeLine then .ok .nx (env.set i (some (.own (.lf (.lst (ds ++ es)))))) else .stuck
  | _, _ => .stuck) env else .stuck
/-- x[g] = f -/
def sSetL (i : Nat) (g f : EM D) : SM := f.bind fun d env => match env[i]?, qD g env with
  | some (some (.own (.lf (.lst ds)))), some (.int ix) => match ixN ds.length ix with
    | some j => .ok .nx (env.set i (some (.own (.lf (.lst (ds.set j d))))))
    | none => .stuck
  | _, _ => .stuck
def sSetD (i : Nat) (g f : EM D) : SM := f.bind fun d env => match env[i]?, (qD g env).bind keyOf with
  | some (some (.own (.lf (.dct ds)))), some k => if ds.length < sizeLine then .ok .nx (env.set i (some (.own (.lf (.dct (setK ds k d)))))) else .stuck
  | _, _ => .stuck
/-- self.f = e -/
def sFldS (c i : Nat) (f : Str) (g : EM SV) : SM := g.bind fun sv env => match env[i]?, toFV sv with
  | some (some (.own (.ins c' gs))), some x => if c' = c ∧ gs.length < 1000 then .ok .nx (env.set i (some (.own (.ins c (putFV f x gs))))) else .stuck
  | _, _ => .stuck
/-- self.f op= e, data -/
def sFldA (c i : Nat) (f : Str) (op : D → D → Option D) (g : EM D) : SM := fun env => match env[i]? with
  | some (some (.own (.ins c' gs))) => match gs.lookup f with
    | some (.dat d) => if c' = c then (g.bind fun e env => (lift (op d e)).bind (fun z env => match env[i]? with
      | some (some (.own (.ins c' gs))) => if c' = c ∧ gs.length < 1000 then .ok .nx (env.set i (some (.own (.ins c (putFV f (.dat z) gs))))) else .stuck
      | _ => .stuck) env) env else .stuck
    | _ => .stuck
  | _ => .stuck
/-- self.f.append(e), e without self -/
def sAppF (c i : Nat) (f : Str) (g : EM D) : SM := fun env => match env[i]? with
  | some (some (.own (.ins c' gs))) => match gs.lookup f with
    | some (.own (.lst ds)) => if c' = c ∧ ds.length < sizeLine then (match g (env.set i none) with
      | .ok d env1 => (match env1[i]? with
        | some none => .ok .nx (env1.set i (some (.own (.ins c (setF f (.own (.lst (ds ++ [d]))) gs)))))
        | _ => .stuck)
      | _ => .stuck) else .stuck
    | _ => .stuck
  | _ => .stuck
/-- self.f[g] = e, an own list, an own dict -/
def sSetLF (c i : Nat) (f : Str) (g h : EM D) : SM := h.bind fun d env => match env[i]?, qD g env with
  | some (some (.own (.ins c' gs))), some (.int ix) => if c' = c then (match gs.lookup f with
    | some (.own (.lst ds)) => match ixN ds.length ix with
      | some j => .ok .nx (env.set i (some (.own (.ins c (setF f (.own (.lst (ds.set j d))) gs)))))
      | none => .stuck
    | _ => .stuck) else .stuck
  | _, _ => .stuck
def sSetDF (c i : Nat) (f : Str) (g h : EM D) : SM := h.bind fun d env => match env[i]?, (qD g env).bind keyOf with
  | some (some (.own (.ins c' gs))), some k => if c' = c then (match gs.lookup f with
    | some (.own (.dct ds)) => if ds.length < sizeLine then .ok .nx (env.set i (some (.own (.ins c (setF f (.own (.dct (setK ds k d))) gs))))) else .stuck
    | _ => .stuck) else .stuck
  | _, _ => .stuck
section
variable {K : PySem.W.Frag} {κ : Nat → Addr} {I I' F H H' : Hp} {σ : L2.St} {env : Slots} {nfp : List Addr}
theorem RpK.put {k : Key} {v : V} {d : D} : ∀ {vs : List (Key × V)} {ds : List (Key × D)}, RpK K κ I vs ds → Rp K κ I v d → RpK K κ I (putK vs k v) (setK ds k d) := by
  intro vs ds r hv
  have any : ∀ {vs : List (Key × V)} {ds : List (Key × D)}, RpK K κ I vs ds → (vs.any fun kv => decide (kv.1 = k)) = (ds.any fun kv => decide (kv.1 = k)) := by
    intro vs
    induction vs with
    | nil => intro ds r; cases r; rfl
    | cons p vs ih => intro ds r; cases r with
      | cons h r => simp [ih r]
  have mp : ∀ {vs : List (Key × V)} {ds : List (Key × D)}, RpK K κ I vs ds → RpK K κ I (vs.map fun kv => if kv.1 = k then (kv.1, v) else kv) (ds.map fun kv => if kv.1 = k then (kv.1, d) else kv) := by
    intro vs
    induction vs with
    | nil => intro ds r; cases r; exact .nil
    | cons p vs ih => intro ds r; cases r with
      | cons h r =>
        rename_i k' v' _ _
        simp only [List.map_cons]
        by_cases z : k' = k
        · simp only [z, if_true]; exact .cons hv (ih r)
        · simp only [if_neg z]; exact .cons h (ih r)
  have ap : ∀ {vs : List (Key × V)} {ds : List (Key × D)}, RpK K κ I vs ds → RpK K κ I (vs ++ [(k, v)]) (ds ++ [(k, d)]) := by
    intro vs
    induction vs with
    | nil => intro ds r; cases r; exact .cons hv .nil
    | cons p vs ih => intro ds r; cases r with
      | cons h r => exact .cons h (ih r)
  unfold putK setK
  rw [any r]
  split
  · exact mp r
  · exact ap r
theorem Ok.one {v : V} {l : Lf} {f1 : List Addr} (h : OwL K κ I H v l f1) : ∃ a, v = .ref a ∧ f1 = [a] := by
  cases h <;> exact ⟨_, rfl, rfl⟩
/-- an own list or dict of a slot is written -/
theorem Ok.updV {i : Nat} {l l' : Lf} {a : Addr} {o : HO} (k : Ok K κ I F H σ env nfp) (hx : env[i]? = some (some (.own (.lf l)))) (hv : σ[i]? = some (some (.ref a))) (hn : OwL K κ I (upd H a o) (.ref a) l' [a]) : Ok K κ I F (upd H a o) σ (env.set i (some (.own (.lf l')))) nfp := by
  obtain ⟨v, f1, h1, h2, k1⟩ := k.get hx
  rw [hv] at h1
  cases h1
  cases h2 with
  | own h2 =>
    cases h2 with
    | lf h2 =>
      obtain ⟨a', e1, rfl⟩ := Ok.one h2
      cases e1
      have k2 := Ok.write (o := o) k1
      have hil : i < env.length := (List.getElem?_eq_some_iff.mp hx).1
      have k3 := Ok.put (i := i) (f1 := [a]) k2 (by rw [List.getElem?_set_self hil]) hv (.own (.lf hn))
      rwa [List.set_set] at k3
/-- .. of a field -/
theorem Ok.updF {i c : Nat} {f : Str} {l l' : Lf} {a b dx : Addr} {o : HO} {vs : List (Str × V)} {gs : List (Str × FV)} (k : Ok K κ I F H σ env nfp) (hx : env[i]? = some (some (.own (.ins c gs)))) (hv : σ[i]? = some (some (.ref b))) (ho : H b = some (.ins (κ c) dx vs)) (hl : gs.lookup f = some (.own l)) (hf : vs.lookup f = some (.ref a))
    (hn : OwL K κ I (upd H a o) (.ref a) l' [a]) : Ok K κ I F (upd H a o) σ (env.set i (some (.own (.ins c (setF f (.own l') gs))))) nfp := by
  obtain ⟨v, f1, h1, h2, k1⟩ := k.get hx
  rw [hv] at h1
  cases h1
  cases h2 with
  | own h2 =>
    cases h2 with
    | ins ho' of =>
      rename_i fpo
      rw [ho] at ho'
      cases ho'
      obtain ⟨f0, fp', g1, g2, g3⟩ := OwFs.setF (f := f) (x := .hole) of hf .hole
      have g4 := g3 _ hl
      cases g4 with
      | own g4 =>
        obtain ⟨a', e1, rfl⟩ := Ok.one g4
        cases e1
        rw [List.nil_append] at g2
        -- the field's own place ahead
        have pm : (b :: fpo ++ nfp).Perm (a :: (b :: fp' ++ nfp)) := by
          refine ((g2.cons b).append_right nfp).trans ?_
          exact List.Perm.swap a b _
        have k2 := Ok.write (o := o) (k1.perm pm)
        obtain ⟨fpe, re, rr⟩ := k2.ex
        have nd := rr.nd
        have nab : b ≠ a := fun z => by
          subst z
          simp at nd
        have nafp : ∀ x ∈ fp', x ≠ a := fun x m z => by
          subst z
          simp only [List.cons_append, List.nodup_cons, List.mem_cons, List.mem_append, not_or] at nd
          exact nd.1.2.1.1 m
        have hil : i < env.length := (List.getElem?_eq_some_iff.mp hx).1
        have ho2 : (upd H a o) b = some (.ins (κ c) dx vs) := by rw [upd_ne nab]; exact ho
        have of2 : OwFs K κ I (upd H a o) vs (setF f .hole gs) fp' := g1.mono (Same.refl I) fun x m => upd_ne (nafp x m)
        obtain ⟨f0', fp2, q1, q2, q3⟩ := OwFs.setF (f := f) (x := .own l') of2 hf (.own hn)
        have lk : (setF f .hole gs).lookup f = some .hole := by
          clear g1 g2 g3 of of2 q1 q2 q3 hx k k1
          induction gs with
          | nil => simp at hl
          | cons p r ih =>
            obtain ⟨g, y⟩ := p
            unfold setF
            split
            · rename_i e; subst e; simp
            · rename_i e
              have zb : (f == g) = false := by simpa using e
              rw [List.lookup_cons, zb] at hl ⊢
              exact ih hl
        have q4 := q3 _ lk
        cases q4
        rw [List.nil_append] at q2
        have ss : setF f (.own l') (setF f .hole gs) = setF f (.own l') gs := by
          clear g1 g2 g3 of of2 q1 q2 q3 hx k k1 hl lk
          induction gs with
          | nil => rfl
          | cons p r ih =>
            obtain ⟨g, y⟩ := p
            by_cases e : f = g
            · simp [setF, e]
            · simp [setF, e, ih]
        rw [ss] at q1
        have pm2 : (a :: (b :: fp' ++ nfp)).Perm ((b :: fp2) ++ nfp) := by
          refine (List.Perm.swap b a _).trans ?_
          rw [List.cons_append]
          exact List.Perm.cons _ (q2.append_right nfp)
        have k3 := Ok.put (i := i) (f1 := b :: fp2) (k2.perm pm2) (by rw [List.getElem?_set_self hil]) hv (.own (.ins ho2 q1))
        rwa [List.set_set] at k3
end
section
variable {X : Cx} {κ : Nat → Addr} {W : WX} {P : List Nat} {e a b : PySem.Expr} {pos : Pos}
theorem isLst_some {env : Slots} {i : Nat} (h : isLst env i = true) : ∃ ds, env[i]? = some (some (.own (.lf (.lst ds)))) := by
  unfold isLst at h
  split at h
  · rename_i ds q; exact ⟨ds, q⟩
  · cases h
theorem d_app {i : Nat} {x : Str} {f : EM D} {p1 apos cpos : Pos} (he : PE X e (teD X.K κ W f)) (hN : X.N[i]? = some x := by rfl) (hv : Vis X.env.scope x := by first | exact Or.inl rfl | exact Or.inr (Or.inl rfl) | exact Or.inr (Or.inr rfl)) (hd : (x == ("__debug__" : Str)) = false := by decide) (hcd : (x == ("__classdict__" : Str)) = false := by decide)
    (hbase : attributeBase (.Name x p1) "append" X.env (eval (.Name x p1) X.env) = eval (.Name x p1) X.env := by rfl)
    (hfew : ((backTo cpos (starEach [e] X.env)).all (fun x => !x.1) && (backToKw cpos (keywordEach [] X.env)).all (fun x => x.1.isSome)
      && decide (([e] : List PySem.Expr).length + ([] : List Keyword).length + (if ([] : List Keyword).isEmpty then 0 else 1) < 30)) = true := by rfl)
    (hline : (apos.endLine == cpos.line) = true := by rfl) (hst : starEach [e] X.env = (false, eval e X.env) :: starEach [] X.env := by rfl) (hplain : (backTo cpos (starEach [] X.env)).any (·.1) = false := by rfl)
    (hs : swapsWith (.Call (.Attribute (.Name x p1) "append" apos) [e] [] cpos) none pos.line X.env = pure false := by rfl) :
    PS X (.Expr (.Call (.Attribute (.Name x p1) "append" apos) [e] [] cpos) pos) (tsD X.K κ W P (sApp i f)) := by
  refine ps_imp (ps_expr (pe_bm PySem.F.plainAttrs_list PySem.F.slot_list_append PySem.F.type_list_append mt_append (pe_var hN hv hd hcd) (pa_cons he pa_nil hst) hbase hfew hline hst hplain) hs) fun Dn σ H h => ?_
  obtain ⟨I, F, env, k, p⟩ := h
  unfold sApp at p
  split at p
  · rename_i hL
    obtain ⟨ds0, h0⟩ := isLst_some hL
    obtain ⟨v, f1, h1, h2⟩ := k.at_ h0
    cases h2 with
    | own h2 =>
    cases h2 with
    | lf h2 =>
    cases h2 with
    | lst hH ra =>
    rename_i a0 vs0
    refine ⟨_, h1, .inl ⟨rfl, _, SqL.of hH⟩, I, F, env, k, Post.mono (p.ex (R := RD X.K κ)) ?_⟩
    rintro y H1 ⟨I1, env1, d, nfp, s1, k1, ⟨r1, rfl⟩, p1⟩
    split at p1
    · rename_i ds q
      split at p1
      · rename_i hz
        obtain ⟨v', f1', h1', h2'⟩ := k1.at_ q
        rw [h1] at h1'
        cases h1'
        cases h2' with
        | own h2' =>
        cases h2' with
        | lf h2' =>
        cases h2' with
        | lst hH' ra' =>
        refine ⟨_, _, _, rfl, rfl, hH', by rw [ra'.length]; exact hz, ?_⟩
        exact p1.nx (k1.updV q h1 (.lst upd_same (ra'.append (.cons r1 .nil)))) (Step.refl F I1) (Pin.refl P σ)
      · exact p1.elim
    · exact p1.elim
  · exact p.elim
theorem d_ext {i : Nat} {x : Str} {f : EM D} {p1 apos cpos : Pos} (he : PE X e (teD X.K κ W f)) (hN : X.N[i]? = some x := by rfl) (hv : Vis X.env.scope x := by first | exact Or.inl rfl | exact Or.inr (Or.inl rfl) | exact Or.inr (Or.inr rfl)) (hd : (x == ("__debug__" : Str)) = false := by decide) (hcd : (x == ("__classdict__" : Str)) = false := by decide)
    (hbase : attributeBase (.Name x p1) "extend" X.env (eval (.Name x p1) X.env) = eval (.Name x p1) X.env := by rfl)
    (hfew : ((backTo cpos (starEach [e] X.env)).all (fun x => !x.1) && (backToKw cpos (keywordEach [] X.env)).all (fun x => x.1.isSome)
      && decide (([e] : List PySem.Expr).length + ([] : List Keyword).length + (if ([] : List Keyword).isEmpty then 0 else 1) < 30)) = true := by rfl)
    (hline : (apos.endLine == cpos.line) = true := by rfl) (hst : starEach [e] X.env = (false, eval e X.env) :: starEach [] X.env := by rfl) (hplain : (backTo cpos (starEach [] X.env)).any (·.1) = false := by rfl)
    (hs : swapsWith (.Call (.Attribute (.Name x p1) "extend" apos) [e] [] cpos) none pos.line X.env = pure false := by rfl) :
    PS X (.Expr (.Call (.Attribute (.Name x p1) "extend" apos) [e] [] cpos) pos) (tsD X.K κ W P (sExt i f)) := by
  refine ps_imp (ps_expr (pe_bm PySem.F.plainAttrs_list PySem.F.slot_list_extend PySem.F.type_list_extend mt_extend (pe_var hN hv hd hcd) (pa_cons he pa_nil hst) hbase hfew hline hst hplain) hs) fun Dn σ H h => ?_
  obtain ⟨I, F, env, k, p⟩ := h
  unfold sExt at p
  split at p
  · rename_i hL
    obtain ⟨ds0, h0⟩ := isLst_some hL
    obtain ⟨v, f1, h1, h2⟩ := k.at_ h0
    cases h2 with
    | own h2 =>
    cases h2 with
    | lf h2 =>
    cases h2 with
    | lst hH ra =>
    rename_i a0 vs0
    refine ⟨_, h1, .inl ⟨rfl, _, SqL.of hH⟩, I, F, env, k, Post.mono (p.ex (R := RD X.K κ)) ?_⟩
    rintro y H1 ⟨I1, env1, d, nfp, s1, k1, ⟨r1, rfl⟩, p1⟩
    split at p1
    · rename_i ds es q
      split at p1
      · rename_i hz
        obtain ⟨v', f1', h1', h2'⟩ := k1.at_ q
        rw [h1] at h1'
        cases h1'
        cases h2' with
        | own h2' =>
        cases h2' with
        | lf h2' =>
        cases h2' with
        | lst hH' ra' =>
        cases r1 with
        | lst hI rb =>
        refine ⟨_, _, _, _, rfl, rfl, hH', k1.ext _ _ hI, by rw [ra'.length, rb.length]; exact hz, ?_⟩
        exact p1.nx (k1.updV q h1 (.lst upd_same (ra'.append rb))) (Step.refl F I1) (Pin.refl P σ)
      · exact p1.elim
    · exact p1.elim
  · exact p.elim
/-- x[g] = f, an own list -/
theorem d_setL {i : Nat} {x : Str} {f g : EM D} {p1 spos : Pos} (he : PE X e (teD X.K κ W f)) (hg : PE X b (teD X.K κ W g)) (hN : X.N[i]? = some x := by rfl) (hv : Vis X.env.scope x := by first | exact Or.inl rfl | exact Or.inr (Or.inl rfl) | exact Or.inr (Or.inr rfl)) (hd : (x == ("__debug__" : Str)) = false := by decide) (hcd : (x == ("__classdict__" : Str)) = false := by decide)
    (ha : ∀ v, assign (.Subscript (.Name x p1) b spos) X.env v = (do
      let r ← holding [v] (eval (.Name x p1) X.env)
      let j ← holding [v, r] (eval b X.env)
      standAt spos
      holding [v, r, j] (setItem r j v)
      release [v, r, j] []) := by intro _; rfl)
    (hs : swapsWithSole [.Subscript (.Name x p1) b spos] e pos.line X.env = pure false := by rfl) (hw : swappedStores [.Subscript (.Name x p1) b spos] e X.env = pure none := by rfl)
    (h1 : (assignEach [.Subscript (.Name x p1) b spos] X.env).map (·.2) = [assign (.Subscript (.Name x p1) b spos) X.env] := by rfl) :
    PS X (.Assign [.Subscript (.Name x p1) b spos] e pos) (tsD X.K κ W P (sSetL i g f)) := by
  refine ps_imp (ps_asg he (pg_sub (pe_var hN hv hd hcd) hg set_list ha) hs hw h1) fun Dn σ H h => ?_
  obtain ⟨I, F, env, k, p⟩ := h
  refine ⟨I, F, env, k, Post.mono (p.ex (R := RD X.K κ)) ?_⟩
  rintro y H1 ⟨I1, env1, d, nfp, s1, k1, ⟨r1, rfl⟩, p1⟩
  split at p1
  · rename_i ds ix q1 q2
    obtain ⟨v, f1, h1, h2⟩ := k1.at_ q1
    split at p1
    · rename_i j hj
      refine ⟨v, h1, teQ (te := teD X.K κ W g) (fun _ _ _ h => h) k1 q2 fun fp H' y' e1 e1' r k2 kp ry => ?_⟩
      obtain ⟨v', f1', h1', h2'⟩ := k2.at_ q1
      rw [h1] at h1'
      cases h1'
      cases h2' with
      | own h2' =>
      cases h2' with
      | lf h2' =>
      cases h2' with
      | lst hH' ra' =>
      cases ry
      refine ⟨_, _, _, j, rfl, rfl, hH', by rw [ra'.length]; exact hj, ?_⟩
      exact p1.nx (k2.updV q1 h1 (.lst upd_same (ra'.set j r1))) (Step.refl F I1) (Pin.refl P σ)
    · exact p1.elim
  · exact p1.elim
/-- x[g] = f, an own dict -/
theorem d_setD {i : Nat} {x : Str} {f g : EM D} {p1 spos : Pos} (hu : X.A.units + 1 < cLine) (he : PE X e (teD X.K κ W f)) (hg : PE X b (teD X.K κ W g)) (hN : X.N[i]? = some x := by rfl) (hv : Vis X.env.scope x := by first | exact Or.inl rfl | exact Or.inr (Or.inl rfl) | exact Or.inr (Or.inr rfl)) (hd : (x == ("__debug__" : Str)) = false := by decide) (hcd : (x == ("__classdict__" : Str)) = false := by decide)
    (hs : swapsWith e (some (.Subscript (.Name x p1) b spos)) pos.line X.env = pure false := by rfl) :
    PS X (.Assign [.Subscript (.Name x p1) b spos] e pos) (tsD X.K κ W P (sSetD i g f)) := by
  refine ps_imp (ps_dput hu (pe_var hN hv hd hcd) hg he hs) fun Dn σ H h => ?_
  obtain ⟨I, F, env, k, p⟩ := h
  refine ⟨I, F, env, k, Post.mono (p.ex (R := RD X.K κ)) ?_⟩
  rintro y H1 ⟨I1, env1, d, nfp, s1, k1, ⟨r1, rfl⟩, p1⟩
  split at p1
  · rename_i ds ky q1 q2
    obtain ⟨v, f1, h1, h2⟩ := k1.at_ q1
    cases hq : qD g env1 with
    | none => rw [hq] at q2; cases q2
    | some dk =>
      rw [hq] at q2
      split at p1
      · rename_i hz
        refine ⟨v, h1, teQ (te := teD X.K κ W g) (fun _ _ _ h => h) k1 hq fun fp H' y' e1 e1' r k2 kp ry => ?_⟩
        have hky := keyOf_kV ry (by simpa using q2)
        subst hky
        obtain ⟨v', f1', h1', h2'⟩ := k2.at_ q1
        rw [h1] at h1'
        cases h1'
        cases h2' with
        | own h2' =>
        cases h2' with
        | lf h2' =>
        cases h2' with
        | dct hH' ra' =>
        refine ⟨_, _, rfl, DPut.k hH' (by rw [ra'.length]; exact hz), ?_⟩
        exact p1.nx (k2.updV q1 h1 (.dct upd_same (ra'.put r1))) (Step.refl F I1) (Pin.refl P σ)
      · exact p1.elim
  · exact p1.elim
end
end DL

/-! DL14: fields written, membership, operators in place -/
namespace DL
open PySem L2
section
variable {K : PySem.W.Frag} {κ : Nat → Addr} {I I' F H H' : Hp} {σ : L2.St} {env : Slots} {nfp : List Addr}
theorem OwFs.putFV {f : Str} {y : V} {x : FV} {f1 : List Addr} : ∀ {vs : List (Str × V)} {gs : List (Str × FV)} {fp : List Addr}, OwFs K κ I H vs gs fp → OwF K κ I H y x f1 →
    ∃ f0 fp', OwFs K κ I H (putF f y vs) (DL.putFV f x gs) fp' ∧ (f1 ++ fp).Perm (f0 ++ fp')
  | _, _, _, .nil, ho => ⟨[], f1 ++ [], .cons ho .nil, by simp⟩
  | (g, w) :: vs, (_, z) :: gs, _, .cons (fp := g1) (fq := g2) h r, ho => by
    by_cases e : g = f
    · refine ⟨g1, f1 ++ g2, ?_, List.perm_append_comm_assoc f1 g1 g2⟩
      simp only [putF, DL.putFV, e, if_true]
      exact .cons ho r
    · obtain ⟨f0, fp', h1, h2⟩ := r.putFV (f := f) ho
      refine ⟨f0, g1 ++ fp', ?_, ?_⟩
      · simp only [putF, DL.putFV, if_neg e]
        exact .cons h h1
      · exact (List.perm_append_comm_assoc f1 g1 g2).trans ((h2.append_left g1).trans (List.perm_append_comm_assoc g1 f0 fp'))
/-- an instance's field is laid -/
theorem Ok.layF {i c : Nat} {f : Str} {b dx : Addr} {x : FV} {y : V} {vs : List (Str × V)} {gs : List (Str × FV)} (k : Ok K κ I F H σ env nfp) (hx : env[i]? = some (some (.own (.ins c gs)))) (hv : σ[i]? = some (some (.ref b))) (ho : H b = some (.ins (κ c) dx vs))
    (hy : ∀ H', (∀ a ∈ nfp, H' a = H a) → OwF K κ I H' y x nfp) : Ok K κ I F (upd H b (.ins (κ c) dx (putF f y vs))) σ (env.set i (some (.own (.ins c (putFV f x gs))))) [] := by
  obtain ⟨v, f1, h1, h2, k1⟩ := k.get hx
  rw [hv] at h1
  cases h1
  cases h2 with
  | own h2 =>
    cases h2 with
    | ins ho' of =>
      rename_i fpo
      rw [ho] at ho'
      cases ho'
      have k2 := Ok.write (o := .ins (κ c) dx (putF f y vs)) k1
      obtain ⟨fpe, re, rr⟩ := k2.ex
      have nd := rr.nd
      have nb : ∀ a ∈ fpo ++ nfp, a ≠ b := fun a m z => by
        subst z
        have nd2 : (a :: ((fpo ++ nfp) ++ fpe)).Nodup := nd
        rw [List.nodup_cons] at nd2
        exact nd2.1 (List.mem_append_left _ m)
      have of2 : OwFs K κ I (upd H b (.ins (κ c) dx (putF f y vs))) vs gs fpo := of.mono (Same.refl I) fun a m => upd_ne (nb a (List.mem_append_left _ m))
      have hy2 := hy (upd H b (.ins (κ c) dx (putF f y vs))) fun a m => upd_ne (nb a (List.mem_append_right _ m))
      obtain ⟨f0, fp', q1, q2⟩ := OwFs.putFV (f := f) of2 hy2
      have hil : i < env.length := (List.getElem?_eq_some_iff.mp hx).1
      have pm : (b :: fpo ++ nfp).Perm (f0 ++ ((b :: fp') ++ [])) := by
        rw [List.append_nil, List.cons_append]
        refine (List.Perm.cons b (List.perm_append_comm.trans q2)).trans ?_
        exact (List.perm_middle (a := b)).symm
      have k3 := Ok.drop (k2.perm pm)
      have k4 := Ok.put (i := i) (f1 := b :: fp') (nfp := []) k3 (by rw [List.getElem?_set_self hil]) hv (.own (.ins upd_same q1))
      rwa [List.set_set] at k4
theorem toFV_some {sv : SV} {x : FV} (h : toFV sv = some x) {v : V} {fp : List Addr} (o : OwS K κ I H v sv fp) : OwF K κ I H v x fp := by
  cases o with
  | dat r => simp only [toFV, Option.some.injEq] at h; subst h; exact .dat r
  | own r =>
    cases r with
    | lf r => simp only [toFV, Option.some.injEq] at h; subst h; exact .own r
    | ins _ _ => simp [toFV] at h
    | rcd _ _ => simp [toFV] at h
    | tup _ _ => simp [toFV] at h
end
section
variable {X : Cx} {κ : Nat → Addr} {W : WX} {P : List Nat} {e a b : PySem.Expr} {pos : Pos}
/-- self.f = e -/
theorem d_fld {c i : Nat} {f x : Str} {g : EM SV} {p1 pos' : Pos} (hc : Cls X.K (κ c)) (hn : NoAttr X.K (κ c) f) (he : PE X e (teS X.K κ W g)) (hN : X.N[i]? = some x := by rfl) (hv : Vis X.env.scope x := by first | exact Or.inl rfl | exact Or.inr (Or.inl rfl) | exact Or.inr (Or.inr rfl)) (hd : (x == ("__debug__" : Str)) = false := by decide) (hcd : (x == ("__classdict__" : Str)) = false := by decide)
    (hs : swapsWith e (some (.Attribute (.Name x p1) f pos')) pos.line X.env = pure false := by rfl) : PS X (.Assign [.Attribute (.Name x p1) f pos'] e pos) (tsD X.K κ W P (sFldS c i f g)) := by
  refine ps_imp (ps_fld (pe_var hN hv hd hcd) he hs) fun Dn σ H h => ?_
  obtain ⟨I, F, env, k, p⟩ := h
  refine ⟨I, F, env, k, Post.mono (p.ex (R := RS X.K κ)) ?_⟩
  rintro y H1 ⟨I1, env1, sv, nfp, s1, k1, r1, p1⟩
  split at p1
  · rename_i c' gs xv q1 q2
    split at p1
    · rename_i hc'
      obtain ⟨rfl, hl⟩ := hc'
      obtain ⟨v, f1, h1, h2⟩ := k1.at_ q1
      cases h2 with
      | own h2 =>
      cases h2 with
      | ins ho of =>
      refine ⟨_, h1, _, _, _, _, rfl, ho, hc, hn, ?_, ?_⟩
      · have : ∀ {vs : List (Str × V)} {gs : List (Str × FV)} {fp : List Addr}, OwFs X.K κ I1 H1 vs gs fp → vs.length = gs.length := by
          intro vs
          induction vs with
          | nil => intro gs fp r; cases r; rfl
          | cons p vs ih => intro gs fp r; cases r with
            | cons h r => simp [ih r]
        rw [this of]; exact hl
      · have ro := toFV_some q2 r1
        exact p1.nx (k1.layF q1 h1 ho fun H' kp => ro.mono (Same.refl I1) kp) (Step.refl F I1) (Pin.refl P σ)
    · exact p1.elim
  · exact p1.elim
theorem InD {op : PySem.Operator} {r : R2} (h : OpR X (inplaceOp op) r) : InOp X op r := fun pins s σ H x y u v Q I rx ry h' => h pins s σ H x y u v Q I rx ry h'
/-- self.f op= e, data -/
theorem d_fldA {c i : Nat} {f x : Str} {op : PySem.Operator} {o : D → D → Option D} {g : EM D} {p1 tpos : Pos} (hc : Cls X.K (κ c)) (hn : NoAttr X.K (κ c) f) (ho : OpD X κ (inplaceOp op) o) (he : PE X e (teD X.K κ W g)) (hN : X.N[i]? = some x := by rfl) (hv : Vis X.env.scope x := by first | exact Or.inl rfl | exact Or.inr (Or.inl rfl) | exact Or.inr (Or.inr rfl)) (hd : (x == ("__debug__" : Str)) = false := by decide) (hcd : (x == ("__classdict__" : Str)) = false := by decide) :
    PS X (.AugAssign (.Attribute (.Name x p1) f tpos) op e pos) (tsD X.K κ W P (sFldA c i f o g)) := by
  obtain ⟨r, ho1, ho2⟩ := ho
  refine ps_imp (ps_fldaug (pe_var hN hv hd hcd) he (InD ho1)) fun Dn σ H h => ?_
  obtain ⟨I, F, env, k, p⟩ := h
  unfold sFldA at p
  split at p
  · rename_i c' gs q1
    split at p
    · rename_i d0 hl0
      split at p
      · rename_i hc'
        subst hc'
        obtain ⟨v, f1, h1, h2⟩ := k.at_ q1
        cases h2 with
        | own h2 =>
        cases h2 with
        | ins hh of =>
        rename_i a0 dx0 vs0 _
        obtain ⟨v0, g1, l0, o0, _⟩ := of.lookup hl0
        cases o0 with
        | dat r0 =>
        refine ⟨_, h1, _, _, _, _, _, rfl, hh, hc, hn, l0, I, F, env, k, Post.mono (p.ex (R := RD X.K κ)) ?_⟩
        rintro y H1 ⟨I1, env1, d, nfp, s1, k1, ⟨r1, rfl⟩, p1⟩
        obtain ⟨z, ez, p2⟩ := p1.lift
        refine ho2 σ I1 F H1 env1 v0 y d0 d z _ k1 (r0.mono s1.ext) r1 ez fun I' H' w s o rw' => ?_
        split at p2
        · rename_i c2 gs2 q2
          split at p2
          · rename_i hc2
            obtain ⟨rfl, hl⟩ := hc2
            obtain ⟨v', f1', h1', h2'⟩ := o.at_ q2
            rw [h1] at h1'
            cases h1'
            cases h2' with
            | own h2' =>
            cases h2' with
            | ins hh' of' =>
            refine ⟨_, _, hh', ?_, ?_⟩
            · have : ∀ {vs : List (Str × V)} {gs : List (Str × FV)} {fp : List Addr}, OwFs X.K κ I' H' vs gs fp → vs.length = gs.length := by
                intro vs
                induction vs with
                | nil => intro gs fp r; cases r; rfl
                | cons p vs ih => intro gs fp r; cases r with
                  | cons h r => simp [ih r]
              rw [this of']; exact hl
            · exact p2.nx (o.layF q2 h1 hh' fun H' kp => .dat rw') s (Pin.refl P σ)
          · exact p2.elim
        · exact p2.elim
      · exact p.elim
    · exact p.elim
  · exact p.elim
/-- self.f.append(e) -/
theorem d_appF {c i : Nat} {f x : Str} {g : EM D} {p1 p2 apos cpos : Pos} (hc : Cls X.K (κ c)) (hn : NoAttr X.K (κ c) f) (he : PE X e (teD X.K κ W g)) (hN : X.N[i]? = some x := by rfl) (hv : Vis X.env.scope x := by first | exact Or.inl rfl | exact Or.inr (Or.inl rfl) | exact Or.inr (Or.inr rfl)) (hd : (x == ("__debug__" : Str)) = false := by decide) (hcd : (x == ("__classdict__" : Str)) = false := by decide)
    (hb : attributeBase (.Name x p1) f X.env (eval (.Name x p1) X.env) = eval (.Name x p1) X.env := by rfl)
    (hbase : attributeBase (.Attribute (.Name x p1) f p2) "append" X.env (eval (.Attribute (.Name x p1) f p2) X.env) = eval (.Attribute (.Name x p1) f p2) X.env := by rfl)
    (hfew : ((backTo cpos (starEach [e] X.env)).all (fun x => !x.1) && (backToKw cpos (keywordEach [] X.env)).all (fun x => x.1.isSome)
      && decide (([e] : List PySem.Expr).length + ([] : List Keyword).length + (if ([] : List Keyword).isEmpty then 0 else 1) < 30)) = true := by rfl)
    (hline : (apos.endLine == cpos.line) = true := by rfl) (hst : starEach [e] X.env = (false, eval e X.env) :: starEach [] X.env := by rfl) (hplain : (backTo cpos (starEach [] X.env)).any (·.1) = false := by rfl)
    (hs : swapsWith (.Call (.Attribute (.Attribute (.Name x p1) f p2) "append" apos) [e] [] cpos) none pos.line X.env = pure false := by rfl) :
    PS X (.Expr (.Call (.Attribute (.Attribute (.Name x p1) f p2) "append" apos) [e] [] cpos) pos) (tsD X.K κ W P (sAppF c i f g)) := by
  refine ps_imp (ps_expr (pe_bm PySem.F.plainAttrs_list PySem.F.slot_list_append PySem.F.type_list_append mt_append (pe_fld (pe_var hN hv hd hcd) hb) (pa_cons he pa_nil hst) hbase hfew hline hst hplain) hs) fun Dn σ H h => ?_
  obtain ⟨I, F, env, k, p⟩ := h
  unfold sAppF at p
  split at p
  · rename_i c' gs q1
    split at p
    · rename_i ds hl0
      split at p
      · rename_i hc'
        obtain ⟨rfl, hz⟩ := hc'
        obtain ⟨v, f1, h1, h2, k1⟩ := k.get q1
        have h2k := h2
        cases h2 with
        | own h2 =>
        cases h2 with
        | ins hh of =>
        rename_i a0 dx0 vs0 fpo
        obtain ⟨v0, g1, l0, o0, og⟩ := of.lookup hl0
        cases o0 with
        | own o0 =>
        cases o0 with
        | lst hL rL =>
        refine ⟨_, h1, _, _, _, _, _, rfl, hh, hc, hn, l0, .inl ⟨rfl, _, SqL.of hL⟩, I, _, _, Ok.frame k1, ?_⟩
        revert p
        cases hg : g (env.set i none) with
        | ok d env1 =>
          intro p I1 H1 y nfp s1 k2 hR
          obtain ⟨r1, rfl⟩ := hR
          obtain ⟨k3, kp, s2⟩ := Ok.unframe k1 k2 s1
          simp only [] at p
          split at p
          · rename_i hno
            have h2' := h2k.mono s2.ext kp
            have k4 := Ok.put (i := i) (nfp := []) (by simpa using k3) hno h1 h2'
            have hil : i < env1.length := (List.getElem?_eq_some_iff.mp hno).1
            have hL' : H1 _ = some (.lst _) := (kp _ (List.mem_cons_of_mem _ (og _ (by simp)))).trans hL
            have hh' : H1 a0 = some (.ins (κ c') dx0 vs0) := (kp _ (by simp)).trans hh
            refine ⟨_, _, _, rfl, rfl, hL', by rw [rL.length]; exact hz, ?_⟩
            have k5 := Ok.updF (f := f) (l := .lst ds) (l' := .lst (ds ++ [d])) k4 (by rw [List.getElem?_set_self hil]) h1 hh' hl0 l0 (.lst upd_same ((rL.mono s2.ext).append (.cons r1 .nil)))
            rw [List.set_set] at k5
            exact p.nx k5 s2 (Pin.refl P σ)
          · exact p.elim
        | exc e env1 => exact fun p => p.elim
        | stuck => exact fun p => p.elim
      · exact p.elim
    · exact p.elim
  · exact p.elim
end
end DL

/-! DL15: membership, operators in place -/
namespace DL
open PySem L2
/-- x in y: a list of shaped data; a tuple of texts or of numbers; a text -/
def flatD : D → Bool
  | .non => true | .bl _ => true | .int _ => true | .str _ => true | _ => false
def opInS (x y : D) : Option D := match y with
  | .lst ds => if eqOk x (.lst ds) then some (.bl (ds.any fun z => PyData.eqv z.py x.py)) else none
  | .tup ds => if flatD x && ds.all flatD then some (.bl (ds.any fun z => PyData.eqv z.py x.py)) else none
  | .str t => match x with
    | .str s => match s.cps.toList with
      | [c] => some (.bl (decide (c ∈ t.cps.toList)))
      | _ => none
    | _ => none
  | _ => none
theorem str_one {s : Str} {c : Nat} (h : s.cps.toList = [c]) : s = ⟨#[c]⟩ := by
  obtain ⟨a⟩ := s
  obtain ⟨l⟩ := a
  simp only at h
  subst h
  rfl
def opNotInS (x y : D) : Option D := (opInS x y).bind dNot
def opInK (x y : D) : Option D := match y with
  | .dct kvs => (keyOf x).map fun k => .bl (getK kvs k).isSome
  | _ => none
def opNotInK (x y : D) : Option D := (opInK x y).bind dNot
section
variable {X : Cx} {κ : Nat → Addr}
theorem pys_map : ∀ ds : List D, D.pys ds = ds.map D.py
  | [] => rfl
  | d :: r => by simp only [D.pys, List.map_cons, pys_map r]
theorem flat_V {K : PySem.W.Frag} {I : Hp} {v : V} {d : D} (r : Rp K κ I v d) (h : flatD d = true) : flatV v = true := by
  cases r <;> first | rfl | cases h
theorem flat_all {K : PySem.W.Frag} {I : Hp} : ∀ {vs : List V} {ds : List D}, RpA K κ I vs ds → ds.all flatD = true → vs.all flatV = true
  | _, _, .nil, _ => rfl
  | _, _, .cons h r, q => by
    simp only [List.all_cons, Bool.and_eq_true] at q ⊢
    exact ⟨flat_V h q.1, flat_all r q.2⟩
theorem eqV_py {K : PySem.W.Frag} {I : Hp} {v w : V} {d e : D} (r : Rp K κ I v d) (s : Rp K κ I w e) (h : flatD d = true) (h' : flatD e = true) : eqV v w = PyData.eqv d.py e.py := by
  cases r <;> simp only [flatD, Bool.false_eq_true] at h <;> cases s <;> simp only [flatD, Bool.false_eq_true] at h' <;> simp [eqV, PyData.eqv, D.py]
theorem inV_py {K : PySem.W.Frag} {I : Hp} {w : V} {e : D} (s : Rp K κ I w e) (h' : flatD e = true) : ∀ {vs : List V} {ds : List D}, RpA K κ I vs ds → ds.all flatD = true → inV w vs = ds.any fun z => PyData.eqv z.py e.py
  | _, _, .nil, _ => rfl
  | _, _, .cons h r, q => by
    simp only [List.all_cons, Bool.and_eq_true] at q
    have := inV_py s h' r q.2
    unfold inV at this ⊢
    simp only [List.any_cons, this, eqV_py h s q.1 h']
theorem od_inS (hu : X.A.units + 65 < cLine) : OpD X κ (compareOp .In) opInS := by
  refine ⟨_, OpR.or (op_inD hu) (OpR.or op_in_seq op_in_sign), fun σ I F H env x y dx dy d Q k rx ry e q => ?_⟩
  cases ry <;> simp only [opInS] at e <;> first | (cases e; done) | skip
  · rename_i t
    cases rx <;> simp only [] at e <;> first | (cases e; done) | skip
    split at e
    · rename_i hc
      cases e
      exact .inr (.inr ⟨_, _, by rw [str_one hc], rfl, q0 k q (.bl _)⟩)
    · cases e
  · rename_i h r
    split at e
    · rename_i hf
      simp only [Bool.and_eq_true] at hf
      cases e
      refine .inr (.inl ⟨_, _, rfl, .inr (SqT.of (k.ext _ _ h)), flat_V rx hf.1, flat_all r hf.2, ?_⟩)
      simp only [Bool.false_eq_true, if_false]
      rw [inV_py rx hf.1 r hf.2]
      exact q0 k q (.bl _)
    · cases e
  · rename_i h r
    split at e
    · rename_i hq
      cases e
      have hq' := hq
      unfold eqOk at hq
      simp only [Bool.and_eq_true] at hq
      have l := Rp.dp k.ext (.lst h r) hq.1.1.2
      refine .inl ⟨dx.py, _, Rp.dp k.ext rx hq.1.1.1, by simpa only [D.py] using l, hq.1.2, by simpa only [D.py] using hq.2, ?_⟩
      rw [pys_map, List.any_map]
      exact q0 k q (.bl _)
    · cases e
theorem od_notInS (hu : X.A.units + 65 < cLine) : OpD X κ (compareOp .NotIn) opNotInS := by
  refine ⟨_, OpR.or (op_notInD hu) (OpR.or op_notIn_seq op_notIn_sign), fun σ I F H env x y dx dy d Q k rx ry e q => ?_⟩
  unfold opNotInS at e
  cases ry <;> simp only [opInS] at e <;> first | (cases e; done) | skip
  · rename_i t
    cases rx <;> simp only [] at e <;> first | (cases e; done) | skip
    split at e
    · rename_i hc
      cases e
      exact .inr (.inr ⟨_, _, by rw [str_one hc], rfl, q0 k q (.bl _)⟩)
    · cases e
  · rename_i h r
    split at e
    · rename_i hf
      simp only [Bool.and_eq_true] at hf
      cases e
      refine .inr (.inl ⟨_, _, rfl, .inr (SqT.of (k.ext _ _ h)), flat_V rx hf.1, flat_all r hf.2, ?_⟩)
      simp only [if_true]
      rw [inV_py rx hf.1 r hf.2]
      exact q0 k q (.bl _)
    · cases e
  · rename_i h r
    split at e
    · rename_i hq
      cases e
      have hq' := hq
      unfold eqOk at hq
      simp only [Bool.and_eq_true] at hq
      have l := Rp.dp k.ext (.lst h r) hq.1.1.2
      refine .inl ⟨dx.py, _, Rp.dp k.ext rx hq.1.1.1, by simpa only [D.py] using l, hq.1.2, by simpa only [D.py] using hq.2, ?_⟩
      rw [pys_map, List.any_map]
      exact q0 k q (.bl _)
    · cases e
def opIAdd : D → D → Option D
  | .int i, .int j => some (.int (i + j))
  | .str x, .str y => if x.length + y.length ≤ sizeLine then some (.str (x ++ y)) else none
  | _, _ => none
theorem oi_add : OpD X κ (inplaceOp .Add) opIAdd := by
  refine ⟨_, OpR.or iop_add iop_add_str, fun σ I F H env x y dx dy d Q k rx ry e q => ?_⟩
  cases rx <;> cases ry <;> simp only [opIAdd] at e <;> try (cases e)
  · exact .inl ⟨_, _, rfl, rfl, q0 k q (.int _)⟩
  · split at e
    · rename_i h
      cases e
      exact .inr ⟨_, _, rfl, rfl, h, q0 k q (.str _)⟩
    · cases e
theorem oi_sub : OpD X κ (inplaceOp .Sub) opSub := by
  refine ⟨_, iop_sub, fun σ I F H env x y dx dy d Q k rx ry e q => ?_⟩
  cases rx <;> cases ry <;> simp only [opSub] at e <;> cases e
  exact ⟨_, _, rfl, rfl, q0 k q (.int _)⟩
end
section
variable {X : Cx} {κ : Nat → Addr} {W : WX} {a b : PySem.Expr} {pos : Pos}
theorem in_k {f g : EM D} {not : Bool} {o : D → D → Option D} (ho : ∀ x y d, o x y = some d → ∃ kvs k, y = .dct kvs ∧ keyOf x = some k ∧ d = .bl (xor not (getK kvs k).isSome)) : ∀ σ H Q, teD X.K κ W (eBin o f g) σ H Q →
    teD X.K κ W f σ H fun y H1 => teD X.K κ W g σ H1 fun x H2 => ∃ a o, x = .ref a ∧ DGet H2 a y o ∧ Q (.bl (xor not o.isSome)) H2 := by
  intro σ H Q h
  obtain ⟨I, F, env, k, p⟩ := h
  refine ⟨I, F, env, k, Post.mono (p.bind (R := RD X.K κ)) ?_⟩
  rintro x H1 ⟨I1, env1, dx, nfp, s1, k1, ⟨rx, rfl⟩, p1⟩
  refine ⟨I1, F, env1, k1, Post.mono (p1.bind (R := RD X.K κ)) ?_⟩
  rintro y H2 ⟨I2, env2, dy, nfp, s2, k2, ⟨ry, rfl⟩, p2⟩
  obtain ⟨d, e, p3⟩ := p2.lift1
  obtain ⟨kvs, ky, rfl, hk, rfl⟩ := ho _ _ _ e
  cases ry with
  | dct h r =>
    have hx := keyOf_kV (rx.mono s2.ext) hk
    subst hx
    refine ⟨_, _, rfl, .inl ⟨_, ky, .inl (k2.ext _ _ h), rfl, rfl⟩, ?_⟩
    rw [getK_some r]
    exact p3 I2 H2 _ [] (Step.refl F I2) k2 ⟨.bl _, rfl⟩
theorem de_inK {f g : EM D} (hu : X.A.units + 1 < cLine) (ha : PE X a (teD X.K κ W f)) (hb : PE X b (teD X.K κ W g)) (hm : behindInMarks .In b = false := by first | with_unfolding_all rfl | rfl) : PE X (.Compare a [.In] [b] pos) (teD X.K κ W (eBin opInK f g)) := by
  refine pe_imp (pe_cmp (pc_din hu ha hb) hm) fun σ H Q h => ?_
  have := in_k (not := false) (fun x y d e => by
    unfold opInK at e
    split at e
    · cases h : keyOf x with
      | none => rw [h] at e; cases e
      | some k => rw [h] at e; cases e; exact ⟨_, k, rfl, rfl, by simp⟩
    · cases e) σ H Q h
  unfold tDIn
  simpa only [Bool.false_xor] using this
theorem de_notInK {f g : EM D} (hu : X.A.units + 1 < cLine) (ha : PE X a (teD X.K κ W f)) (hb : PE X b (teD X.K κ W g)) (hm : behindInMarks .NotIn b = false := by first | with_unfolding_all rfl | rfl) : PE X (.Compare a [.NotIn] [b] pos) (teD X.K κ W (eBin opNotInK f g)) := by
  refine pe_imp (pe_cmp (pc_dnotin hu ha hb) hm) fun σ H Q h => ?_
  have := in_k (not := true) (fun x y d e => by
    unfold opNotInK opInK at e
    split at e
    · cases h : keyOf x with
      | none => rw [h] at e; cases e
      | some k => rw [h] at e; cases e; exact ⟨_, k, rfl, rfl, by simp⟩
    · cases e) σ H Q h
  unfold tDNotIn
  simpa only [Bool.true_xor] using this
/-- .. as a test -/
theorem dt_de {e : PySem.Expr} {f : EM D} (h : PE X e (teD X.K κ W f)) (he : ∀ whole, isTrue e X.env whole = (do let v ← whole; standAt e.pos; holding [v] (truthy v)) := by intro _; rfl) : PT X e (ttD X.K κ W (bVal f)) := dt_val h he
end
end DL

/-! DL16: sorted(set(numbers)) -/
namespace L2
open PySem PySem.Spec PyProof.Rows
section
variable {P : Program} {w : World} {A : Around} {E : Value → Shared → Prop} {s : Shared}
theorem call_set_lstI {l : Addr} {items : Array Value} (ns : List Int) {Q : Value → Shared → Prop} (hh : A.handled = none) (hl : s.heap.IsList l items) (hit : IntsAre items.toList ns) (hb : ns.length + 1 < scanBound)
    (h : ∀ (h' : Heap) (tk c : Nat), SetR w h' s.heap.objs.size (fun j => decide (j ∈ ns)) c → c ≤ ns.length → (∀ b o, s.heap.get? b = some o → h'.get? b = some o) → Q (.ref s.heap.objs.size) { s with heap := h', toks := tk }) :
    wpAny (model P w) A (call (.type "set") [.ref l]) Q E s := by
  have gSz : items.size = ns.length := by
    have q := IntsAre.length hit
    rw [Array.length_toList] at q
    exact q
  obtain ⟨c, tl, gMr⟩ := F.called_set.mro
  have gMd := F.called_set.made
  have gSb := F.called_set.sub
  refine wpAny_call (codeAny_of_tree ?_)
  show wpAny _ _ (callAny (.type "set") _) _ _ _
  refine wpAny_pure ⟨Code.quiet_builtin _ (by decide +kernel), codeAny_builtin F.entry_type_call ?_⟩
  rw [Around.under_plain (weight_type_call_type "set" [.ref l] []) rfl]
  have h1 := F.called_set.notType
  have h2 := F.called_set.canCreate
  have gCt := F.typeCall_set_1 (.ref l)
  repeat (any_goals (first | assumption | wp_step))

  refine codeAny_mono (code_set_led1 (.ref l) (E := E) (Q₁ := fun obj s₁ => obj = .ref s.heap.objs.size ∧ s₁ = { s with heap := s.heap.push { cls := .type "set", dict := none, data := .set #[] 0 (.fresh 0 0 (!w.params.followText "set-order")) } }) ⟨rfl, rfl⟩) fun r s₁ hr => ?_
  cases r with
  | error e => exact hr
  | ok fl =>
    cases fl with
    | ret obj =>
      obtain ⟨rfl, rfl⟩ := hr
      have gS : (s.heap.push { cls := .type "set", dict := none, data := .set #[] 0 (.fresh 0 0 (!w.params.followText "set-order")) }).get? s.heap.objs.size = some { cls := .type "set", dict := none, data := .set #[] 0 (.fresh 0 0 (!w.params.followText "set-order")) } := Heap.get?_push_size _ rfl
      have gT : Shared.TypeIs { s with heap := s.heap.push { cls := .type "set", dict := none, data := .set #[] 0 (.fresh 0 0 (!w.params.followText "set-order")) } } (.ref s.heap.objs.size) "set" := ⟨_, gS, rfl⟩
      have gLi := F.called_set.init.lookup
      have gBi := F.called_set.init.bind (.ref s.heap.objs.size)
      repeat (any_goals (first | assumption | wp_step))

      refine codeAny_mono (codeAny_call_builtin (R := wants (fun r s₂ => r = .none ∧ ∃ h' tk c, s₂ = { s with heap := h', toks := tk } ∧ SetR w h' s.heap.objs.size (fun j => decide (j ∈ ns)) c ∧ c ≤ ns.length ∧
          (∀ b o, s.heap.get? b = some o → h'.get? b = some o)) E) F.called_set.init.plain F.entry_set_init (check_set_init_1 gT ?_)) fun r₂ s₂ hr₂ => ?_
      · obtain ⟨ol, hol, hcl, nl, hdl⟩ := hl
        obtain ⟨ocls, odict, odata, oslots⟩ := ol
        simp only at hcl hdl
        subst hcl; subst hdl
        have gOl : (s.heap.push { cls := .type "set", dict := none, data := .set #[] 0 (.fresh 0 0 (!w.params.followText "set-order")) }).get? l = some { cls := .type "list", dict := odict, data := .seq items nl, slots := oslots } := Heap.get?_push_of_some _ hol
        have hsls := F.sub_list_set
        have hslf := F.sub_list_frozenset
        have hne : (Value.type "list" == Value.type "dict") = false := by decide
        have gL1 : (s.heap.push { cls := .type "set", dict := none, data := .set #[] 0 (.fresh 0 0 (!w.params.followText "set-order")) }).IsList l items := ⟨_, gOl, rfl, nl, rfl⟩
        unfold Builtin.«set.__init__» noKeywords Builtin.Frozenset.updateFrom
        generalize hPI : pyIter = PI
        wp_walk
        subst hPI

        refine wpAny_pyIter_list gL1 ?_
        refine wpAny_bind (wpAny_runValue ?_)
        have gLS : l < s.heap.objs.size := Heap.lt_size hol
        have gH3 : A.in1.in1.in1.handled = none := by simp [hh]
        have gZ1 : (s.heap.push { cls := .type "set", dict := none, data := .set #[] 0 (.fresh 0 0 (!w.params.followText "set-order")) }).objs.size = s.heap.objs.size + 1 := Heap.size_push ..
        have gNI : l ≠ (s.heap.push { cls := .type "set", dict := none, data := .set #[] 0 (.fresh 0 0 (!w.params.followText "set-order")) }).objs.size := by
          rw [Heap.size_push]; exact Nat.ne_of_lt (Nat.lt_succ_of_lt gLS)
        have gSf : s.heap.objs.size ∉ [(s.heap.push { cls := .type "set", dict := none, data := .set #[] 0 (.fresh 0 0 (!w.params.followText "set-order")) }).objs.size, l] := by
          rw [Heap.size_push]; simp only [List.mem_cons, List.mem_singleton, List.not_mem_nil, or_false, not_or]
          exact ⟨Nat.ne_of_lt (Nat.lt_succ_self _), Nat.ne_of_gt gLS⟩
        have gVal : ∀ (i : Nat) (v : Value), items[i]? = some v → ∃ k t, ns[i]? = some k ∧ v = .int k t := fun i v hv => by
          have hi : i < ns.length := by rw [← gSz]; exact (Array.getElem?_eq_some_iff.mp hv).1
          obtain ⟨t, e⟩ := PyProof.Rows.IntsAre.int_at hit i v (by rw [Array.getElem?_toList]; exact hv)
          refine ⟨ns[i], t, List.getElem?_eq_getElem hi, ?_⟩
          rw [e, List.getD_eq_getElem?_getD, List.getElem?_eq_getElem hi] <;> rfl
        refine set_update_ints ((Walks.list gH3 _ l gNI items).toS) s.heap.objs.size
          gSf ns gSz hb gVal (items.size - 0) 0 _ (by omega) (Nat.zero_le _)
          ⟨⟨_, Heap.get?_push_size _ rfl, rfl, rfl⟩, (gL1.push _)⟩ ?hS0 ?hR
        case hS0 =>
          have gGet : ((s.heap.push { cls := .type "set", dict := none, data := .set #[] 0 (.fresh 0 0 (!w.params.followText "set-order")) }).push { cls := .type "list_iterator", data := .fields #[.ref l, .int 0 0] }).get? s.heap.objs.size
              = some { cls := .type "set", dict := none, data := .set #[] 0 (.fresh 0 0 (!w.params.followText "set-order")) } := Heap.get?_push_of_some _ gS
          exact ⟨0, Nat.le_refl 0, setR_new_at gGet⟩
        case hR =>
          intro s' c' hm hc' hS'
          obtain ⟨h', g2, d', tk', os'⟩ := s'
          have eg : g2 = s.gens := hm.gens
          have ed : d' = s.drawn := hm.drawn
          have eo : os' = s.os := hm.os
          subst eg; subst ed; subst eo
          show wpAny _ _ _ _ _ _
          refine wpAny_pure ?_
          show wpAny _ _ (ret Value.none) _ _ _
          rw [gSz] at hc'
          refine wpAny_pure ⟨rfl, h', tk', c', rfl, hS', hc', fun b o e => ?_⟩
          have hb0 : b < s.heap.objs.size := Heap.lt_size e
          have hb1 : b ≠ s.heap.objs.size := Nat.ne_of_lt hb0
          have hb2 : b ≠ (s.heap.push { cls := .type "set", dict := none, data := .set #[] 0 (.fresh 0 0 (!w.params.followText "set-order")) }).objs.size := by
            rw [Heap.size_push]; exact Nat.ne_of_lt (Nat.lt_succ_of_lt hb0)
          exact hm.heap b o (by simp only [List.mem_cons, List.mem_singleton, List.not_mem_nil, or_false, not_or]; exact ⟨hb1, hb2⟩) (Heap.get?_push_of_some _ (Heap.get?_push_of_some _ e))

      · cases r₂ with
        | error e => exact hr₂
        | ok fl₂ =>
          cases fl₂ with
          | ret r =>
            obtain ⟨rfl, h', tk, c', rfl, hS', hc', hk'⟩ := hr₂
            repeat (any_goals (first | assumption | wp_step))
            exact h _ _ _ hS' hc' hk'
          | _ => exact hr₂.elim
    | _ => exact hr.elim

end
end L2
namespace DL
open PySem L2
section
variable {X : Cx}
theorem cr_setOfI (hc : X.calm = true) : CallR X (.type "set") (fun xs H Q => ∃ (l : Addr) (ns : List Int), xs = [V.ref l] ∧ SqL X.K H l (ns.map V.int) ∧ ns.length < 64 ∧
    ∀ p c, H p = none → c ≤ ns.length → Q (.ref p) (upd H p (SetO X.w p (fun j => decide (j ∈ ns)) c))) := by
  intro pins s σ H xs us Q J r h
  obtain ⟨l, ns, rfl, hl, hf, q⟩ := h
  rw [Vals.ref1 r]
  obtain ⟨its, rv, pl, hz⟩ := J.list hl
  have hn : H s.heap.objs.size = none := J.hok.fresh (Nat.le_refl _)
  refine call_set_lstI (P := X.prog) (w := X.w) ns (J.ok.hd hc) pl.isList (by simpa using ints_of_vals rv) (by show ns.length + 1 < scanBound; unfold scanBound; omega) fun h' tk c R hcn k => ?_
  exact ⟨.ref s.heap.objs.size, upd H s.heap.objs.size (SetO X.w s.heap.objs.size _ c), J.laid (t' := tk) k (Nat.le_refl _) (setO_new R), rfl, q _ c hn hcn⟩
end
end DL

/-! DL17: sorted(set(numbers)) as an expression -/
namespace DL
open PySem L2
def insU (k : Int) : List Int → List Int
  | [] => [k]
  | x :: r => if k < x then k :: x :: r else if k = x then x :: r else x :: insU k r
def sortU (ns : List Int) : List Int := ns.foldr insU []
def opSortU : D → Option D
  | .lst ds => (intsOf ds).bind fun ns => if ns.length < 64 then some (.lst ((sortU ns).map D.int)) else none
  | _ => none
theorem mem_insU (k j : Int) : ∀ l : List Int, j ∈ insU k l ↔ j = k ∨ j ∈ l
  | [] => by simp [insU]
  | x :: r => by
    unfold insU
    split
    · simp
    · split
      · rename_i h; subst h; simp
      · simp only [List.mem_cons, mem_insU k j r]
        constructor
        · rintro (h | h | h) <;> simp [h]
        · rintro (h | h | h) <;> simp [h]
theorem pw_insU (k : Int) : ∀ l : List Int, l.Pairwise (· < ·) → (insU k l).Pairwise (· < ·)
  | [], _ => by simp [insU]
  | x :: r, h => by
    rw [List.pairwise_cons] at h
    unfold insU
    split
    · rename_i hk
      rw [List.pairwise_cons]
      refine ⟨fun y hy => ?_, List.pairwise_cons.mpr h⟩
      rcases List.mem_cons.mp hy with rfl | hy
      · exact hk
      · have := h.1 y hy; omega
    · split
      · exact List.pairwise_cons.mpr h
      · rename_i h1 h2
        rw [List.pairwise_cons]
        refine ⟨fun y hy => ?_, pw_insU k r h.2⟩
        rcases (mem_insU k y r).mp hy with rfl | hy
        · omega
        · exact h.1 y hy
theorem mem_sortU (j : Int) : ∀ ns : List Int, j ∈ sortU ns ↔ j ∈ ns
  | [] => by simp [sortU]
  | x :: r => by
    have := mem_sortU j r
    unfold sortU at this ⊢
    rw [List.foldr_cons, mem_insU, this, List.mem_cons]
theorem pw_sortU : ∀ ns : List Int, (sortU ns).Pairwise (· < ·)
  | [] => by simp [sortU]
  | x :: r => by
    have := pw_sortU r
    unfold sortU at this ⊢
    rw [List.foldr_cons]
    exact pw_insU x _ this
theorem strict_unique : ∀ {l m : List Int}, l.Pairwise (· < ·) → m.Pairwise (· < ·) → (∀ k, k ∈ l ↔ k ∈ m) → l = m
  | [], [], _, _, _ => rfl
  | [], y :: m, _, _, h => by have := (h y).mpr (by simp); simp at this
  | x :: l, [], _, _, h => by have := (h x).mp (by simp); simp at this
  | x :: l, y :: m, hl, hm, h => by
    rw [List.pairwise_cons] at hl hm
    have e : x = y := by
      rcases List.mem_cons.mp ((h x).mp (by simp)) with e | e
      · exact e
      · rcases List.mem_cons.mp ((h y).mpr (by simp)) with e2 | e2
        · exact e2.symm
        · have := hl.1 y e2; have := hm.1 x e; omega
    subst e
    rw [strict_unique hl.2 hm.2 fun k => ?_]
    have := h k
    simp only [List.mem_cons] at this
    constructor
    · intro hk
      rcases this.mp (.inr hk) with e | e
      · subst e; have := hl.1 k hk; omega
      · exact e
    · intro hk
      rcases this.mpr (.inr hk) with e | e
      · subst e; have := hm.1 k hk; omega
      · exact e
section
variable {X : Cx} {κ : Nat → Addr} {W : WX} {e : PySem.Expr}
theorem de_sortU {f : EM D} {p p2 pos pos2 : Pos} (hc : X.calm = true) (hm : X.mg "sorted" = none) (hm2 : X.mg "set" = none) (he : PE X e (teD X.K κ W f)) (hg : Gl X "sorted" := by rfl) (hg2 : Gl X "set" := by rfl)
    (h1 : starEach [e] X.env = (false, eval e X.env) :: starEach [] X.env := by rfl) (h2 : (backTo pos2 (starEach [] X.env)).any (·.1) = false := by rfl)
    (h3 : starEach [.Call (.Name "set" p2) [e] [] pos2] X.env = (false, eval (.Call (.Name "set" p2) [e] [] pos2) X.env) :: starEach [] X.env := by rfl) (h4 : (backTo pos (starEach [] X.env)).any (·.1) = false := by rfl) :
    PE X (.Call (.Name "sorted" p) [.Call (.Name "set" p2) [e] [] pos2] [] pos) (teD X.K κ W (eUn opSortU f)) := by
  refine pe_imp (pe_callB (cr_sortedSet hc) hg hm (by rfl) (pa_cons (pe_callTy (cr_setOfI hc) hg2 hm2 (by rfl) (pa_cons he pa_nil h1) (by decide) (by decide) h1 h2) pa_nil h3) (by decide) (by decide) h3 h4) fun σ H Q h => ?_
  obtain ⟨I, F, env, k, p⟩ := h
  refine ⟨I, F, env, k, Post.mono (p.bind (R := RD X.K κ)) ?_⟩
  rintro x H1 ⟨I1, env1, d, nfp, s1, k1, ⟨r, rfl⟩, p1⟩
  obtain ⟨d', ed, p3⟩ := p1.lift1
  unfold opSortU at ed
  split at ed
  · rename_i ds
    cases hi : intsOf ds with
    | none => rw [hi] at ed; cases ed
    | some ns =>
      rw [hi] at ed
      simp only [Option.bind] at ed
      split at ed
      · rename_i hlen
        cases ed
        have := intsOf_some hi
        subst this
        cases r with
        | lst hI r =>
          have := r.ofInts
          subst this
          refine ⟨_, ns, rfl, SqL.of (k1.ext _ _ hI), hlen, fun a c ha hcn => ?_⟩
          obtain ⟨k2, s2, e2⟩ := k1.newI (o := SetO X.w a (fun j => decide (j ∈ ns)) c) ha
          refine ⟨a, _, c, rfl, upd_same, by omega, fun ms p pw mm ml hp => ?_⟩
          have : ms = sortU ns := strict_unique pw (pw_sortU ns) fun z => by rw [mm z, mem_sortU]; simp
          subst this
          obtain ⟨k3, s3, e3⟩ := k2.newI (o := .lst ((sortU ns).map V.int)) hp
          exact p3 _ _ _ [] (s2.trans s3) k3 ⟨.lst e3 RpA.ints, rfl⟩
      · cases ed
  · cases ed
end
end DL

/-! DL18: methods of data, defs with defaults, the start of a law -/
namespace DL
open PySem L2
section
variable {X : Cx} {κ : Nat → Addr} {W : WX} {e o : PySem.Expr} {es : List PySem.Expr} {pos : Pos}
theorem hr65 {k : Nat} {A : Around} (r : Room k A) : A.units + 65 < cLine := by have := r.un; omega
theorem methE_run {c : Nat} {m : Str} {Φ : List SV → RE SV} {ars : List AR} {f : EM D} {te : TE} {t : TA} {σ : L2.St} {H : Hp} {Q : VK} {E : L2.St → XK} (hE : ∀ σ cls dd H', W cls dd σ H' → E σ cls dd H') (hf : ∀ σ H Q, teD X.K κ W f σ H Q → te σ H Q) (ht : ∀ σ H Q, taV X.K κ W ars σ H Q → t σ H Q) (h : teS X.K κ W (methE c m f Φ ars) σ H Q) :
    te σ H fun x H1 => ∃ a dx fs, x = .ref a ∧ H1 a = some (.ins (κ c) dx fs) ∧ fs.lookup m = none ∧ t σ H1 fun vs H2 => spD X.K κ Φ (x :: vs) H2 Q (E σ) := by
  obtain ⟨I, F, env, k, p⟩ := h
  refine hf _ _ _ ⟨I, F, env, k, Post.mono (Post.bind (R := RD X.K κ) p) ?_⟩
  rintro x H1 ⟨I1, env1, d, nfp, s1, k1, ⟨rx, rfl⟩, p1⟩
  split at p1
  · rename_i c' gs
    split at p1
    · rename_i hc
      obtain ⟨rfl, hl⟩ := hc
      cases rx with
      | obj ho of => exact ⟨_, _, _, rfl, k1.ext _ _ ho, of.lookup_none hl, call_dat ht k1 (.obj ho of) (hE σ) p1⟩
    · exact p1.elim
  · exact p1.elim
theorem de_methE {c : Nat} {m : Str} {Φ : List SV → RE SV} {ars : List AR} {pl : Sem Bool} {apos : Pos} {f : Addr} {k : Nat} {fd : FuncData} {ps : List Str} {g : EM D} (he : PE X o (teD X.K κ W g)) (hc : Cls X.K (κ c)) (hm : Meth X.K (κ c) m f) (G : FnD X κ k f fd ps Φ) (hr : Room k X.A) (hb : Binds X.K fd ps []) (tk : Takes X W) (ha : PA X (e :: es) (taV X.K κ W ars))
    (hst : starEach (e :: es) X.env = (false, eval e X.env) :: starEach es X.env := by rfl) (hpl : (backTo pos (starEach es X.env)).any (·.1) = false := by rfl)
    (ht : eval (.Call (.Attribute o m apos) (e :: es) [] pos) X.env = (do
      let r ← eval o X.env
      standAt apos.atName
      let (g, first) ← holding [r] (getMethod r m pl)
      callWith pos g first (backTo pos (starEach (e :: es) X.env)) (backToKw pos (keywordEach [] X.env))) := by rfl) :
    PE X (.Call (.Attribute o m apos) (e :: es) [] pos) (teS X.K κ W (methE c m g Φ ars)) :=
  pe_imp (pe_methS he hc hm G hr hb (fun σ => passAt tk σ) ha hst hpl ht) fun σ H Q h => methE_run (fun _ _ _ _ h => h) (fun _ _ _ h => h) (fun _ _ _ h => h) h
theorem de_methE0 {c : Nat} {m : Str} {Φ : List SV → RE SV} {pl : Sem Bool} {apos : Pos} {f : Addr} {k : Nat} {fd : FuncData} {ps : List Str} {g : EM D} (he : PE X o (teD X.K κ W g)) (hc : Cls X.K (κ c)) (hm : Meth X.K (κ c) m f) (G : FnD X κ k f fd ps Φ) (hr : Room k X.A) (hb : Binds X.K fd ps []) (tk : Takes X W)
    (ht : eval (.Call (.Attribute o m apos) [] [] pos) X.env = (do
      let r ← eval o X.env
      standAt apos.atName
      let (g, first) ← holding [r] (getMethod r m pl)
      callWith pos g first (backTo pos (starEach [] X.env)) (backToKw pos (keywordEach [] X.env))) := by rfl) :
    PE X (.Call (.Attribute o m apos) [] [] pos) (teS X.K κ W (methE c m g Φ [])) :=
  pe_imp (pe_methS0 he hc hm G hr hb (fun σ => passAt tk σ) ht) fun σ H Q h => methE_run (t := tNil) (fun _ _ _ _ h => h) (fun _ _ _ h => h) (fun σ H Q h => by
    obtain ⟨I, F, env, k, p⟩ := h
    exact p I H _ [] (Step.refl F I) k ⟨.nil, .nil⟩) h
end
section
variable {P : Program} {w : World} {K : PySem.W.Frag} {mg : Str → Option Value} {base : Heap} {κ : Nat → Addr}
theorem fn_stuck {k : Nat} {f : Addr} {fd : FuncData} {ps : List Str} : FnOk P w K mg base (L2.CX P w) k f fd ps (spD K κ fun _ => .stuck) :=
  ⟨fun vs H Q E h => by obtain ⟨I, F, args, ko, p⟩ := h; exact p.elim, fun A outer s H args us vs Q E _ _ _ _ h => by obtain ⟨I, F, args, ko, p⟩ := h; exact p.elim⟩
theorem pins_ok {modes : List Bool} {pin : List Nat} (h : ((List.range modes.length).all fun i => !(modes[i]? == some true) || decide (i ∈ pin)) = true) : ∀ i, modes[i]? = some true → i ∈ pin := fun i e => by
  have hi : i < modes.length := (List.getElem?_eq_some_iff.mp e).1
  have := List.all_eq_true.mp h i (List.mem_range.mpr hi)
  rw [e] at this
  simpa using this
/-- THE RULE of a def that may have defaults -/
theorem fn_okD {dvs : List V} {x qual : Str} {st : PySem.Stmt} {f : Addr} {fd : FuncData} {N ps : List Str} {k : Nat} {modes : List Bool} {body : SM} (pin : List Nat) (G : FunD K x qual (defArgs st) (defBody st) (defScope st) dvs [] f fd) (S : FnScope N ps (defScope st)) (hm : modes.length = ps.length := by rfl) (hN : ps.length ≤ N.length := by decide)
    (hp : ∀ i, modes[i]? = some true → i ∈ pin)
    (hb : ∀ (cdv : Value) (A : Around) (outer : List Env) (s : Shared) (H : Hp) (E : XK), Room k (A.deeper (PyProof.Rows.envOfC qual (defScope st) s.heap.objs.size f cdv)) → Takes (cxOf (L2.CX P w) P w K mg base N qual (defScope st) f cdv A outer s H E) (fun cls d _ H => E cls d H) →
      PassesOwn (model P w) (A.deeper (PyProof.Rows.envOfC qual (defScope st) s.heap.objs.size f cdv)) (PyProof.Rows.envOfC qual (defScope st) s.heap.objs.size f cdv) (cxOf (L2.CX P w) P w K mg base N qual (defScope st) f cdv A outer s H E).xe →
      PSs (cxOf (L2.CX P w) P w K mg base N qual (defScope st) f cdv A outer s H E) (defBody st) (tsD K κ (fun cls d _ H => E cls d H) pin body)) :
    FnOk P w K mg base (L2.CX P w) (k + 1) f fd ps (spD K κ (fnD modes N.length body)) := by
  have lenOf : ∀ vs H Q E, spD K κ (fnD modes N.length body) vs H Q E → vs.length = ps.length := by
    rintro vs H Q E ⟨I, F, args, ko, p⟩
    have h1 := ko.len
    simp only [List.length_map] at h1
    by_cases h2 : args.length = modes.length
    · omega
    · unfold fnD at p
      rw [if_neg h2] at p
      exact p.elim
  refine G.ok S lenOf fun cdv A outer s H vs Q E hr h => ⟨_, hb cdv A outer s H E hr (takes_of rfl rfl rfl rfl) (passes_of rfl), ?_⟩
  have hvl := lenOf vs H Q E h
  obtain ⟨I, F, args, ko, p⟩ := h
  have hal := ko.len
  simp only [List.length_map] at hal
  unfold fnD at p
  have hargs : args.length = modes.length := by omega
  rw [if_pos hargs] at p
  obtain ⟨fp, e, rr⟩ := ko.ex
  have k0 : Ok K κ I F H (L2.start N vs) (args.map some ++ List.replicate (N.length - args.length) none) [] := by
    refine ⟨fp, ?_, rr⟩
    unfold L2.start
    rw [hal]
    exact e.pad _
  refine ⟨I, F, _, k0, ?_⟩
  have slen : (L2.start N vs).length = N.length := by
    unfold L2.start
    rw [List.length_append, List.length_map, List.length_replicate]
    omega
  have hml : vs.length = modes.length := by omega
  have hmN : modes.length ≤ N.length := by omega
  revert p
  cases body (args.map some ++ List.replicate (N.length - args.length) none) with
  | ok fl env' =>
    cases fl with
    | nx => exact fun p I' H' σ' s' pn k' => p I' H' .non [] s' (k'.outs hml hmN (pn.len.trans slen) hp pn) (.dat .non)
    | rt sv => exact fun p I' H' σ' s' pn v nfp k' ow => p I' H' v nfp s' (k'.outs hml hmN (pn.len.trans slen) hp pn) ow
    | bk => exact fun p => p.elim
    | ct => exact fun p => p.elim
  | exc e env' => exact fun p I' H' σ' cls dd s' pn k' ex => p I' H' cls dd s' (k'.outs hml hmN (pn.len.trans slen) hp pn) ex
  | stuck => exact fun p => p.elim
theorem cx_end {P : Program} (w : World) (H : Hp) (s : Shared) (e : Value) (s' : Shared) (h : L2.CX P w [] H s (fun _ _ _ => False) e s') : False := by
  obtain ⟨_, _, _, _, _, _, _, _, _, _, _, _, h⟩ := h
  exact h
/-- a law's start -/
theorem sp_start {Φ : List SV → RE SV} {H : Hp} {a : Addr} {ns : List Int} {Q : VK} {E : XK} (hS : SqL K H a (ns.map V.int)) (h : ∃ o, Φ [.dat (.scr ns)] = .ok (.dat (.bl true)) o) (k : ∀ H', Q (.bl true) H') : spD K κ Φ [.ref a] H Q E := by
  obtain ⟨o, h⟩ := h
  refine ⟨H, fun _ => none, [.dat (.scr ns)], ⟨[], ?_, ⟨fun _ _ q => q, (fun _ _ q => nomatch q), List.nodup_nil, (by simp), (by simp), (by simp)⟩⟩, ?_⟩
  · exact EnvR.so (fp := []) (.dat (.scr hS)) .nil
  · rw [h]
    intro I' H' v nfp _ _ ov
    cases ov with
    | dat r => cases r; exact k H'
end
end DL

/-! DL19: mirrors, run -/
namespace DL
open PySem L2
@[simp] theorem bind_ok {α β : Type} (a : α) (e : Slots) (g : α → EM β) : (RE.ok a e).bind g = g a e := rfl
@[simp] theorem bind_exc {α β : Type} (x : EX) (e : Slots) (g : α → EM β) : (RE.exc x e).bind g = .exc x e := rfl
@[simp] theorem bind_stuck {α β : Type} (g : α → EM β) : (RE.stuck : RE α).bind g = .stuck := rfl
@[simp] theorem bind_ap {α β : Type} (f : EM α) (g : α → EM β) (e : Slots) : EM.bind f g e = (f e).bind g := rfl
@[simp] theorem pure_ap {α : Type} (a : α) (e : Slots) : EM.pure a e = .ok a e := rfl
@[simp] theorem lift_some {α : Type} (a : α) (e : Slots) : lift (some a) e = .ok a e := rfl
@[simp] theorem lift_none {α : Type} (e : Slots) : lift (none : Option α) e = .stuck := rfl
def rVar (o : Option (Option SV)) (i : Nat) (e : Slots) : RE D := match o with
  | some (some (.dat d)) => .ok d e
  | some (some (.own m)) => .ok m.view (e.set i (some (.dat m.view)))
  | _ => .stuck
@[simp] theorem eVar_ap (i : Nat) (e : Slots) : eVar i e = rVar e[i]? i e := rfl
@[simp] theorem rVar_dat (d : D) (i : Nat) (e : Slots) : rVar (some (some (.dat d))) i e = .ok d e := rfl
@[simp] theorem rVar_own (m : MO) (i : Nat) (e : Slots) : rVar (some (some (.own m))) i e = .ok m.view (e.set i (some (.dat m.view))) := rfl
@[simp] theorem view_lf (l : Lf) : (MO.lf l).view = l.view := rfl
@[simp] theorem view_lst (l : List D) : (Lf.lst l).view = .lst l := rfl
@[simp] theorem view_dct (l : List (Key × D)) : (Lf.dct l).view = .dct l := rfl
@[simp] theorem eC_ap (d : D) (e : Slots) : eC d e = .ok d e := rfl
@[simp] theorem eBin_ap (op : D → D → Option D) (f g : EM D) (e : Slots) : eBin op f g e = (f e).bind fun x => g.bind fun y => lift (op x y) := rfl
@[simp] theorem eUn_ap (op : D → Option D) (f : EM D) (e : Slots) : eUn op f e = (f e).bind fun x => lift (op x) := rfl
def rTru (d : D) : EM Bool := lift (match d with | .bl b => some b | _ => none)
@[simp] theorem rTru_bl (b : Bool) (e : Slots) : rTru (.bl b) e = .ok b e := rfl
@[simp] theorem bVal_ap (f : EM D) (e : Slots) : bVal f e = (f e).bind rTru := rfl
def rAnd (g : EM Bool) (c : Bool) : EM Bool := if c = true then g else EM.pure false
@[simp] theorem rAnd_t (g : EM Bool) (e : Slots) : rAnd g true e = g e := rfl
@[simp] theorem rAnd_f (g : EM Bool) (e : Slots) : rAnd g false e = .ok false e := rfl
@[simp] theorem bAnd_ap (f g : EM Bool) (e : Slots) : bAnd f g e = (f e).bind (rAnd g) := rfl
def rOr (g : EM Bool) (c : Bool) : EM Bool := if c = true then EM.pure true else g
@[simp] theorem rOr_t (g : EM Bool) (e : Slots) : rOr g true e = .ok true e := rfl
@[simp] theorem rOr_f (g : EM Bool) (e : Slots) : rOr g false e = g e := rfl
@[simp] theorem bOr_ap (f g : EM Bool) (e : Slots) : bOr f g e = (f e).bind (rOr g) := rfl
@[simp] theorem bNot_ap (f : EM Bool) (e : Slots) : bNot f e = (f e).bind fun c => EM.pure (!c) := rfl
@[simp] theorem eIf_ap (c : EM Bool) (f g : EM D) (e : Slots) : eIf c f g e = (c e).bind fun b => if b = true then f else g := rfl
def rAndV (g : EM D) (c : Bool) : EM D := if c = true then g else EM.pure (.bl false)
def rOrV (g : EM D) (c : Bool) : EM D := if c = true then EM.pure (.bl true) else g
@[simp] theorem rAndV_t (g : EM D) (e : Slots) : rAndV g true e = g e := rfl
@[simp] theorem rAndV_f (g : EM D) (e : Slots) : rAndV g false e = .ok (.bl false) e := rfl
@[simp] theorem rOrV_t (g : EM D) (e : Slots) : rOrV g true e = .ok (.bl true) e := rfl
@[simp] theorem rOrV_f (g : EM D) (e : Slots) : rOrV g false e = g e := rfl
@[simp] theorem eAndV_ap (f g : EM D) (e : Slots) : eAndV f g e = (f e).bind fun x => (lift (dB x)).bind (rAndV g) := rfl
@[simp] theorem eOrV_ap (f g : EM D) (e : Slots) : eOrV f g e = (f e).bind fun x => (lift (dB x)).bind (rOrV g) := rfl
@[simp] theorem dB_bl (b : Bool) : dB (.bl b) = some b := rfl
@[simp] theorem aNil_ap (e : Slots) : aNil e = .ok [] e := rfl
@[simp] theorem aCons_ap (f : EM D) (g : EM (List D)) (e : Slots) : aCons f g e = (f e).bind fun d => g.bind fun ds => EM.pure (d :: ds) := rfl
@[simp] theorem eTup_ap (g : EM (List D)) (e : Slots) : eTup g e = (g e).bind fun ds => lift (tupOf ds) := rfl
@[simp] theorem eLst_ap (g : EM (List D)) (e : Slots) : eLst g e = (g e).bind fun ds => lift (lstOf ds) := rfl
@[simp] theorem sLst_ap (g : EM (List D)) (e : Slots) : sLst g e = (g e).bind fun ds => lift (if ds.length ≤ sizeLine then some (.own (.lf (.lst ds))) else none) := rfl
@[simp] theorem sDat_ap (f : EM D) (e : Slots) : sDat f e = (f e).bind fun d => EM.pure (.dat d) := rfl
@[simp] theorem sDctN_ap (e : Slots) : sDctN e = .ok (.own (.lf (.dct []))) e := rfl
@[simp] theorem eCallB_ap (op : List D → Option D) (g : EM (List D)) (e : Slots) : eCallB op g e = (g e).bind fun ds => lift (op ds) := rfl
def rAsD (sv : SV) : EM D := match sv with
  | .dat d => EM.pure d
  | .own m => EM.pure m.view
@[simp] theorem rAsD_dat (d : D) (e : Slots) : rAsD (.dat d) e = .ok d e := rfl
@[simp] theorem rAsD_own (m : MO) (e : Slots) : rAsD (.own m) e = .ok m.view e := rfl
@[simp] theorem asD_ap (f : EM SV) (e : Slots) : asD f e = (f e).bind rAsD := rfl
/-! statements -/
def rSeq (r : RE Fl) (g : SM) : RE Fl := match r with
  | .ok .nx e => g e
  | r => r
@[simp] theorem rSeq_nx (e : Slots) (g : SM) : rSeq (.ok .nx e) g = g e := rfl
@[simp] theorem rSeq_rt (v : SV) (e : Slots) (g : SM) : rSeq (.ok (.rt v) e) g = .ok (.rt v) e := rfl
@[simp] theorem rSeq_bk (e : Slots) (g : SM) : rSeq (.ok .bk e) g = .ok .bk e := rfl
@[simp] theorem rSeq_exc (x : EX) (e : Slots) (g : SM) : rSeq (.exc x e) g = .exc x e := rfl
@[simp] theorem rSeq_ite {p : Prop} [Decidable p] (a b : RE Fl) (g : SM) : rSeq (if p then a else b) g = if p then rSeq a g else rSeq b g := by split <;> rfl
@[simp] theorem sSeq_ap (f g : SM) (e : Slots) : sSeq f g e = rSeq (f e) g := rfl
@[simp] theorem sNx_ap (e : Slots) : sNx e = .ok .nx e := rfl
@[simp] theorem sBrk_ap (e : Slots) : sBrk e = .ok .bk e := rfl
def rIf (f g : SM) (b : Bool) : SM := fun e => if b = true then f e else g e
@[simp] theorem rIf_ap (f g : SM) (b : Bool) (e : Slots) : rIf f g b e = if b = true then f e else g e := rfl
@[simp] theorem sIf_ap (c : EM Bool) (f g : SM) (e : Slots) : sIf c f g e = (c e).bind (rIf f g) := by
  show RE.bind _ _ = RE.bind _ _
  congr 1
  funext b
  funext e'
  show (if b = true then f else g) e' = if b = true then f e' else g e'
  split <;> rfl
@[simp] theorem setSlot_ap (i : Nat) (x : SV) (e : Slots) : setSlot i x e = if i < e.length then .ok .nx (e.set i (some x)) else .stuck := rfl
@[simp] theorem sAsg_ap (i : Nat) (f : EM SV) (e : Slots) : sAsg i f e = (f e).bind (setSlot i) := rfl
@[simp] theorem sRet_ap (f : EM SV) (e : Slots) : sRet f e = (f e).bind fun x => EM.pure (.rt x) := rfl
@[simp] theorem sDrop_ap (f : EM D) (e : Slots) : sDrop f e = (f e).bind fun _ => sNx := rfl
def rOut (m : List Bool) (r : RE Fl) : RE SV := match r with
  | .ok (.rt sv) e => .ok sv (outs m e)
  | .ok .nx e => .ok (.dat .non) (outs m e)
  | .exc x e => .exc x (outs m e)
  | _ => .stuck
@[simp] theorem rOut_rt (m : List Bool) (v : SV) (e : Slots) : rOut m (.ok (.rt v) e) = .ok v (outs m e) := rfl
@[simp] theorem rOut_nx (m : List Bool) (e : Slots) : rOut m (.ok .nx e) = .ok (.dat .non) (outs m e) := rfl
@[simp] theorem rOut_ite (m : List Bool) {p : Prop} [Decidable p] (a b : RE Fl) : rOut m (if p then a else b) = if p then rOut m a else rOut m b := by split <;> rfl
theorem fnD_ap (m : List Bool) (n : Nat) (b : SM) (args : List SV) (h : args.length = m.length) : fnD m n b args = rOut m (b (args.map some ++ List.replicate (n - args.length) none)) := by
  unfold fnD rOut
  rw [if_pos h]
  all_goals (cases b (args.map some ++ List.replicate (n - args.length) none) <;> first | rfl | (rename_i fl _; cases fl <;> rfl))
@[simp] theorem outs_nil (e : Slots) : outs [] e = [] := rfl
@[simp] theorem outs_cf (m : List Bool) (x : Option SV) (e : Slots) : outs (false :: m) (x :: e) = none :: outs m e := rfl
@[simp] theorem outs_ct (m : List Bool) (x : Option SV) (e : Slots) : outs (true :: m) (x :: e) = x :: outs m e := rfl
/-! calls -/
@[simp] theorem evA_nil (e : Slots) : evA [] e = .ok [] e := rfl
@[simp] theorem evA_dat (f : EM D) (r : List AR) (e : Slots) : evA (.dat f :: r) e = (f e).bind fun d => (evA r).bind fun as => EM.pure (.dat d :: as) := rfl
def rEnd (avs : List AV) (r : RE SV) (e : Slots) : RE SV := match r with
  | .ok sv outs => match putA avs outs e with
    | some e2 => .ok sv e2
    | none => .stuck
  | .exc x outs => match putA avs outs e with
    | some e2 => .exc x e2
    | none => .stuck
  | .stuck => .stuck
def rPut (sv : SV) (o : Option Slots) : RE SV := match o with
  | some e2 => .ok sv e2
  | none => .stuck
@[simp] theorem rPut_some (sv : SV) (e : Slots) : rPut sv (some e) = .ok sv e := rfl
@[simp] theorem rEnd_ok (avs : List AV) (sv : SV) (o e : Slots) : rEnd avs (.ok sv o) e = rPut sv (putA avs o e) := by
  unfold rEnd rPut
  simp only []
def rCall (Φ : List SV → RE SV) (avs : List AV) (o : Option (List SV × Slots)) : RE SV := match o with
  | none => .stuck
  | some (args, e1) => rEnd avs (Φ args) e1
@[simp] theorem rCall_some (Φ : List SV → RE SV) (avs : List AV) (args : List SV) (e1 : Slots) : rCall Φ avs (some (args, e1)) = rEnd avs (Φ args) e1 := rfl
@[simp] theorem callD_ap (Φ : List SV → RE SV) (ars : List AR) (e : Slots) : callD Φ ars e = (evA ars e).bind fun avs e => rCall Φ avs (takeA avs e) := by
  unfold callD rCall rEnd
  show RE.bind _ _ = RE.bind _ _
  congr 1
@[simp] theorem takeA_nil (e : Slots) : takeA [] e = some ([], e) := rfl
@[simp] theorem takeA_dat (d : D) (r : List AV) (e : Slots) : takeA (.dat d :: r) e = (takeA r e).map fun p => (.dat d :: p.1, p.2) := rfl
@[simp] theorem putA_nil (o e : Slots) : putA [] o e = some e := rfl
@[simp] theorem putA_dat (d : D) (r : List AV) (x : Option SV) (o e : Slots) : putA (.dat d :: r) (x :: o) e = putA r o e := by cases x <;> rfl
/-! loops -/
def rLoop (g : TM) (body : SM) (ds : List D) (r : RE Fl) : RE Fl := match r with
  | .ok .nx e => loopD g body ds e
  | .ok .ct e => loopD g body ds e
  | .ok .bk e => .ok .nx e
  | r => r
def rTgt (g : TM) (body : SM) (ds : List D) (o : Option Slots) : RE Fl := match o with
  | none => .stuck
  | some e => rLoop g body ds (body e)
@[simp] theorem rLoop_nx (g : TM) (body : SM) (ds : List D) (e : Slots) : rLoop g body ds (.ok .nx e) = loopD g body ds e := rfl
@[simp] theorem rLoop_bk (g : TM) (body : SM) (ds : List D) (e : Slots) : rLoop g body ds (.ok .bk e) = .ok .nx e := rfl
@[simp] theorem rLoop_rt (g : TM) (body : SM) (ds : List D) (v : SV) (e : Slots) : rLoop g body ds (.ok (.rt v) e) = .ok (.rt v) e := rfl
@[simp] theorem rLoop_ite (g : TM) (body : SM) (ds : List D) {p : Prop} [Decidable p] (a b : RE Fl) : rLoop g body ds (if p then a else b) = if p then rLoop g body ds a else rLoop g body ds b := by split <;> rfl
@[simp] theorem rTgt_some (g : TM) (body : SM) (ds : List D) (e : Slots) : rTgt g body ds (some e) = rLoop g body ds (body e) := rfl
@[simp] theorem loop_nil (g : TM) (body : SM) (e : Slots) : loopD g body [] e = .ok .nx e := rfl
@[simp] theorem loop_cons (g : TM) (body : SM) (d : D) (ds : List D) (e : Slots) : loopD g body (d :: ds) e = rTgt g body ds (g d e) := by
  unfold rTgt rLoop
  simp only [loopD]
  all_goals (cases g d e <;> first | rfl | (rename_i e1; simp only []; cases body e1 <;> first | rfl | (rename_i fl _; cases fl <;> rfl)))
@[simp] theorem sFor_ap (it : EM (List D)) (g : TM) (body : SM) (e : Slots) : sFor it g body e = (it e).bind fun ds => loopD g body ds := rfl
@[simp] theorem gN_ap (i : Nat) (d : D) (e : Slots) : gN i d e = if i < e.length then some (e.set i (some (.dat d))) else none := rfl
@[simp] theorem gT_tup (gs : List TM) (ds : List D) (e : Slots) : gT gs (.tup ds) e = gTs gs ds e := rfl
@[simp] theorem gTs_nil (e : Slots) : gTs [] [] e = some e := rfl
@[simp] theorem gTs_cons (g : TM) (gs : List TM) (d : D) (ds : List D) (e : Slots) : gTs (g :: gs) (d :: ds) e = (g d e).bind (gTs gs ds) := rfl
@[simp] theorem iSeq_ap (f : EM D) (e : Slots) : iSeq f e = (f e).bind fun d => lift (itemsOf d) := rfl
@[simp] theorem itemsOf_lst (l : List D) : itemsOf (.lst l) = some l := rfl
@[simp] theorem itemsOf_tup (l : List D) : itemsOf (.tup l) = some l := rfl
def rEnum (ds : List D) : EM (List D) := match ds with
  | [.lst xs] => EM.pure (enumD xs)
  | _ => fun _ => .stuck
@[simp] theorem rEnum_l (xs : List D) (e : Slots) : rEnum [.lst xs] e = .ok (enumD xs) e := rfl
@[simp] theorem iEnumD_ap (g : EM (List D)) (e : Slots) : iEnumD g e = (g e).bind rEnum := rfl
def rZip (ds : List D) : EM (List D) := match ds with
  | [.lst xs, .lst ys] => EM.pure (zipD xs ys)
  | [.tup xs, .tup ys] => EM.pure (zipD xs ys)
  | _ => fun _ => .stuck
@[simp] theorem rZip_l (xs ys : List D) (e : Slots) : rZip [.lst xs, .lst ys] e = .ok (zipD xs ys) e := rfl
@[simp] theorem iZipD_ap (g : EM (List D)) (e : Slots) : iZipD g e = (g e).bind rZip := rfl
noncomputable def rRng (ds : List D) : EM (List D) := match ds with
  | [.int j] => lift (if smallI j then some (rangeD 0 j) else none)
  | _ => fun _ => .stuck
@[simp] theorem rRng_1 (j : Int) (e : Slots) : rRng [.int j] e = lift (if smallI j then some (rangeD 0 j) else none) e := id rfl
@[simp] theorem iRange_ap (g : EM (List D)) (e : Slots) : iRange g e = (g e).bind rRng := id rfl
/-! comprehensions -/
def rAcc (vs : List Nat) (g : TM) (t : EM Bool) (f : EM D) (ds acc : List D) (r : RE D) : RE (List D) := match r with
  | .ok y e3 => if acc.length < sizeLine then lcLoop vs g t f ds (acc ++ [y]) e3 else .stuck
  | _ => .stuck
def rTst (vs : List Nat) (g : TM) (t : EM Bool) (f : EM D) (ds acc : List D) (r : RE Bool) : RE (List D) := match r with
  | .ok true e2 => rAcc vs g t f ds acc (f e2)
  | .ok false e2 => lcLoop vs g t f ds acc e2
  | _ => .stuck
def rLc (vs : List Nat) (g : TM) (t : EM Bool) (f : EM D) (ds acc : List D) (o : Option Slots) : RE (List D) := match o with
  | none => .stuck
  | some e1 => rTst vs g t f ds acc (t e1)
@[simp] theorem rAcc_ok (vs : List Nat) (g : TM) (t : EM Bool) (f : EM D) (ds acc : List D) (y : D) (e : Slots) : rAcc vs g t f ds acc (.ok y e) = if acc.length < sizeLine then lcLoop vs g t f ds (acc ++ [y]) e else .stuck := rfl
@[simp] theorem rTst_t (vs : List Nat) (g : TM) (t : EM Bool) (f : EM D) (ds acc : List D) (e : Slots) : rTst vs g t f ds acc (.ok true e) = rAcc vs g t f ds acc (f e) := rfl
@[simp] theorem rTst_f (vs : List Nat) (g : TM) (t : EM Bool) (f : EM D) (ds acc : List D) (e : Slots) : rTst vs g t f ds acc (.ok false e) = lcLoop vs g t f ds acc e := rfl
@[simp] theorem rLc_some (vs : List Nat) (g : TM) (t : EM Bool) (f : EM D) (ds acc : List D) (e : Slots) : rLc vs g t f ds acc (some e) = rTst vs g t f ds acc (t e) := rfl
@[simp] theorem lcLoop_nil' (vs : List Nat) (g : TM) (t : EM Bool) (f : EM D) (acc : List D) (e : Slots) : lcLoop vs g t f [] acc e = .ok acc e := by simp only [lcLoop]
@[simp] theorem lcLoop_cons' (vs : List Nat) (g : TM) (t : EM Bool) (f : EM D) (d : D) (ds acc : List D) (e : Slots) : lcLoop vs g t f (d :: ds) acc e = rLc vs g t f ds acc (g d (wipeE e vs)) := by
  unfold rLc rTst rAcc
  simp only [lcLoop]
  all_goals (cases g d (wipeE e vs) <;> first | rfl | (rename_i e1; simp only []; cases t e1 <;> first | rfl | (rename_i b e2; cases b <;> first | rfl | (simp only []; cases f e2 <;> rfl))))
def rFin (e : Slots) (vs : List Nat) (r : RE (List D)) : RE (List D) := match r with
  | .ok acc e' => if noOwn e vs then .ok acc (backE e (wipeE e' vs) vs) else .stuck
  | _ => .stuck
@[simp] theorem rFin_ok (e : Slots) (vs : List Nat) (acc : List D) (e' : Slots) : rFin e vs (.ok acc e') = if noOwn e vs then .ok acc (backE e (wipeE e' vs) vs) else .stuck := rfl
@[simp] theorem eLc_ap (vs : List Nat) (it : EM (List D)) (g : TM) (t : EM Bool) (f : EM D) (e : Slots) : eLc vs it g t f e = (it e).bind fun ds e => rFin e vs (lcLoop vs g t f ds [] e) := by
  unfold eLc rFin
  show RE.bind _ _ = RE.bind _ _
  congr 1
@[simp] theorem bYes_ap (e : Slots) : bYes e = .ok true e := rfl
@[simp] theorem lcF_ap (f : EM (List D)) (e : Slots) : lcF f e = (f e).bind fun ds => EM.pure (.lst ds) := rfl
@[simp] theorem lcO_ap (f : EM (List D)) (e : Slots) : lcO f e = (f e).bind fun ds => EM.pure (.own (.lf (.lst ds))) := rfl
@[simp] theorem wipeE_nil (e : Slots) : wipeE e [] = e := rfl
@[simp] theorem wipeE_cons (e : Slots) (v : Nat) (vs : List Nat) : wipeE e (v :: vs) = (wipeE e vs).set v none := rfl
def rBack (o : Option (Option SV)) (v : Nat) (e : Slots) : Slots := match o with
  | some (some (.dat d)) => e.set v (some (.dat d))
  | _ => e
@[simp] theorem rBack_d (d : D) (v : Nat) (e : Slots) : rBack (some (some (.dat d))) v e = e.set v (some (.dat d)) := rfl
@[simp] theorem rBack_n (v : Nat) (e : Slots) : rBack (some none) v e = e := rfl
@[simp] theorem backE_nil (o e : Slots) : backE o e [] = e := rfl
@[simp] theorem backE_cons (o e : Slots) (v : Nat) (vs : List Nat) : backE o e (v :: vs) = rBack o[v]? v (backE o e vs) := by
  rfl
@[simp] theorem noOwn_nil (e : Slots) : noOwn e [] = true := rfl
def rNo (o : Option (Option SV)) : Bool := match o with
  | some (some (.own _)) => false
  | _ => true
@[simp] theorem rNo_d (d : D) : rNo (some (some (.dat d))) = true := rfl
@[simp] theorem rNo_n : rNo (some none) = true := rfl
@[simp] theorem noOwn_cons (e : Slots) (v : Nat) (vs : List Nat) : noOwn e (v :: vs) = (rNo e[v]? && noOwn e vs) := by
  rfl
/-! own lists and dicts -/
def rOwnIx (o : Option (Option SV)) (x : Option D) (e : Slots) : RE D := match o with
  | some (some (.own (.lf (.lst ds)))) => lift (x.bind fun d => (Lf.lst ds).at_ d) e
  | some (some (.dat d)) => lift (x.bind fun y => opIx d y) e
  | _ => .stuck
@[simp] theorem rOwnIx_o (ds : List D) (d : D) (e : Slots) : rOwnIx (some (some (.own (.lf (.lst ds))))) (some d) e = lift ((Lf.lst ds).at_ d) e := rfl
@[simp] theorem rOwnIx_d (d y : D) (e : Slots) : rOwnIx (some (some (.dat d))) (some y) e = lift (opIx d y) e := rfl
@[simp] theorem eOwnIx_ap (i : Nat) (g : EM D) (e : Slots) : eOwnIx i g e = rOwnIx e[i]? (qD g e) e := by
  unfold eOwnIx rOwnIx
  split <;> simp_all
def rOwnGet (o : Option (Option SV)) (x : Option D) (e : Slots) : RE D := match o with
  | some (some (.own (.lf (.dct ds)))) => lift (x.bind fun d => (Lf.dct ds).at_ d) e
  | some (some (.dat d)) => lift (x.bind fun y => opGet d y) e
  | _ => .stuck
@[simp] theorem rOwnGet_o (ds : List (Key × D)) (d : D) (e : Slots) : rOwnGet (some (some (.own (.lf (.dct ds))))) (some d) e = lift ((Lf.dct ds).at_ d) e := rfl
@[simp] theorem rOwnGet_d (d y : D) (e : Slots) : rOwnGet (some (some (.dat d))) (some y) e = lift (opGet d y) e := rfl
@[simp] theorem eOwnGet_ap (i : Nat) (g : EM D) (e : Slots) : eOwnGet i g e = rOwnGet e[i]? (qD g e) e := by
  unfold eOwnGet rOwnGet
  split <;> simp_all
@[simp] theorem at_lst (ds : List D) (i : Int) : (Lf.lst ds).at_ (.int i) = atI ds i := rfl
@[simp] theorem at_dct (ds : List (Key × D)) (d : D) : (Lf.dct ds).at_ d = (keyOf d).bind (getK ds) := rfl
def rQ (r : RE D) : Option D := match r with
  | .ok d _ => if d.scal = true then some d else none
  | _ => none
@[simp] theorem rQ_i (i : Int) (e : Slots) : rQ (.ok (.int i) e) = some (.int i) := rfl
@[simp] theorem rQ_s (i : Str) (e : Slots) : rQ (.ok (.str i) e) = some (.str i) := rfl
@[simp] theorem rQ_b (i : Bool) (e : Slots) : rQ (.ok (.bl i) e) = some (.bl i) := rfl
@[simp] theorem qD_ap (g : EM D) (e : Slots) : qD g e = rQ (g (viewEnv e)) := by
  unfold qD rQ
  rfl
@[simp] theorem viewEnv_nil : viewEnv [] = [] := rfl
@[simp] theorem viewEnv_n (e : Slots) : viewEnv (none :: e) = none :: viewEnv e := rfl
@[simp] theorem viewEnv_d (d : D) (e : Slots) : viewEnv (some (.dat d) :: e) = some (.dat d) :: viewEnv e := rfl
@[simp] theorem viewEnv_o (m : MO) (e : Slots) : viewEnv (some (.own m) :: e) = some (.dat m.view) :: viewEnv e := rfl
def rEQ (r : RE D) (e : Slots) : RE D := match r with
  | .ok d _ => if d.scal = true then .ok d e else .stuck
  | _ => .stuck
@[simp] theorem rEQ_i (i : Int) (e e' : Slots) : rEQ (.ok (.int i) e) e' = .ok (.int i) e' := rfl
@[simp] theorem rEQ_s (i : Str) (e e' : Slots) : rEQ (.ok (.str i) e) e' = .ok (.str i) e' := rfl
@[simp] theorem rEQ_b (i : Bool) (e e' : Slots) : rEQ (.ok (.bl i) e) e' = .ok (.bl i) e' := rfl
@[simp] theorem eQ_ap (g : EM D) (e : Slots) : eQ g e = rEQ (g (viewEnv e)) e := rfl
def rBQ (r : RE Bool) (e : Slots) : RE Bool := match r with
  | .ok d _ => .ok d e
  | _ => .stuck
@[simp] theorem rBQ_ok (b : Bool) (e e' : Slots) : rBQ (.ok b e) e' = .ok b e' := rfl
@[simp] theorem bQ_ap (g : EM Bool) (e : Slots) : bQ g e = rBQ (g (viewEnv e)) e := rfl
def rApp (i : Nat) (d : D) (e : Slots) (o : Option (Option SV)) : RE Fl := match o with
  | some (some (.own (.lf (.lst ds)))) => if ds.length < sizeLine then .ok .nx (e.set i (some (.own (.lf (.lst (ds ++ [d])))))) else .stuck
  | _ => .stuck
@[simp] theorem rApp_o (i : Nat) (d : D) (e : Slots) (ds : List D) : rApp i d e (some (some (.own (.lf (.lst ds))))) = if ds.length < sizeLine then .ok .nx (e.set i (some (.own (.lf (.lst (ds ++ [d])))))) else .stuck := rfl
def rIsL (o : Option (Option SV)) : Bool := match o with
  | some (some (.own (.lf (.lst _)))) => true
  | _ => false
@[simp] theorem rIsL_o (ds : List D) : rIsL (some (some (.own (.lf (.lst ds))))) = true := rfl
@[simp] theorem isLst_ap (e : Slots) (i : Nat) : isLst e i = rIsL e[i]? := rfl
@[simp] theorem sApp_ap (i : Nat) (f : EM D) (e : Slots) : sApp i f e = if isLst e i = true then (f e).bind fun d e => rApp i d e e[i]? else .stuck := rfl
def rExt (i : Nat) (d : D) (e : Slots) (o : Option (Option SV)) : RE Fl := match o, d with
  | some (some (.own (.lf (.lst ds)))), .lst es => if ds.length + es.length ≤ sizeLine then .ok .nx (e.set i (some (.own (.lf (.lst (ds ++ es)))))) else .stuck
  | _, _ => .stuck
@[simp] theorem rExt_o (i : Nat) (es : List D) (e : Slots) (ds : List D) : rExt i (.lst es) e (some (some (.own (.lf (.lst ds))))) = if ds.length + es.length ≤ sizeLine then .ok .nx (e.set i (some (.own (.lf (.lst (ds ++ es)))))) else .stuck := rfl
@[simp] theorem sExt_ap (i : Nat) (f : EM D) (e : Slots) : sExt i f e = if isLst e i = true then (f e).bind fun d e => rExt i d e e[i]? else .stuck := rfl
def rSetD (i : Nat) (d : D) (e : Slots) (o : Option (Option SV)) (k : Option Key) : RE Fl := match o, k with
  | some (some (.own (.lf (.dct ds)))), some k => if ds.length < sizeLine then .ok .nx (e.set i (some (.own (.lf (.dct (setK ds k d)))))) else .stuck
  | _, _ => .stuck
@[simp] theorem rSetD_o (i : Nat) (d : D) (e : Slots) (ds : List (Key × D)) (k : Key) : rSetD i d e (some (some (.own (.lf (.dct ds))))) (some k) = if ds.length < sizeLine then .ok .nx (e.set i (some (.own (.lf (.dct (setK ds k d)))))) else .stuck := rfl
@[simp] theorem sSetD_ap (i : Nat) (g f : EM D) (e : Slots) : sSetD i g f e = (f e).bind fun d e => rSetD i d e e[i]? ((qD g e).bind keyOf) := rfl
@[simp] theorem keyOf_i (i : Int) : keyOf (.int i) = some (.inl i) := rfl
@[simp] theorem keyOf_s (i : Str) : keyOf (.str i) = some (.inr i) := rfl
def rAug (i : Nat) (op : D → D → Option D) (f : EM D) (e : Slots) (o : Option (Option SV)) : RE Fl := match o with
  | some (some (.dat d)) => (f e).bind fun x => (lift (op d x)).bind fun z => setSlot i (.dat z)
  | _ => .stuck
@[simp] theorem rAug_d (i : Nat) (op : D → D → Option D) (f : EM D) (e : Slots) (d : D) : rAug i op f e (some (some (.dat d))) = (f e).bind fun x => (lift (op d x)).bind fun z => setSlot i (.dat z) := rfl
@[simp] theorem sAug_ap (i : Nat) (op : D → D → Option D) (f : EM D) (e : Slots) : sAug i op f e = rAug i op f e e[i]? := rfl
def rAT (o : Option Slots) : RE Fl := match o with
  | some e => .ok .nx e
  | none => .stuck
@[simp] theorem rAT_s (e : Slots) : rAT (some e) = .ok .nx e := rfl
@[simp] theorem sAsgT_ap (g : TM) (f : EM D) (e : Slots) : sAsgT g f e = (f e).bind fun d e => rAT (g d e) := by
  unfold sAsgT rAT
  show RE.bind _ _ = RE.bind _ _
  congr 1
def rPar (i j : Nat) (ds : List D) (e : Slots) : RE Fl := match ds with
  | [x, y] => if i < e.length ∧ j < e.length then .ok .nx ((e.set i (some (.dat x))).set j (some (.dat y))) else .stuck
  | _ => .stuck
@[simp] theorem rPar_2 (i j : Nat) (x y : D) (e : Slots) : rPar i j [x, y] e = if i < e.length ∧ j < e.length then .ok .nx ((e.set i (some (.dat x))).set j (some (.dat y))) else .stuck := rfl
@[simp] theorem sPar_ap (i j : Nat) (g : EM (List D)) (e : Slots) : sPar i j g e = (g e).bind fun ds e => rPar i j ds e := rfl
/-! classes -/
def rFldS (c i : Nat) (f : Str) (e : Slots) (o : Option (Option SV)) (x : Option FV) : RE Fl := match o, x with
  | some (some (.own (.ins c' gs))), some x => if c' = c ∧ gs.length < 1000 then .ok .nx (e.set i (some (.own (.ins c (putFV f x gs))))) else .stuck
  | _, _ => .stuck
@[simp] theorem rFldS_o (c i c' : Nat) (f : Str) (e : Slots) (gs : List (Str × FV)) (x : FV) : rFldS c i f e (some (some (.own (.ins c' gs)))) (some x) = if c' = c ∧ gs.length < 1000 then .ok .nx (e.set i (some (.own (.ins c (putFV f x gs))))) else .stuck := rfl
@[simp] theorem toFV_d (d : D) : toFV (.dat d) = some (.dat d) := rfl
@[simp] theorem toFV_l (l : Lf) : toFV (.own (.lf l)) = some (.own l) := rfl
@[simp] theorem sFldS_ap (c i : Nat) (f : Str) (g : EM SV) (e : Slots) : sFldS c i f g e = (g e).bind fun sv e => rFldS c i f e e[i]? (toFV sv) := rfl
end DL

/-! DL20: operations, run -/
namespace DL
open PySem L2
@[simp] theorem opLt_i (i j : Int) : opLt (.int i) (.int j) = some (.bl (decide (i < j))) := rfl
@[simp] theorem opLe_i (i j : Int) : opLe (.int i) (.int j) = some (.bl (decide (i ≤ j))) := rfl
@[simp] theorem opGt_i (i j : Int) : opGt (.int i) (.int j) = some (.bl (decide (j < i))) := rfl
@[simp] theorem opGe_i (i j : Int) : opGe (.int i) (.int j) = some (.bl (decide (j ≤ i))) := rfl
@[simp] theorem opAdd_i (i j : Int) : opAdd (.int i) (.int j) = some (.int (i + j)) := rfl
@[simp] theorem opIAdd_i (i j : Int) : opIAdd (.int i) (.int j) = some (.int (i + j)) := rfl
@[simp] theorem opSub_i (i j : Int) : opSub (.int i) (.int j) = some (.int (i - j)) := rfl
@[simp] theorem opMul_i (i j : Int) : opMul (.int i) (.int j) = if mulOk i j then some (.int (i * j)) else none := rfl
theorem log2_lt_9000 {n : Nat} (h : n < 10 ^ 100) : n.log2 < 9000 := by
  by_cases z : n = 0
  · subst z; decide +kernel
  · have h2 : n < 2 ^ 400 := Nat.lt_of_lt_of_le h (by decide +kernel)
    have := (Nat.log2_lt z).mpr h2
    omega
@[simp] theorem opFdiv_i (i j : Int) (h : 0 < j) (h2 : j < 10 ^ 100) : opFdiv (.int i) (.int j) = some (.int (i / j)) := by
  show (if 0 < j ∧ j.natAbs.log2 < 9000 then _ else _) = _
  rw [if_pos ⟨h, log2_lt_9000 (by omega)⟩]
@[simp] theorem opMod_i (i j : Int) (h : 0 < j) : opMod (.int i) (.int j) = some (.int (i % j)) := by
  show (if 0 < j then _ else _) = _
  rw [if_pos h]
@[simp] theorem opPow_i (i j : Int) : opPow (.int i) (.int j) = if 0 ≤ j ∧ j ≤ 1000000 ∧ i.natAbs < 2 ^ 64 then some (.int (i ^ j.toNat)) else none := rfl
@[simp] theorem opDivmod_i (i j : Int) (h : 0 < j) (h2 : j < 10 ^ 100) : opDivmod [.int i, .int j] = some (.tup [.int (i / j), .int (i % j)]) := by
  show (if 0 < j ∧ j.natAbs.log2 < 9000 then _ else _) = _
  rw [if_pos ⟨h, log2_lt_9000 (by omega)⟩]
theorem dec_beq {α : Type} [DecidableEq α] (a b : α) : (a == b) = decide (a = b) := by
  by_cases h : a = b <;> simp [h]
@[simp] theorem opEq_i (i j : Int) : opEq (.int i) (.int j) = some (.bl (decide (i = j))) := by
  simp [opEq, eqOk, D.pyOk, D.py, SeqAt.shaped, PyData.eqv, PyData.canLay0, PyData.depth, dec_beq]
@[simp] theorem opNe_i (i j : Int) : opNe (.int i) (.int j) = some (.bl (!decide (i = j))) := by
  simp [opNe, eqOk, D.pyOk, D.py, SeqAt.shaped, PyData.eqv, PyData.canLay0, PyData.depth, dec_beq]
theorem ofS_inj (a b : String) : (Str.ofString a = Str.ofString b) = (a = b) := by
  rw [Str.ofString_eq_toList, Str.ofString_eq_toList]
  simp only [Str.mk.injEq, eq_iff_iff]
  constructor
  · intro h
    have h := congrArg Array.toList h
    simp only at h
    apply String.toList_inj.mp
    exact List.map_inj_right (fun x y e => Char.toNat_inj.mp e) |>.mp h
  · rintro rfl; rfl
theorem strOk_ofS (a : String) : PyData.strOk (Str.ofString a) = true := by
  rw [Str.ofString_eq_toList]
  unfold PyData.strOk
  rw [List.all_toArray, List.all_eq_true]
  intro x hx
  obtain ⟨c, _, rfl⟩ := List.mem_map.mp hx
  rw [decide_eq_true_eq]
  rcases c.valid with h | h
  · show c.val.toNat < _
    omega
  · exact h.2
@[simp] theorem opEq_s (a b : String) : opEq (.str (Str.ofString a)) (.str (Str.ofString b)) = some (.bl (decide (a = b))) := by
  simp [opEq, eqOk, D.pyOk, D.py, SeqAt.shaped, PyData.eqv, PyData.canLay0, PyData.depth, dec_beq, ofS_inj, strOk_ofS]
@[simp] theorem opIsN_n : opIsN .non .non = some (.bl true) := rfl
@[simp] theorem opIsN_i (i : Int) : opIsN (.int i) .non = some (.bl false) := rfl
@[simp] theorem opIsN_t (i : List D) : opIsN (.tup i) .non = some (.bl false) := rfl
@[simp] theorem opNotN_n : opNotN .non .non = some (.bl false) := rfl
@[simp] theorem opNotN_i (i : Int) : opNotN (.int i) .non = some (.bl true) := rfl
@[simp] theorem opNotN_t (i : List D) : opNotN (.tup i) .non = some (.bl true) := rfl
@[simp] theorem opIx_l (ds : List D) (i : Int) : opIx (.lst ds) (.int i) = atI ds i := rfl
@[simp] theorem opIx_t (ds : List D) (i : Int) : opIx (.tup ds) (.int i) = atI ds i := rfl
@[simp] theorem opGet_d (ds : List (Key × D)) (k : D) : opGet (.dct ds) k = (keyOf k).bind (getK ds) := rfl
theorem atI_nat {α : Type} (ds : List α) (n : Nat) : atI ds (n : Int) = ds[n]? := by
  unfold atI ixN
  by_cases h : n < ds.length
  · simp [h]
  · simp [h]
@[simp] theorem atI_0 {α : Type} (ds : List α) : atI ds 0 = ds[0]? := atI_nat ds 0
@[simp] theorem atI_1 {α : Type} (ds : List α) : atI ds 1 = ds[1]? := atI_nat ds 1
@[simp] theorem atI_2 {α : Type} (ds : List α) : atI ds 2 = ds[2]? := atI_nat ds 2
@[simp] theorem atI_3 {α : Type} (ds : List α) : atI ds 3 = ds[3]? := atI_nat ds 3
@[simp] theorem atI_4 {α : Type} (ds : List α) : atI ds 4 = ds[4]? := atI_nat ds 4
@[simp] theorem atI_neg1 {α : Type} (ds : List α) (h : ds ≠ []) : atI ds (-1) = ds[ds.length - 1]? := by
  have : 0 < ds.length := List.length_pos_iff.mpr h
  unfold atI ixN
  rw [if_neg (by decide)]
  have h1 : -(ds.length : Int) ≤ -1 := by omega
  have h2 : (-1 + (ds.length : Int)).toNat = ds.length - 1 := by omega
  simp [h1, h2]
@[simp] theorem unNeg_i (i : Int) : unNeg (.int i) = some (.int (-i)) := rfl
@[simp] theorem opLen_l (ds : List D) : opLen [.lst ds] = some (.int ds.length) := rfl
@[simp] theorem opLen_t (ds : List D) : opLen [.tup ds] = some (.int ds.length) := rfl
@[simp] theorem opLen_c (ds : List Int) : opLen [.scr ds] = some (.int ds.length) := rfl
@[simp] theorem opInt_b (b : Bool) : opInt [.bl b] = some (.int (if b then 1 else 0)) := rfl
@[simp] theorem opInt_i (b : Int) : opInt [.int b] = some (.int b) := rfl
@[simp] theorem opMax_2 (i j : Int) : opMax [.int i, .int j] = some (.int (max i j)) := rfl
@[simp] theorem opSum_l (ds : List D) : opSum [.lst ds] = (intsOf ds).map fun ns => .int ns.sum := rfl
@[simp] theorem opSortU_l (ds : List D) : opSortU (.lst ds) = (intsOf ds).bind fun ns => if ns.length < 64 then some (.lst ((sortU ns).map D.int)) else none := rfl
@[simp] theorem intsOf_nil : intsOf [] = some [] := rfl
@[simp] theorem intsOf_cons (i : Int) (r : List D) : intsOf (.int i :: r) = (intsOf r).map (i :: ·) := rfl
@[simp] theorem sortU_nil : sortU [] = [] := rfl
@[simp] theorem getK_nil {κ' : Type} [DecidableEq κ'] (k : κ') : getK ([] : List (κ' × D)) k = none := rfl
@[simp] theorem getK_cons {κ' : Type} [DecidableEq κ'] (k x : κ') (d : D) (r : List (κ' × D)) : getK ((x, d) :: r) k = if x = k then some d else getK r k := by
  unfold getK
  rw [List.find?_cons]
  by_cases h : x = k <;> simp [h]
@[simp] theorem lenOk (n : Nat) (h : n ≤ 1000) : (n ≤ sizeLine) = True := by
  have := sizeLine_eq
  simp; omega
@[simp] theorem lenOk' (n : Nat) (h : n ≤ 1000) : (n < sizeLine) = True := by
  have := sizeLine_eq
  simp; omega
@[simp] theorem opInS_l (x : D) (ds : List D) : opInS x (.lst ds) = if eqOk x (.lst ds) then some (.bl (ds.any fun z => PyData.eqv z.py x.py)) else none := rfl
@[simp] theorem smallI_iff (i : Int) : smallI i = (-(2 ^ 62) ≤ i ∧ i < 2 ^ 62) := rfl
@[simp] theorem tupOf_ap (ds : List D) : tupOf ds = if ds.length ≤ sizeLine then some (.tup ds) else none := rfl
@[simp] theorem lstOf_ap (ds : List D) : lstOf ds = if ds.length ≤ sizeLine then some (.lst ds) else none := rfl
@[simp] theorem opFld_o (c c' : Nat) (f : Str) (gs : List (Str × D)) : opFld c f (.obj c' gs) = if c' = c then gs.lookup f else none := rfl
@[simp] theorem dNot_b (b : Bool) : dNot (.bl b) = some (.bl (!b)) := rfl
end DL
namespace DL
open PySem L2
/-! classes, run -/
def rNewE (avs : List AV) (e1 : Slots) (r : RE SV) : RE SV := match r with
  | .ok (.dat .non) (some m :: outs) => match putA avs outs e1 with
    | some env2 => .ok m env2
    | none => .stuck
  | .exc e (_ :: outs) => match putA avs outs e1 with
    | some env2 => .exc e env2
    | none => .stuck
  | _ => .stuck
@[simp] theorem rNewE_ok (avs : List AV) (e1 : Slots) (m : SV) (o : Slots) : rNewE avs e1 (.ok (.dat .non) (some m :: o)) = rPut m (putA avs o e1) := by
  rfl
def rNew (c : Nat) (Φ : List SV → RE SV) (avs : List AV) (o : Option (List SV × Slots)) : RE SV := match o with
  | none => .stuck
  | some (args, e1) => rNewE avs e1 (Φ (.own (.ins c []) :: args))
@[simp] theorem rNew_some (c : Nat) (Φ : List SV → RE SV) (avs : List AV) (args : List SV) (e1 : Slots) : rNew c Φ avs (some (args, e1)) = rNewE avs e1 (Φ (.own (.ins c []) :: args)) := rfl
@[simp] theorem newD_ap (c : Nat) (Φ : List SV → RE SV) (ars : List AR) (e : Slots) : newD c Φ ars e = (evA ars e).bind fun avs e => rNew c Φ avs (takeA avs e) := by
  unfold newD newEnd rNew rNewE
  show RE.bind _ _ = RE.bind _ _
  congr 1
def rMeth (c : Nat) (m : Str) (i : Nat) (Φ : List SV → RE SV) (ars : List AR) (e : Slots) (o : Option (Option SV)) : RE SV := match o with
  | some (some (.own (.ins c' gs))) => if c' = c ∧ gs.lookup m = none then callD Φ (.var i :: ars) e else .stuck
  | some (some (.dat (.obj c' gs))) => if c' = c ∧ gs.lookup m = none then callD Φ (.dat (eC (.obj c' gs)) :: ars) e else .stuck
  | _ => .stuck
@[simp] theorem rMeth_d (c : Nat) (m : Str) (i : Nat) (Φ : List SV → RE SV) (ars : List AR) (e : Slots) (c' : Nat) (gs : List (Str × D)) : rMeth c m i Φ ars e (some (some (.dat (.obj c' gs)))) = if c' = c ∧ gs.lookup m = none then callD Φ (.dat (eC (.obj c' gs)) :: ars) e else .stuck := rfl
@[simp] theorem rMeth_o (c : Nat) (m : Str) (i : Nat) (Φ : List SV → RE SV) (ars : List AR) (e : Slots) (c' : Nat) (gs : List (Str × FV)) : rMeth c m i Φ ars e (some (some (.own (.ins c' gs)))) = if c' = c ∧ gs.lookup m = none then callD Φ (.var i :: ars) e else .stuck := rfl
@[simp] theorem methV_ap (c : Nat) (m : Str) (i : Nat) (Φ : List SV → RE SV) (ars : List AR) (e : Slots) : methV c m i Φ ars e = rMeth c m i Φ ars e e[i]? := rfl
def rMethE (c : Nat) (m : Str) (Φ : List SV → RE SV) (ars : List AR) (d : D) : EM SV := match d with
  | .obj c' gs => if c' = c ∧ gs.lookup m = none then callD Φ (.dat (eC d) :: ars) else fun _ => .stuck
  | _ => fun _ => .stuck
@[simp] theorem rMethE_o (c : Nat) (m : Str) (Φ : List SV → RE SV) (ars : List AR) (c' : Nat) (gs : List (Str × D)) (e : Slots) : rMethE c m Φ ars (.obj c' gs) e = if c' = c ∧ gs.lookup m = none then callD Φ (.dat (eC (.obj c' gs)) :: ars) e else .stuck := by
  unfold rMethE
  simp only []
  split <;> rfl
@[simp] theorem methE_ap (c : Nat) (m : Str) (f : EM D) (Φ : List SV → RE SV) (ars : List AR) (e : Slots) : methE c m f Φ ars e = (f e).bind (rMethE c m Φ ars) := rfl
@[simp] theorem view_ins (c : Nat) (fs : List (Str × FV)) : (MO.ins c fs).view = .obj c (fs.map fun p => (p.1, p.2.view)) := rfl
@[simp] theorem view_fd (d : D) : (FV.dat d).view = d := rfl
@[simp] theorem view_fo (l : Lf) : (FV.own l).view = l.view := rfl
@[simp] theorem putFV_nil (f : Str) (v : FV) : putFV f v [] = [(f, v)] := rfl
@[simp] theorem putFV_cons (f g : Str) (v x : FV) (r : List (Str × FV)) : putFV f v ((g, x) :: r) = if g = f then (g, v) :: r else (g, x) :: putFV f v r := rfl
@[simp] theorem setF_nil (f : Str) (v : FV) : setF f v [] = [] := rfl
@[simp] theorem setF_cons (f g : Str) (v x : FV) (r : List (Str × FV)) : setF f v ((g, x) :: r) = if f = g then (g, v) :: r else (g, x) :: setF f v r := rfl
theorem look_cons {β : Type} (f g : Str) (v : β) (r : List (Str × β)) : List.lookup f ((g, v) :: r) = if f = g then some v else List.lookup f r := by
  rw [List.lookup_cons]
  by_cases h : f = g
  · simp [h]
  · simp [h, beq_eq_false_iff_ne.mpr h]
def rSelf (c : Nat) (f : Str) (e : Slots) (o : Option (Option SV)) : RE D := match o with
  | some (some (.own (.ins c' gs))) => if c' = c then lift ((gs.lookup f).bind FV.dat?) e else .stuck
  | some (some (.dat (.obj c' gs))) => if c' = c then lift (gs.lookup f) e else .stuck
  | _ => .stuck
def rSelfIx (c : Nat) (f : Str) (e : Slots) (x : Option D) (o : Option (Option SV)) : RE D := match o with
  | some (some (.own (.ins c' gs))) => if c' = c then (match gs.lookup f with
    | some (.own (.lst ds)) => (lift (x.bind fun d => (Lf.lst ds).at_ d)) e
    | some (.dat d) => (lift (x.bind fun y => opIx d y)) e
    | _ => .stuck) else .stuck
  | _ => .stuck
@[simp] theorem rSelf_o (c : Nat) (f : Str) (e : Slots) (c' : Nat) (gs : List (Str × FV)) : rSelf c f e (some (some (.own (.ins c' gs)))) = if c' = c then lift ((gs.lookup f).bind FV.dat?) e else .stuck := rfl
@[simp] theorem rSelf_d (c : Nat) (f : Str) (e : Slots) (c' : Nat) (gs : List (Str × D)) : rSelf c f e (some (some (.dat (.obj c' gs)))) = if c' = c then lift (gs.lookup f) e else .stuck := rfl
@[simp] theorem eSelf_ap (c i : Nat) (f : Str) (e : Slots) : eSelf c i f e = rSelf c f e e[i]? := by
  unfold eSelf rSelf
  split <;> simp_all
@[simp] theorem dat_d (d : D) : FV.dat? (.dat d) = some d := rfl
def rSelfF (f : Str) (e : Slots) (x : Option D) (o : Option FV) : RE D := match o with
  | some (.own (.lst ds)) => (lift (x.bind fun d => (Lf.lst ds).at_ d)) e
  | some (.dat d) => (lift (x.bind fun y => opIx d y)) e
  | _ => .stuck
@[simp] theorem rSelfF_o (f : Str) (e : Slots) (d : D) (ds : List D) : rSelfF f e (some d) (some (.own (.lst ds))) = lift ((Lf.lst ds).at_ d) e := rfl
@[simp] theorem rSelfF_d (f : Str) (e : Slots) (d y : D) : rSelfF f e (some y) (some (.dat d)) = lift (opIx d y) e := rfl
@[simp] theorem rSelfIx_o (c : Nat) (f : Str) (e : Slots) (x : Option D) (c' : Nat) (gs : List (Str × FV)) : rSelfIx c f e x (some (some (.own (.ins c' gs)))) = if c' = c then rSelfF f e x (gs.lookup f) else .stuck := rfl
def rAppF (c i : Nat) (f : Str) (g : EM D) (e : Slots) (o : Option (Option SV)) : RE Fl := match o with
  | some (some (.own (.ins c' gs))) => match gs.lookup f with
    | some (.own (.lst ds)) => if c' = c ∧ ds.length < sizeLine then (match g (e.set i none) with
      | .ok d env1 => (match env1[i]? with
        | some none => .ok .nx (env1.set i (some (.own (.ins c (setF f (.own (.lst (ds ++ [d]))) gs)))))
        | _ => .stuck)
      | _ => .stuck) else .stuck
    | _ => .stuck
  | _ => .stuck
def rAppG (c i : Nat) (f : Str) (ds : List D) (gs : List (Str × FV)) (r : RE D) : RE Fl := match r with
  | .ok d env1 => (match env1[i]? with
    | some none => .ok .nx (env1.set i (some (.own (.ins c (setF f (.own (.lst (ds ++ [d]))) gs)))))
    | _ => .stuck)
  | _ => .stuck
def rAppH (c i : Nat) (f : Str) (g : EM D) (e : Slots) (c' : Nat) (gs : List (Str × FV)) (o : Option FV) : RE Fl := match o with
  | some (.own (.lst ds)) => if c' = c ∧ ds.length < sizeLine then rAppG c i f ds gs (g (e.set i none)) else .stuck
  | _ => .stuck
@[simp] theorem rAppH_o (c i : Nat) (f : Str) (g : EM D) (e : Slots) (c' : Nat) (gs : List (Str × FV)) (ds : List D) : rAppH c i f g e c' gs (some (.own (.lst ds))) = if c' = c ∧ ds.length < sizeLine then rAppG c i f ds gs (g (e.set i none)) else .stuck := rfl
def rAppI (c i : Nat) (f : Str) (ds : List D) (gs : List (Str × FV)) (d : D) (e : Slots) (o : Option (Option SV)) : RE Fl := match o with
  | some none => .ok .nx (e.set i (some (.own (.ins c (setF f (.own (.lst (ds ++ [d]))) gs)))))
  | _ => .stuck
@[simp] theorem rAppG_ok (c i : Nat) (f : Str) (ds : List D) (gs : List (Str × FV)) (d : D) (e : Slots) : rAppG c i f ds gs (.ok d e) = rAppI c i f ds gs d e e[i]? := rfl
@[simp] theorem rAppI_n (c i : Nat) (f : Str) (ds : List D) (gs : List (Str × FV)) (d : D) (e : Slots) : rAppI c i f ds gs d e (some none) = .ok .nx (e.set i (some (.own (.ins c (setF f (.own (.lst (ds ++ [d]))) gs))))) := rfl
@[simp] theorem rAppF_o (c i : Nat) (f : Str) (g : EM D) (e : Slots) (c' : Nat) (gs : List (Str × FV)) : rAppF c i f g e (some (some (.own (.ins c' gs)))) = rAppH c i f g e c' gs (gs.lookup f) := by
  unfold rAppF rAppH rAppG
  rfl
@[simp] theorem sAppF_ap (c i : Nat) (f : Str) (g : EM D) (e : Slots) : sAppF c i f g e = rAppF c i f g e e[i]? := by
  unfold sAppF rAppF
  split <;> simp_all
  all_goals rfl
@[simp] theorem takeA_var (i : Nat) (r : List AV) (e : Slots) (x : SV) (h : e[i]? = some (some x)) : takeA (.var i :: r) e = (takeA r (e.set i none)).map fun p => (x :: p.1, p.2) := by
  simp only [takeA, h]
@[simp] theorem putA_varS (i : Nat) (r : List AV) (x : SV) (o e : Slots) (h : e[i]? = some none) : putA (.var i :: r) (some x :: o) e = putA r o (e.set i (some x)) := by
  simp only [putA, h]
@[simp] theorem putA_varN (i : Nat) (r : List AV) (o e : Slots) : putA (.var i :: r) (none :: o) e = putA r o e := rfl
def rVA (i : Nat) (r : List AR) (e : Slots) (o : Option (Option SV)) : RE (List AV) := match o with
  | some (some _) => (evA r e).bind fun as => EM.pure (.var i :: as)
  | _ => .stuck
@[simp] theorem rVA_s (i : Nat) (r : List AR) (e : Slots) (x : SV) : rVA i r e (some (some x)) = (evA r e).bind fun as => EM.pure (.var i :: as) := rfl
@[simp] theorem evA_var (i : Nat) (r : List AR) (e : Slots) : evA (.var i :: r) e = rVA i r e e[i]? := rfl
@[simp] theorem eSelfIx_ap (c i : Nat) (f : Str) (g : EM D) (e : Slots) : eSelfIx c i f g e = rSelfIx c f e (qD g e) e[i]? := rfl
end DL
namespace DL
open PySem L2
def rWhL (c : EM Bool) (b : SM) (n : Nat) (r : RE Fl) : RE Fl := match r with
  | .ok .nx e => whileD c b n e
  | .ok .ct e => whileD c b n e
  | .ok .bk e => .ok .nx e
  | r => r
@[simp] theorem rWhL_nx (c : EM Bool) (b : SM) (n : Nat) (e : Slots) : rWhL c b n (.ok .nx e) = whileD c b n e := rfl
@[simp] theorem rWhL_rt (c : EM Bool) (b : SM) (n : Nat) (v : SV) (e : Slots) : rWhL c b n (.ok (.rt v) e) = .ok (.rt v) e := rfl
@[simp] theorem rWhL_ite (c : EM Bool) (b : SM) (n : Nat) {p : Prop} [Decidable p] (x y : RE Fl) : rWhL c b n (if p then x else y) = if p then rWhL c b n x else rWhL c b n y := by split <;> rfl
def rWh (c : EM Bool) (b : SM) (n : Nat) (t : Bool) : SM := fun e => if t = true then rWhL c b n (b e) else .ok .nx e
@[simp] theorem rWh_ap (c : EM Bool) (b : SM) (n : Nat) (t : Bool) (e : Slots) : rWh c b n t e = if t = true then rWhL c b n (b e) else .ok .nx e := rfl
theorem while_ap (c : EM Bool) (b : SM) (n : Nat) (e : Slots) : whileD c b (n + 1) e = (c e).bind (rWh c b n) := by
  show RE.bind _ _ = RE.bind _ _
  congr 1
  funext t e'
  cases t with
  | true =>
    show (match b e' with | .ok .nx e => _ | .ok .ct e => _ | .ok .bk e => _ | r => _) = _
    unfold rWh rWhL
    rfl
  | false => rfl
end DL

/-! DL21: fields that are dicts and lists, written; bits; defaults -/
namespace DL
open PySem L2
section
variable {X : Cx} {κ : Nat → Addr} {W : WX} {P : List Nat} {e a b : PySem.Expr} {pos : Pos}
/-- self.f[g] = e, an own dict -/
theorem d_setDF {c i : Nat} {f x : Str} {g h : EM D} {p1 p2 spos : Pos} (hu : X.A.units + 1 < cLine) (hc : Cls X.K (κ c)) (hn : NoAttr X.K (κ c) f) (he : PE X e (teD X.K κ W h)) (hg : PE X b (teD X.K κ W g)) (hN : X.N[i]? = some x := by rfl) (hv : Vis X.env.scope x := by first | exact Or.inl rfl | exact Or.inr (Or.inl rfl) | exact Or.inr (Or.inr rfl)) (hd : (x == ("__debug__" : Str)) = false := by decide) (hcd : (x == ("__classdict__" : Str)) = false := by decide)
    (hb : attributeBase (.Name x p1) f X.env (eval (.Name x p1) X.env) = eval (.Name x p1) X.env := by rfl)
    (hs : swapsWith e (some (.Subscript (.Attribute (.Name x p1) f p2) b spos)) pos.line X.env = pure false := by rfl) :
    PS X (.Assign [.Subscript (.Attribute (.Name x p1) f p2) b spos] e pos) (tsD X.K κ W P (sSetDF c i f g h)) := by
  refine ps_imp (ps_dput hu (pe_fld (pe_var hN hv hd hcd) hb) hg he hs) fun Dn σ H h' => ?_
  obtain ⟨I, F, env, k, p⟩ := h'
  refine ⟨I, F, env, k, Post.mono (p.ex (R := RD X.K κ)) ?_⟩
  rintro y H1 ⟨I1, env1, d, nfp, s1, k1, ⟨r1, rfl⟩, p1⟩
  split at p1
  · rename_i c' gs ky q1 q2
    cases hq : qD g env1 with
    | none => rw [hq] at q2; cases q2
    | some dk =>
      rw [hq] at q2
      split at p1
      · rename_i hc'
        subst hc'
        split at p1
        · rename_i ds hl
          split at p1
          · rename_i hz
            obtain ⟨v, f1, h1, h2⟩ := k1.at_ q1
            cases h2 with
            | own h2 =>
            cases h2 with
            | ins hh of =>
            rename_i a0 dx0 vs0 fpo
            obtain ⟨v0, g1, l0, o0, og⟩ := of.lookup hl
            cases o0 with
            | own o0 =>
            cases o0 with
            | dct hL rL =>
            rename_i al vsl
            refine ⟨_, h1, _, _, _, _, _, rfl, hh, hc, hn, l0, teQ (te := teD X.K κ W g) (fun _ _ _ h => h) k1 hq fun fp H' y' e1 e1' r k2 kp ry => ?_⟩
            have hky := keyOf_kV ry (by simpa using q2)
            subst hky
            obtain ⟨v2, f2, g2, h3, hf2⟩ := e1.at_ q1
            rw [h1] at g2
            cases g2
            cases h3 with
            | own h3 =>
            cases h3 with
            | ins hh3 of3 =>
            rw [hh] at hh3
            cases hh3
            obtain ⟨v4, g4, l4, o4, og4⟩ := of3.lookup hl
            rw [l0] at l4
            cases l4
            cases o4 with
            | own o4 =>
            cases o4 with
            | dct hL4 rL4 =>
            have m1 : H' a0 = some (.ins (κ c') dx0 vs0) := (kp _ (hf2 _ (by simp))).trans hh
            have m2 : H' al = some (.dK vsl) := (kp _ (hf2 _ (List.mem_cons_of_mem _ (og4 _ (by simp))))).trans hL
            refine ⟨_, _, rfl, DPut.k m2 (by rw [rL.length]; exact hz), ?_⟩
            exact p1.nx (k2.updF (l' := .dct (setK ds ky d)) q1 h1 m1 hl l0 (.dct upd_same (rL.put r1))) (Step.refl F I1) (Pin.refl P σ)
          · exact p1.elim
        · exact p1.elim
      · exact p1.elim
  · exact p1.elim
/-! ### defaults left out: all of them numbers -/
def noFld : List AV → Bool
  | [] => true
  | .fld _ _ :: _ => false
  | .new _ :: _ => false
  | _ :: r => noFld r
def callDf (Φ : List SV → RE SV) (ars : List AR) (ds : List Int) : EM SV := (evA ars).bind fun avs env => if noFld avs = true then (match takeA (avs ++ ds.map fun i => .dat (.int i)) env with
  | none => .stuck
  | some (args, env1) => match Φ args with
    | .ok sv outs => match putA (avs ++ ds.map fun i => .dat (.int i)) outs env1 with
      | some env2 => .ok sv env2
      | none => .stuck
    | .exc e outs => match putA (avs ++ ds.map fun i => .dat (.int i)) outs env1 with
      | some env2 => .exc e env2
      | none => .stuck
    | .stuck => .stuck) else .stuck
theorem AvR.app {K : PySem.W.Frag} {I H : Hp} {σ : L2.St} {ds : List Int} : ∀ {vs : List V} {as : List AV}, AvR K κ I H σ vs as → noFld as = true → AvR K κ I H σ (vs ++ ds.map V.int) (as ++ ds.map fun i => .dat (.int i))
  | _, _, .nil, _ => by
    induction ds with
    | nil => exact .nil
    | cons d ds ih => exact .dat (.int d) ih
  | _, _, .dat r h, n => .dat r (h.app (by simpa [noFld] using n))
  | _, _, .var r h, n => .var r (h.app (by simpa [noFld] using n))
  | _, _, .fld _ _ _, n => by simp [noFld] at n
  | _, _, .new _, n => by simp [noFld] at n
theorem AvN.app {K : PySem.W.Frag} {I H : Hp} {ds : List Int} {fp : List Addr} : ∀ {vs : List V} {as : List AV}, AvN K κ I H vs as fp → noFld as = true → AvN K κ I H (vs ++ ds.map V.int) (as ++ ds.map fun i => .dat (.int i)) fp
  | _, _, .nil, _ => by
    induction ds with
    | nil => exact .nil
    | cons d ds ih => exact .dat ih
  | _, _, .dat h, n => .dat (h.app (by simpa [noFld] using n))
  | _, _, .var h, n => .var (h.app (by simpa [noFld] using n))
  | _, _, .fld, n => by simp [noFld] at n
  | _, _, .new _ _, n => by simp [noFld] at n
theorem de_callDf {es : List PySem.Expr} {Φ : List SV → RE SV} {ars : List AR} {is : List Int} {ds : List Value} {k : Nat} {f : Addr} {fd : FuncData} {ps : List Str} {x : Str} {p : Pos} (G : FnD X κ k f fd ps Φ) (hr : Room k X.A) (hm : X.mg x = some (.ref f)) (hk : PySem.W.keepIn X.K (.ref f) = true) (hb : Binds X.K fd ps ds) (hdv : Vals (is.map V.int) ds) (tk : Takes X W)
    (ha : PA X (e :: es) (taV X.K κ W ars)) (hg : Gl X x := by rfl) (hdb : (x == ("__debug__" : Str)) = false := by decide) (he : starEach (e :: es) X.env = (false, eval e X.env) :: starEach es X.env := by rfl) (hpl : (backTo pos (starEach es X.env)).any (·.1) = false := by rfl) : PE X (.Call (.Name x p) (e :: es) [] pos) (teS X.K κ W (callDf Φ ars is)) := by
  refine pe_imp (pe_callSD G hr hg hm hk hb hdv (fun σ => passAt tk σ) ha hdb he hpl) fun σ H Q h => ?_
  obtain ⟨I, F, env, k, p⟩ := h
  refine ⟨I, F, env, k, Post.mono (Post.bind (R := RAV X.K κ σ) p) ?_⟩
  rintro vs H1 ⟨I1, env1, avs, nfp, s1, k1, ⟨ra, an⟩, p1⟩
  split at p1
  · rename_i hn
    exact call_end k1 (ra.app hn) (an.app hn) p1 fun _ _ _ h => h
  · exact p1.elim
/-! ### bits, sorted(dict) -/
def opShr : D → D → Option D
  | .int i, .int j => if 0 ≤ j ∧ j < 1000 then some (.int (i / 2 ^ j.toNat)) else none
  | _, _ => none
def opAndB : D → D → Option D
  | .int i, .int j => some (.int (Builtin.bitAnd i j))
  | _, _ => none
theorem od_shr : OpD X κ (binaryOp .RShift) opShr := by
  refine ⟨_, op_shr, fun σ I F H env x y dx dy d Q k rx ry e q => ?_⟩
  cases rx <;> cases ry <;> simp only [opShr] at e <;> try (cases e)
  split at e
  · rename_i h
    cases e
    exact ⟨_, _, rfl, rfl, h.1, q0 k q (.int _)⟩
  · cases e
theorem od_and : OpD X κ (binaryOp .BitAnd) opAndB := by
  refine ⟨_, op_and, fun σ I F H env x y dx dy d Q k rx ry e q => ?_⟩
  cases rx <;> cases ry <;> simp only [opAndB] at e <;> cases e
  exact ⟨_, _, rfl, rfl, q0 k q (.int _)⟩
def keyIs : List (Key × D) → Option (List Int)
  | [] => some []
  | (.inl i, _) :: r => (keyIs r).map (i :: ·)
  | _ => none
def opSortedD : List D → Option D
  | [.dct kvs] => (keyIs kvs).bind fun ks => if ks.length < 64 then some (.lst ((sortI ks).map D.int)) else none
  | _ => none
theorem keyIs_some {K : PySem.W.Frag} {I : Hp} : ∀ {vs : List (Key × V)} {kvs : List (Key × D)} {ks : List Int}, RpK K κ I vs kvs → keyIs kvs = some ks → vs.map (·.1) = ks.map Sum.inl
  | _, _, ks, .nil, h => by simp [keyIs] at h; subst h; rfl
  | _, _, ks, .cons (k := .inl i) hv r, h => by
    simp [keyIs] at h
    obtain ⟨a, h1, rfl⟩ := h
    simp [keyIs_some r h1]
  | _, _, ks, .cons (k := .inr i) hv r, h => by simp [keyIs] at h
theorem cd_sortedD (hc : X.calm = true) : CallD X κ (.builtin "sorted") opSortedD := by
  refine ⟨_, call_sortedDI hc, fun σ I F H env vs ds d Q k rs e q => ?_⟩
  unfold opSortedD at e
  split at e
  · obtain ⟨v, rfl, r⟩ := rs.one
    rename_i kvs
    cases h : keyIs kvs with
    | none => rw [h] at e; cases e
    | some ks =>
      rw [h] at e
      simp only [Option.bind] at e
      split at e
      · rename_i hl
        cases e
        cases r with
        | dct hI r =>
          refine ⟨_, _, ks, rfl, .inl (k.ext _ _ hI), keyIs_some r h, hl, fun ms p pm pw hp => ?_⟩
          have := sortI_unique pm pw
          subst this
          exact q1 k q (fun p I' s e => .lst e RpA.ints) p hp
      · cases e
  · cases e
end
end DL

/-! DL22: more mirrors, run -/
namespace DL
open PySem L2
@[simp] theorem noFld_nil : noFld [] = true := rfl
@[simp] theorem noFld_d (d : D) (r : List AV) : noFld (.dat d :: r) = noFld r := rfl
@[simp] theorem noFld_v (i : Nat) (r : List AV) : noFld (.var i :: r) = noFld r := rfl
def rCallF (Φ : List SV → RE SV) (ds : List Int) (avs : List AV) (e : Slots) : RE SV := if noFld avs = true then rCall Φ (avs ++ ds.map fun i => .dat (.int i)) (takeA (avs ++ ds.map fun i => .dat (.int i)) e) else .stuck
@[simp] theorem rCallF_ap (Φ : List SV → RE SV) (ds : List Int) (avs : List AV) (e : Slots) : rCallF Φ ds avs e = if noFld avs = true then rCall Φ (avs ++ ds.map fun i => .dat (.int i)) (takeA (avs ++ ds.map fun i => .dat (.int i)) e) else .stuck := rfl
@[simp] theorem callDf_ap (Φ : List SV → RE SV) (ars : List AR) (ds : List Int) (e : Slots) : callDf Φ ars ds e = (evA ars e).bind (rCallF Φ ds) := by
  unfold callDf rCallF rCall rEnd
  show RE.bind _ _ = RE.bind _ _
  congr 1
@[simp] theorem opShr_i (i j : Int) (h : 0 ≤ j) (h2 : j < 1000) : opShr (.int i) (.int j) = some (.int (i / 2 ^ j.toNat)) := by
  show (if 0 ≤ j ∧ j < 1000 then _ else _) = _
  rw [if_pos ⟨h, h2⟩]
@[simp] theorem opAndB_i (i j : Int) : opAndB (.int i) (.int j) = some (.int (Builtin.bitAnd i j)) := rfl
@[simp] theorem opSortedD_0 : opSortedD [.dct []] = some (.lst []) := by
  simp [opSortedD, keyIs, sortI]
@[simp] theorem opMul_l (x : List D) (k : Int) : opMul (.lst x) (.int k) = if k < 2 ^ 63 ∧ 0 ≤ k ∧ x.length * k.toNat ≤ sizeLine then some (.lst (List.replicate k.toNat x).flatten) else none := rfl
def rSetDF (c i : Nat) (f : Str) (d : D) (e : Slots) (o : Option (Option SV)) (k : Option Key) : RE Fl := match o, k with
  | some (some (.own (.ins c' gs))), some k => if c' = c then (match gs.lookup f with
    | some (.own (.dct ds)) => if ds.length < sizeLine then .ok .nx (e.set i (some (.own (.ins c (setF f (.own (.dct (setK ds k d))) gs))))) else .stuck
    | _ => .stuck) else .stuck
  | _, _ => .stuck
def rSetDG (c i : Nat) (f : Str) (d : D) (e : Slots) (gs : List (Str × FV)) (k : Key) (o : Option FV) : RE Fl := match o with
  | some (.own (.dct ds)) => if ds.length < sizeLine then .ok .nx (e.set i (some (.own (.ins c (setF f (.own (.dct (setK ds k d))) gs))))) else .stuck
  | _ => .stuck
@[simp] theorem rSetDG_o (c i : Nat) (f : Str) (d : D) (e : Slots) (gs : List (Str × FV)) (k : Key) (ds : List (Key × D)) : rSetDG c i f d e gs k (some (.own (.dct ds))) = if ds.length < sizeLine then .ok .nx (e.set i (some (.own (.ins c (setF f (.own (.dct (setK ds k d))) gs))))) else .stuck := rfl
@[simp] theorem rSetDF_o (c i c' : Nat) (f : Str) (d : D) (e : Slots) (gs : List (Str × FV)) (k : Key) : rSetDF c i f d e (some (some (.own (.ins c' gs)))) (some k) = if c' = c then rSetDG c i f d e gs k (gs.lookup f) else .stuck := rfl
@[simp] theorem sSetDF_ap (c i : Nat) (f : Str) (g h : EM D) (e : Slots) : sSetDF c i f g h e = (h e).bind fun d e => rSetDF c i f d e e[i]? ((qD g e).bind keyOf) := rfl
def rSetL (i : Nat) (d : D) (e : Slots) (o : Option (Option SV)) (x : Option D) : RE Fl := match o, x with
  | some (some (.own (.lf (.lst ds)))), some (.int ix) => match ixN ds.length ix with
    | some j => .ok .nx (e.set i (some (.own (.lf (.lst (ds.set j d))))))
    | none => .stuck
  | _, _ => .stuck
def rSetI (i : Nat) (d : D) (e : Slots) (ds : List D) (j : Option Nat) : RE Fl := match j with
  | some j => .ok .nx (e.set i (some (.own (.lf (.lst (ds.set j d))))))
  | none => .stuck
@[simp] theorem rSetI_s (i : Nat) (d : D) (e : Slots) (ds : List D) (j : Nat) : rSetI i d e ds (some j) = .ok .nx (e.set i (some (.own (.lf (.lst (ds.set j d)))))) := rfl
@[simp] theorem rSetL_o (i : Nat) (d : D) (e : Slots) (ds : List D) (ix : Int) : rSetL i d e (some (some (.own (.lf (.lst ds))))) (some (.int ix)) = rSetI i d e ds (ixN ds.length ix) := rfl
@[simp] theorem sSetL_ap (i : Nat) (g f : EM D) (e : Slots) : sSetL i g f e = (f e).bind fun d e => rSetL i d e e[i]? (qD g e) := rfl
@[simp] theorem ixN_lit (n : Nat) (i : Int) (h : 0 ≤ i) (h2 : i < n) : ixN n i = some i.toNat := by
  unfold ixN
  rw [if_pos h, if_pos h2]
@[simp] theorem opEq_nn : opEq .non .non = some (.bl true) := by
  simp [opEq, eqOk, D.pyOk, D.py, SeqAt.shaped, PyData.eqv, PyData.canLay0, PyData.depth]
@[simp] theorem opNe_in (i : Int) : opNe (.int i) .non = some (.bl true) := by
  simp [opNe, eqOk, D.pyOk, D.py, SeqAt.shaped, PyData.eqv, PyData.canLay0, PyData.depth]
@[simp] theorem opNe_ni (i : Int) : opNe .non (.int i) = some (.bl true) := by
  simp [opNe, eqOk, D.pyOk, D.py, SeqAt.shaped, PyData.eqv, PyData.canLay0, PyData.depth]
end DL

/-! DL23: an own tuple; a fresh list of plain items, asked; list.index, dict(pairs), d.get -/
namespace DL
open PySem L2
section
variable {K : PySem.W.Frag} {κ : Nat → Addr} {I I' F H H' : Hp} {σ : L2.St} {env : Slots} {nfp : List Addr} {W : WX}
theorem OwT.get : ∀ {vs : List V} {xs : List FV} {fp : List Addr} {j : Nat} {x : FV}, OwT K κ I H vs xs fp → xs[j]? = some x → ∃ v f1, vs[j]? = some v ∧ OwF K κ I H v x f1 ∧ ∀ a ∈ f1, a ∈ fp
  | _, _, _, _, _, .nil, e => by simp at e
  | _, _, _, 0, x, .cons h r, e => by simp at e; subst e; exact ⟨_, _, rfl, h, fun a m => List.mem_append_left _ m⟩
  | _, _, _, j + 1, x, .cons h r, e => by
    obtain ⟨v, f1, h1, h2, h3⟩ := r.get (j := j) (x := x) (by simpa using e)
    exact ⟨v, f1, by simpa using h1, h2, fun a m => List.mem_append_right _ (h3 a m)⟩
theorem OwT.length : ∀ {vs : List V} {xs : List FV} {fp : List Addr}, OwT K κ I H vs xs fp → vs.length = xs.length
  | _, _, _, .nil => rfl
  | _, _, _, .cons _ r => by simp [r.length]
theorem OwT.hole : ∀ {vs : List V} {xs : List FV} {fp : List Addr} {j : Nat} {l : Lf}, OwT K κ I H vs xs fp → xs[j]? = some (.own l) → ∃ v f0 fp', vs[j]? = some v ∧ OwL K κ I H v l f0 ∧ OwT K κ I H vs (xs.set j .hole) fp' ∧ fp.Perm (f0 ++ fp')
  | _, _, _, _, _, .nil, e => by simp at e
  | _, _, _, 0, l, .cons (fp := g1) (fq := g2) h r, e => by
    simp at e; subst e
    cases h with
    | own h => exact ⟨_, g1, [] ++ g2, rfl, h, by simpa using OwT.cons .hole r, by simp⟩
  | _, _, _, j + 1, l, .cons (fp := g1) (fq := g2) h r, e => by
    obtain ⟨v, f0, fp', h1, h2, h3, h4⟩ := r.hole (j := j) (l := l) (by simpa using e)
    exact ⟨v, f0, g1 ++ fp', by simpa using h1, h2, by simpa using OwT.cons h h3, (h4.append_left g1).trans (List.perm_append_comm_assoc g1 f0 fp')⟩
theorem OwT.fill : ∀ {vs : List V} {xs : List FV} {fp f0 : List Addr} {j : Nat} {l : Lf} {v : V}, OwT K κ I H vs xs fp → xs[j]? = some .hole → vs[j]? = some v → OwL K κ I H v l f0 → ∃ fp', OwT K κ I H vs (xs.set j (.own l)) fp' ∧ (f0 ++ fp).Perm fp'
  | _, _, _, _, _, _, _, .nil, e, _, _ => by simp at e
  | _, _, _, f0, 0, l, v, .cons (fp := g1) (fq := g2) h r, e, ev, ho => by
    simp at e ev; subst e; subst ev
    cases h
    exact ⟨f0 ++ g2, by simpa using OwT.cons (.own ho) r, by simp⟩
  | _, _, _, f0, j + 1, l, v, .cons (fp := g1) (fq := g2) h r, e, ev, ho => by
    obtain ⟨fp', h1, h2⟩ := r.fill (j := j) (l := l) (v := v) (by simpa using e) (by simpa using ev) ho
    exact ⟨g1 ++ fp', by simpa using OwT.cons h h1, (List.perm_append_comm_assoc f0 g1 g2).trans (h2.append_left g1)⟩
/-- an own list in an own tuple is written -/
theorem Ok.updT {i j : Nat} {l l' : Lf} {a b : Addr} {o : HO} {vs : List V} {xs : List FV} (k : Ok K κ I F H σ env nfp) (hx : env[i]? = some (some (.own (.tup xs)))) (hv : σ[i]? = some (some (.ref b))) (ho : H b = some (.tup vs)) (hf : vs[j]? = some (.ref a)) (hl : xs[j]? = some (.own l))
    (hn : OwL K κ I (upd H a o) (.ref a) l' [a]) : Ok K κ I F (upd H a o) σ (env.set i (some (.own (.tup (xs.set j (.own l')))))) nfp := by
  obtain ⟨v, f1, h1, h2, k1⟩ := k.get hx
  rw [hv] at h1
  cases h1
  cases h2 with
  | own h2 =>
    cases h2 with
    | tup ho' of =>
      rename_i fpo
      rw [ho] at ho'
      cases ho'
      obtain ⟨v0, f0, fp', g0, g4, g1, g2⟩ := of.hole hl
      rw [hf] at g0
      cases g0
      obtain ⟨a', e1, rfl⟩ := Ok.one g4
      cases e1
      have pm : (b :: fpo ++ nfp).Perm (a :: (b :: fp' ++ nfp)) := by
        refine ((g2.cons b).append_right nfp).trans ?_
        exact List.Perm.swap a b _
      have k2 := Ok.write (o := o) (k1.perm pm)
      obtain ⟨fpe, re, rr⟩ := k2.ex
      have nd := rr.nd
      have nab : b ≠ a := fun z => by
        subst z
        simp at nd
      have nafp : ∀ x ∈ fp', x ≠ a := fun x m z => by
        subst z
        simp only [List.cons_append, List.nodup_cons, List.mem_cons, List.mem_append, not_or] at nd
        exact nd.1.2.1.1 m
      have hil : i < env.length := (List.getElem?_eq_some_iff.mp hx).1
      have ho2 : (upd H a o) b = some (.tup vs) := by rw [upd_ne nab]; exact ho
      have of2 : OwT K κ I (upd H a o) vs (xs.set j .hole) fp' := g1.mono (Same.refl I) fun x m => upd_ne (nafp x m)
      have hjl : j < xs.length := (List.getElem?_eq_some_iff.mp hl).1
      obtain ⟨fp2, q1, q2⟩ := of2.fill (j := j) (by rw [List.getElem?_set_self hjl]) hf hn
      rw [List.set_set] at q1
      have pm2 : (a :: (b :: fp' ++ nfp)).Perm ((b :: fp2) ++ nfp) := by
        refine (List.Perm.swap b a _).trans ?_
        rw [List.cons_append]
        exact List.Perm.cons _ (q2.append_right nfp)
      have k3 := Ok.put (i := i) (f1 := b :: fp2) (k2.perm pm2) (by rw [List.getElem?_set_self hil]) hv (.own (.tup ho2 q1))
      rwa [List.set_set] at k3
/-- .. a fresh list of a view stays -/
theorem Ok.unviewN {fp : List Addr} {env' : Slots} {a : Addr} (e : EnvR K κ I H σ env fp) (r : Rel I F H fp) (s : Step (addF F H fp) (frz I H fp) I') (k : Ok K κ I' (addF F H fp) H' σ env' [a]) : Ok K κ I F H' σ env [a] := by
  have k0 : Ok K κ I' (addF F H fp) H' σ env' [] := (show Ok K κ I' (addF F H fp) H' σ env' ([a] ++ []) from k).drop
  obtain ⟨k1, kp⟩ := Ok.unview e r s k0
  obtain ⟨fp', e', r'⟩ := k.ex
  have II : ∀ b o, I b = some o → I' b = some o := fun b o q => by
    refine s.ext b o ?_
    unfold frz
    split
    · exact r.ext b o q
    · exact q
  have ha1 := r'.nI a (by simp)
  have ha2 := r'.nF a (by simp)
  have ha3 := r'.tr a (by simp)
  have nafp : a ∉ fp := fun m => by
    unfold addF at ha2
    rw [if_pos m] at ha2
    exact r.tr a m ha2
  have hFa : F a = none := by
    unfold addF at ha2
    rwa [if_neg nafp] at ha2
  have hIa : I a = none := by
    cases q : I a with
    | none => rfl
    | some o => rw [II a o q] at ha1; cases ha1
  refine ⟨fp, e.mono (Same.refl I) kp, ⟨?_, ?_, ?_, ?_, ?_, ?_⟩⟩
  · exact k1.ext
  · exact k1.frm
  · exact List.nodup_cons.mpr ⟨nafp, r.nd⟩
  · intro b m
    rcases List.mem_cons.mp m with rfl | m
    · exact hIa
    · exact r.nI b m
  · intro b m
    rcases List.mem_cons.mp m with rfl | m
    · exact hFa
    · exact r.nF b m
  · intro b m
    rcases List.mem_cons.mp m with rfl | m
    · exact ha3
    · rw [kp b m]; exact r.tr b m
theorem RpA.scal : ∀ {vs : List V} {ds : List D}, RpA K κ I vs ds → ds.all D.scal = true → RpA K κ I' vs ds
  | _, _, .nil, _ => .nil
  | _, _, .cons h r, e => by
    simp only [List.all_cons, Bool.and_eq_true] at e
    exact .cons (h.scal e.1) (r.scal e.2)
end
def eTupIx (i j : Nat) : EM D := fun env => match env[i]? with
  | some (some (.own (.tup xs))) => match xs[j]? with
    | some (.dat d) => .ok d env
    | _ => .stuck
  | some (some (.dat d)) => lift (opIx d (.int (j : Int))) env
  | _ => .stuck
def sAppT (i j : Nat) (f : EM D) : SM := fun env => match env[i]? with
  | some (some (.own (.tup xs))) => match xs[j]? with
    | some (.own (.lst ds)) => if ds.length < sizeLine then (match f (env.set i none) with
      | .ok d env1 => (match env1[i]? with
        | some none => .ok .nx (env1.set i (some (.own (.tup (xs.set j (.own (.lst (ds ++ [d]))))))))
        | _ => .stuck)
      | _ => .stuck) else .stuck
    | _ => .stuck
  | _ => .stuck
def rTup2 (d : D) (x : SV) : EM SV := match x with
  | .own (.lf l) => EM.pure (.own (.tup [.dat d, .own l]))
  | _ => fun _ => .stuck
/-- (e, l): l owned -/
def sTup2 (f : EM D) (g : EM SV) : EM SV := f.bind fun d => g.bind fun x => rTup2 d x
def eQL (f : EM (List D)) : EM (List D) := fun env => match f (viewEnv env) with
  | .ok ds _ => if ds.all D.scal = true then .ok ds env else .stuck
  | _ => .stuck
section
variable {X : Cx} {κ : Nat → Addr} {W : WX} {P : List Nat} {e a b : PySem.Expr} {pos : Pos}
theorem de_tupIx {i j : Nat} {jk : Nat} {x : Str} {p1 cp : Pos} (hN : X.N[i]? = some x := by rfl) (hv : Vis X.env.scope x := by first | exact Or.inl rfl | exact Or.inr (Or.inl rfl) | exact Or.inr (Or.inr rfl)) (hd : (x == ("__debug__" : Str)) = false := by decide)
    (hcd : (x == ("__classdict__" : Str)) = false := by decide) : PE X (.Subscript (.Name x p1) (.Constant (.int (j : Int)) jk cp) pos) (teD X.K κ W (eTupIx i j)) := by
  refine pe_imp (pe_ix ix_seq (pe_var hN hv hd hcd) pe_int (fun _ _ => rfl)) fun σ H Q h => ?_
  obtain ⟨I, F, env, k, p⟩ := h
  unfold eTupIx at p
  split at p
  · rename_i xs q
    obtain ⟨v, f1, h1, h2⟩ := k.at_ q
    split at p
    · rename_i d hxj
      cases h2 with
      | own h2 =>
        cases h2 with
        | tup hH of =>
          obtain ⟨w, g1, hw, ow, _⟩ := of.get hxj
          cases ow with
          | dat rw' => exact ⟨_, h1, .inr (.inl ⟨_, _, _, w, rfl, rfl, SqT.of hH, by rw [atI_nat]; exact hw, p I H _ [] (Step.refl F I) k ⟨rw', rfl⟩⟩)⟩
    · exact p.elim
  · rename_i dd q
    obtain ⟨v, f1, h1, h2⟩ := k.at_ q
    obtain ⟨d, e, p3⟩ := p.lift1
    cases h2 with
    | dat rx =>
    exact ⟨v, h1, rix_of k.ext rx (.int _) e fun v rv => p3 I H _ [] (Step.refl F I) k ⟨rv, rfl⟩⟩
  · exact p.elim
theorem d_appT {i j : Nat} {jk : Nat} {x : Str} {g : EM D} {p1 cp p2 apos cpos : Pos} (he : PE X e (teD X.K κ W g)) (hN : X.N[i]? = some x := by rfl) (hv : Vis X.env.scope x := by first | exact Or.inl rfl | exact Or.inr (Or.inl rfl) | exact Or.inr (Or.inr rfl)) (hd : (x == ("__debug__" : Str)) = false := by decide)
    (hcd : (x == ("__classdict__" : Str)) = false := by decide)
    (hbase : attributeBase (.Subscript (.Name x p1) (.Constant (.int (j : Int)) jk cp) p2) "append" X.env (eval (.Subscript (.Name x p1) (.Constant (.int (j : Int)) jk cp) p2) X.env) = eval (.Subscript (.Name x p1) (.Constant (.int (j : Int)) jk cp) p2) X.env := by rfl)
    (hfew : ((backTo cpos (starEach [e] X.env)).all (fun x => !x.1) && (backToKw cpos (keywordEach [] X.env)).all (fun x => x.1.isSome)
      && decide (([e] : List PySem.Expr).length + ([] : List Keyword).length + (if ([] : List Keyword).isEmpty then 0 else 1) < 30)) = true := by rfl)
    (hline : (apos.endLine == cpos.line) = true := by rfl) (hst : starEach [e] X.env = (false, eval e X.env) :: starEach [] X.env := by rfl) (hplain : (backTo cpos (starEach [] X.env)).any (·.1) = false := by rfl)
    (hs : swapsWith (.Call (.Attribute (.Subscript (.Name x p1) (.Constant (.int (j : Int)) jk cp) p2) "append" apos) [e] [] cpos) none pos.line X.env = pure false := by rfl) :
    PS X (.Expr (.Call (.Attribute (.Subscript (.Name x p1) (.Constant (.int (j : Int)) jk cp) p2) "append" apos) [e] [] cpos) pos) (tsD X.K κ W P (sAppT i j g)) := by
  refine ps_imp (ps_expr (pe_bm PySem.F.plainAttrs_list PySem.F.slot_list_append PySem.F.type_list_append mt_append (pe_ix ix_seq (pe_var hN hv hd hcd) pe_int (fun _ _ => rfl)) (pa_cons he pa_nil hst) hbase hfew hline hst hplain) hs) fun Dn σ H h => ?_
  obtain ⟨I, F, env, k, p⟩ := h
  unfold sAppT at p
  split at p
  · rename_i xs q1
    split at p
    · rename_i ds hl0
      split at p
      · rename_i hz
        obtain ⟨v, f1, h1, h2, k1⟩ := k.get q1
        have h2k := h2
        cases h2 with
        | own h2 =>
        cases h2 with
        | tup hh of =>
        rename_i a0 vs0 fpo
        obtain ⟨v0, g1, l0, o0, og⟩ := of.get hl0
        cases o0 with
        | own o0 =>
        cases o0 with
        | lst hL rL =>
        rename_i al vl
        refine ⟨_, h1, .inr (.inl ⟨_, _, _, V.ref al, rfl, rfl, SqT.of hh, by rw [atI_nat]; exact l0, ?_⟩)⟩
        refine ⟨.inl ⟨rfl, _, SqL.of hL⟩, I, _, _, Ok.frame k1, ?_⟩
        revert p
        cases hg : g (env.set i none) with
        | ok d env1 =>
          intro p I1 H1 y nfp s1 k2 hR
          obtain ⟨r1, rfl⟩ := hR
          obtain ⟨k3, kp, s2⟩ := Ok.unframe k1 k2 s1
          simp only [] at p
          split at p
          · rename_i hno
            have h2' := h2k.mono s2.ext kp
            have k4 := Ok.put (i := i) (nfp := []) (by simpa using k3) hno h1 h2'
            have hil : i < env1.length := (List.getElem?_eq_some_iff.mp hno).1
            have hL' : H1 _ = some (.lst _) := (kp _ (List.mem_cons_of_mem _ (og _ (by simp)))).trans hL
            have hh' : H1 a0 = some (.tup vs0) := (kp _ (by simp)).trans hh
            refine ⟨_, _, _, rfl, rfl, hL', by rw [rL.length]; exact hz, ?_⟩
            have k5 := Ok.updT (j := j) (l := .lst ds) (l' := .lst (ds ++ [d])) k4 (by rw [List.getElem?_set_self hil]) h1 hh' l0 hl0 (.lst upd_same ((rL.mono s2.ext).append (.cons r1 .nil)))
            rw [List.set_set] at k5
            exact p.nx k5 s2 (Pin.refl P σ)
          · exact p.elim
        | exc e env1 => exact fun p => p.elim
        | stuck => exact fun p => p.elim
      · exact p.elim
    · exact p.elim
  · exact p.elim
theorem de_qL {f : EM (List D)} (h : PE X e (tG X.K κ (RL X.K κ) W f)) : PE X e (tG X.K κ (RL X.K κ) W (eQL f)) := pe_imp h fun σ H Q h => by
  obtain ⟨I, F, env, k, p⟩ := h
  obtain ⟨fp, e, r, kv⟩ := k.view
  refine ⟨_, _, _, kv, ?_⟩
  unfold eQL at p
  revert p
  cases f (viewEnv env) with
  | ok ds env' =>
    intro p I' H' v nfp s k' hR
    by_cases z : ds.all D.scal = true
    · simp only [z, if_true] at p
      cases hR with
      | lst hH ra =>
        exact p I H' _ _ (Step.refl F I) (Ok.unviewN e r s k') (.lst hH (ra.scal z))
    · simp only [if_neg z] at p
      exact p.elim
  | exc e env' => exact fun p => p.elim
  | stuck => exact fun p => p.elim
/-- (e, l) -/
theorem ds_tup2 {x1} {f : EM D} {g : EM SV} (ha : PE X a (teD X.K κ W f)) (hb : PE X b (teS X.K κ W g)) (hs : starEach [a, b] X.env = (false, eval a X.env) :: starEach [b] X.env := by rfl) (hs2 : starEach [b] X.env = (false, eval b X.env) :: starEach [] X.env := by rfl) : PE X (.Tuple [a, b] x1 pos) (teS X.K κ W (sTup2 f g)) := by
  refine pe_imp (pe_tup (pa_cons ha (pa_cons hb pa_nil hs2) hs)) fun σ H Q h => ?_
  obtain ⟨I, F, env, k, p⟩ := h
  refine ⟨I, F, env, k, Post.mono (Post.bind (R := RD X.K κ) p) ?_⟩
  rintro x H1 ⟨I1, env1, dx, nfp, s1, k1, ⟨rx, rfl⟩, p1⟩
  refine ⟨I1, F, env1, k1, Post.mono (Post.bind (R := RS X.K κ) p1) ?_⟩
  rintro y H2 ⟨I2, env2, sy, f2, s2, k2, oy, p2⟩
  unfold rTup2 at p2
  split at p2
  · rename_i l
    cases oy with
    | own oy =>
    cases oy with
    | lf oy =>
    refine ⟨by have := sizeLine_eq; simp [this], fun p hp => ?_⟩
    have k3 := k2.newO (o := .tup [x, y]) hp
    have hf2 : ∀ a ∈ f2, (upd H2 p (.tup [x, y])) a = H2 a := fun a m => by
      obtain ⟨_, _, r⟩ := k2.ex
      have ht := r.tr a (List.mem_append_left _ m)
      exact upd_ne (fun z => ht (by rw [z]; exact hp))
    have o2 := oy.mono (Same.refl I2) hf2
    have ot : OwT X.K κ I2 (upd H2 p (.tup [x, y])) [x, y] [.dat dx, .own l] ([] ++ (f2 ++ [])) := .cons (.dat (rx.mono s2.ext)) (.cons (.own o2) .nil)
    rw [List.append_nil, List.nil_append] at ot
    exact p2 I2 _ (.ref p) (p :: f2) (Step.refl F I2) k3 (.own (.tup upd_same ot))
  · exact p2.elim
end
end DL

/-! DL24: list.index, dict(pairs), d.get, {k: v}, list(range), reversed(range), lists joined and owned -/
namespace DL
open PySem L2
/-! ### list.index -/
def ixD (ds : List D) (y : D) : Option D := if eqOk y (.lst ds) = true then (ds.findIdx? fun z => PyData.eqv z.py y.py).map fun j => .int (j : Nat) else none
def rIdx (g : EM D) (d : D) : EM D := match d with
  | .lst ds => g.bind fun y => lift (ixD ds y)
  | _ => fun _ => .stuck
def eIdx (f g : EM D) : EM D := f.bind (rIdx g)
/-! ### dict(pairs), d.get(k) -/
def pairsOf : List D → Option (List (Key × D))
  | [] => some []
  | .tup [k, v] :: r => (keyOf k).bind fun ky => (pairsOf r).map fun ps => (ky, v) :: ps
  | _ => none
def foldK (kvs more : List (Key × D)) : List (Key × D) := more.foldl (fun acc kv => setK acc kv.1 kv.2) kvs
def opDictP : List D → Option D
  | [.lst ds] => (pairsOf ds).map fun ps => .dct (foldK [] ps)
  | _ => none
def rDGet (g : EM D) (d : D) : EM D := match d with
  | .dct kvs => g.bind fun y => lift ((keyOf y).map fun k => (getK kvs k).getD .non)
  | _ => fun _ => .stuck
def eDGet (f g : EM D) : EM D := f.bind (rDGet g)
/-! ### list(range(n)), reversed(range(n)) -/
def smallL (j : Int) : Prop := smallI j ∧ j ≤ 16777216
noncomputable instance (j : Int) : Decidable (smallL j) := Classical.propDecidable _
noncomputable def rLRg (d : D) : EM D := match d with
  | .int j => lift (if smallL j then some (.lst (rangeD 0 j)) else none)
  | _ => fun _ => .stuck
noncomputable def eLRg (f : EM D) : EM D := f.bind rLRg
noncomputable def rRRg (d : D) : EM (List D) := match d with
  | .int j => lift (if smallI j then some (rangeD 0 j).reverse else none)
  | _ => fun _ => .stuck
noncomputable def iRevRg (f : EM D) : EM (List D) := f.bind rRRg
def rCat (x y : D) : EM SV := match x, y with
  | .lst ds, .lst es => lift (if ds.length + es.length ≤ sizeLine then some (.own (.lf (.lst (ds ++ es)))) else none)
  | _, _ => fun _ => .stuck
def sCat (f g : EM D) : EM SV := f.bind fun x => g.bind fun y => rCat x y
section
variable {X : Cx} {κ : Nat → Addr} {W : WX} {P : List Nat} {o e a b : PySem.Expr} {pos : Pos}
theorem de_idx {f g : EM D} {apos cpos : Pos} (hu : X.A.units + 65 < cLine) (ho : PE X o (teD X.K κ W f)) (he : PE X e (teD X.K κ W g))
    (hbase : attributeBase o "index" X.env (eval o X.env) = eval o X.env := by rfl)
    (hfew : ((backTo cpos (starEach [e] X.env)).all (fun x => !x.1) && (backToKw cpos (keywordEach [] X.env)).all (fun x => x.1.isSome)
      && decide (([e] : List PySem.Expr).length + ([] : List Keyword).length + (if ([] : List Keyword).isEmpty then 0 else 1) < 30)) = true := by rfl)
    (hline : (apos.endLine == cpos.line) = true := by rfl) (hst : starEach [e] X.env = (false, eval e X.env) :: starEach [] X.env := by rfl) (hplain : (backTo cpos (starEach [] X.env)).any (·.1) = false := by rfl) :
    PE X (.Call (.Attribute o "index" apos) [e] [] cpos) (teD X.K κ W (eIdx f g)) := by
  refine pe_imp (pe_bm PySem.F.plainAttrs_list PySem.F.slot_list_index PySem.F.type_list_index (mt_indexD hu) ho (pa_cons he pa_nil hst) hbase hfew hline hst hplain) fun σ H Q h => ?_
  obtain ⟨I, F, env, k, p⟩ := h
  refine ⟨I, F, env, k, Post.mono (Post.bind (R := RD X.K κ) p) ?_⟩
  rintro x H1 ⟨I1, env1, dx, nfp, s1, k1, ⟨rx, rfl⟩, p1⟩
  unfold rIdx at p1
  split at p1
  · rename_i ds
    have rx0 := rx
    cases rx with
    | lst hI ra =>
    refine ⟨.inl ⟨rfl, _, SqL.of (k1.ext _ _ hI)⟩, I1, F, env1, k1, Post.mono (p1.bind (R := RD X.K κ)) ?_⟩
    rintro y H2 ⟨I2, env2, dy, nfp2, s2, k2, ⟨ry, rfl⟩, p2⟩
    obtain ⟨d, e2, p3⟩ := p2.lift1
    unfold ixD at e2
    split at e2
    · rename_i hok
      cases hf : (ds.findIdx? fun z => PyData.eqv z.py dy.py) with
      | none => rw [hf] at e2; cases e2
      | some j =>
        rw [hf] at e2
        simp only [Option.map_some, Option.some.injEq] at e2
        subst e2
        unfold eqOk at hok
        simp only [Bool.and_eq_true] at hok
        obtain ⟨⟨⟨o1, o2⟩, o3⟩, o4⟩ := hok
        have dl := Rp.dp k2.ext (rx0.mono s2.ext) o2
        simp only [D.py] at dl
        have dyp := Rp.dp k2.ext ry o1
        obtain ⟨hj, hz, hmin⟩ := List.findIdx?_eq_some_iff_getElem.mp hf
        have hpm : ∀ l : List D, D.pys l = l.map D.py := fun l => by
          induction l with
          | nil => rfl
          | cons a r ih => simp [D.pys, ih]
        refine ⟨_, _, dy.py, D.pys ds, j, (ds[j]).py, rfl, rfl, dl, dyp, by simpa [D.py] using o4, o3, by rw [hpm, List.getElem?_map, List.getElem?_eq_getElem hj]; rfl, hz, fun m z' hm hz' => ?_, p3 I2 H2 _ [] (Step.refl F I2) k2 ⟨.int _, rfl⟩⟩
        have hml : m < ds.length := by omega
        rw [hpm, List.getElem?_map, List.getElem?_eq_getElem hml] at hz'
        cases hz'
        have := hmin m hm
        simpa using this
    · cases e2
  · exact p1.elim
theorem pairsOf_ok {K : PySem.W.Frag} {I : Hp} : ∀ {vs : List V} {ds : List D} {ps : List (Key × D)}, RpA K κ I vs ds → pairsOf ds = some ps → ∃ (as : List Addr) (kvs : List (Key × V)), vs = as.map V.ref ∧ Paired (fun p kv => I p = some (.tup [kV kv.1, kv.2])) as kvs ∧ RpK K κ I kvs ps
  | _, _, ps, .nil, h => by simp [pairsOf] at h; subst h; exact ⟨[], [], rfl, .nil, .nil⟩
  | _, d :: ds, ps, .cons hv r, h => by
    unfold pairsOf at h
    split at h
    · rename_i heq; cases heq
    · rename_i k v r' heq
      cases heq
      cases hk : keyOf k with
      | none => rw [hk] at h; cases h
      | some ky =>
        rw [hk] at h
        cases hp : pairsOf ds with
        | none => rw [hp] at h; cases h
        | some ps' =>
          rw [hp] at h
          simp only [Option.bind_some, Option.map_some, Option.some.injEq] at h
          subst h
          obtain ⟨as, kvs, rfl, h2, h3⟩ := pairsOf_ok r hp
          cases hv with
          | tup hI ra =>
            rename_i av vv
            obtain ⟨v1, v2, rfl, r1, r2⟩ := ra.two
            have := keyOf_kV r1 hk
            subst this
            exact ⟨av :: as, (ky, v2) :: kvs, rfl, .cons hI h2, .cons r2 h3⟩
    · cases h
theorem foldK_ok {K : PySem.W.Frag} {I : Hp} : ∀ {more : List (Key × V)} {mds : List (Key × D)} {vs : List (Key × V)} {ds : List (Key × D)}, RpK K κ I more mds → RpK K κ I vs ds → RpK K κ I (mergeK vs more) (foldK ds mds)
  | _, _, _, _, .nil, h => h
  | _, _, _, _, .cons (vs := ms) (ds := es) hv r, h => by
    show RpK K κ I (mergeK (putK _ _ _) ms) (foldK (setK _ _ _) es)
    exact foldK_ok r (h.put hv)
theorem paired_imp {α β : Type} {R S : α → β → Prop} (h : ∀ a b, R a b → S a b) : ∀ {as : List α} {bs : List β}, Paired R as bs → Paired S as bs
  | _, _, .nil => .nil
  | _, _, .cons x r => .cons (h _ _ x) (paired_imp h r)
theorem cd_dictP (hc : X.calm = true) : CallD X κ (.type "dict") opDictP := by
  refine ⟨_, call_dictP hc, fun σ I F H env vs ds d Q k rs e q => ?_⟩
  unfold opDictP at e
  split at e
  · obtain ⟨v, rfl, r⟩ := rs.one
    rename_i ds
    cases h : pairsOf ds with
    | none => rw [h] at e; cases e
    | some ps =>
      rw [h] at e
      cases e
      cases r with
      | lst hI ra =>
        obtain ⟨as, kvs, rfl, h2, h3⟩ := pairsOf_ok ra h
        exact ⟨_, as, kvs, rfl, SqL.of (k.ext _ _ hI), paired_imp (fun p kv hp => SqT.of (k.ext _ _ hp)) h2, q1 k q fun p I' s e => .dct e (foldK_ok (h3.mono s) .nil)⟩
  · cases e
theorem getK_valV {K : PySem.W.Frag} {I : Hp} {k : Key} : ∀ {vs : List (Key × V)} {ds : List (Key × D)}, RpK K κ I vs ds → Rp K κ I ((valV vs k).getD .non) ((getK ds k).getD .non)
  | _, _, .nil => .non
  | _, _, .cons (k := k') hv r => by
    unfold valV getK
    rw [List.find?_cons, List.find?_cons]
    by_cases z : k' = k
    · simp [z]; exact hv
    · simp only [z, decide_false]
      exact getK_valV r
theorem de_dget {f g : EM D} {apos cpos : Pos} (hu : X.A.units + 1 < cLine) (ho : PE X o (teD X.K κ W f)) (he : PE X e (teD X.K κ W g)) (m : M1 X o "get" apos e cpos) : PE X (.Call (.Attribute o "get" apos) [e] [] cpos) (teD X.K κ W (eDGet f g)) := by
  refine pe_imp (pe_dget1 hu ho he m) fun σ H Q h => ?_
  obtain ⟨I, F, env, k, p⟩ := h
  refine ⟨I, F, env, k, Post.mono (Post.bind (R := RD X.K κ) p) ?_⟩
  rintro x H1 ⟨I1, env1, dx, nfp, s1, k1, ⟨rx, rfl⟩, p1⟩
  unfold rDGet at p1
  split at p1
  · rename_i kvs
    cases rx with
    | dct hI ra =>
    refine ⟨_, rfl, .inl ⟨_, .inl (k1.ext _ _ hI)⟩, I1, F, env1, k1, Post.mono (p1.bind (R := RD X.K κ)) ?_⟩
    rintro y H2 ⟨I2, env2, dy, nfp2, s2, k2, ⟨ry, rfl⟩, p2⟩
    obtain ⟨d, e2, p3⟩ := p2.lift1
    cases hk : keyOf dy with
    | none => rw [hk] at e2; cases e2
    | some ky =>
      rw [hk] at e2
      cases e2
      have := keyOf_kV ry hk
      subst this
      exact ⟨_, DGet.k (k2.ext _ _ (s2.ext _ _ hI)), p3 I2 H2 _ [] (Step.refl F I2) k2 ⟨getK_valV (ra.mono s2.ext), rfl⟩⟩
  · exact p1.elim
theorem de_lrg {f : EM D} {p p2 pos2 : Pos} (hc : X.calm = true) (hm : X.mg "list" = none) (hm2 : X.mg "range" = none) (he : PE X e (teD X.K κ W f)) (hg : Gl X "list" := by rfl) (hg2 : Gl X "range" := by rfl) (hs : starEach [e] X.env = (false, eval e X.env) :: starEach [] X.env := by rfl)
    (hs2 : starEach [.Call (.Name "range" p2) [e] [] pos2] X.env = (false, eval (.Call (.Name "range" p2) [e] [] pos2) X.env) :: starEach [] X.env := by rfl) : PE X (.Call (.Name "list" p) [.Call (.Name "range" p2) [e] [] pos2] [] pos) (teD X.K κ W (eLRg f)) := by
  refine pe_imp (pe_listRg hc hg hm (prg_1 hg2 hm2 he hs) hs2) fun σ H Q h => ?_
  obtain ⟨I, F, env, k, p⟩ := h
  refine ⟨I, F, env, k, Post.mono (Post.bind (R := RD X.K κ) p) ?_⟩
  rintro x H1 ⟨I1, env1, dx, nfp, s1, k1, ⟨rx, rfl⟩, p1⟩
  unfold rLRg at p1
  split at p1
  · rename_i j
    obtain ⟨d, e2, p3⟩ := p1.lift1
    split at e2
    · rename_i hz
      cases e2
      cases rx
      have hz1 := hz.1.1
      have hz2 := hz.1.2
      have hz3 := hz.2
      refine ⟨j, rfl, ⟨by omega, by omega, hz1, hz2, by omega⟩, q1 k1 (fun I' H' v s o r => p3 I' H' v [] s o ⟨r, rfl⟩) fun p I' s e => .lst e ?_⟩
      have : rgV 0 j = ((List.range (j - 0).toNat).map fun i => ((0 : Int) + (i : Nat))).map V.int := by unfold rgV; rw [List.map_map]; rfl
      rw [this]
      have : rangeD 0 j = ((List.range (j - 0).toNat).map fun i => ((0 : Int) + (i : Nat))).map D.int := by unfold rangeD; rw [List.map_map]; rfl
      rw [this]
      exact RpA.ints
    · cases e2
  · exact p1.elim
theorem walkD_revRg {K : PySem.W.Frag} {I : Hp} {j : Int} : WalkD K κ I (Itc (0 + ((j - 0).toNat : Nat) - 1) (-1) (j - 0).toNat) (rangeD 0 j).reverse where
  go := fun i H hi s => by
    show i < (j - 0).toNat
    simpa [rangeD] using hi
  stop := fun H s => by
    show (j - 0).toNat ≤ (rangeD 0 j).reverse.length
    simp [rangeD]
  yld := fun i H x H' hi s y => by
    obtain ⟨rfl, rfl⟩ := y
    have hi : i < (j - 0).toNat := by simpa [rangeD] using hi
    have hl : (rangeD 0 j).length = (j - 0).toNat := by simp [rangeD]
    refine ⟨.int (((j - 0).toNat - 1 - i : Nat) : Int), ?_, fun I1 s1 s2 => .inl ⟨rfl, ?_⟩⟩
    · rw [List.getElem?_reverse (by rw [hl]; exact hi), hl, rangeD_get (by omega)]
      simp
    · have : (0 + ((j - 0).toNat : Nat) - 1 + (i : Nat) * (-1) : Int) = (((j - 0).toNat - 1 - i : Nat) : Int) := by omega
      rw [this]
      exact .int _
theorem di_revRg {f : EM D} {tg : PySem.Expr} {p p2 pos2 : Pos} (hm : X.mg "reversed" = none) (hm2 : X.mg "range" = none) (he : PE X e (teD X.K κ W f)) (hg : Gl X "reversed" := by rfl) (hg2 : Gl X "range" := by rfl) (hs : starEach [e] X.env = (false, eval e X.env) :: starEach [] X.env := by rfl)
    (hs2 : starEach [.Call (.Name "range" p2) [e] [] pos2] X.env = (false, eval (.Call (.Name "range" p2) [e] [] pos2) X.env) :: starEach [] X.env := by rfl) : PI X tg (.Call (.Name "reversed" p) [.Call (.Name "range" p2) [e] [] pos2] [] pos) (tiD X.K κ W (iRevRg f)) := by
  refine pi_imp (pi_revR hg hm (prg_1 hg2 hm2 he hs) hs2) fun σ H R h => ?_
  obtain ⟨I, F, env, k, p⟩ := h
  refine ⟨I, F, env, k, Post.mono (Post.bind (R := RD X.K κ) p) ?_⟩
  rintro x H1 ⟨I1, env1, dx, nfp, s1, k1, ⟨rx, rfl⟩, p1⟩
  unfold rRRg at p1
  split at p1
  · rename_i j
    obtain ⟨d, e2, p3⟩ := p1.lift1
    split at e2
    · rename_i hz
      cases e2
      cases rx
      have hz1 := hz.1
      have hz2 := hz.2
      exact ⟨j, rfl, by omega, by omega, hz1, hz2, p3 I1 H1 _ [] (Step.refl F I1) k1 ⟨walkD_revRg, rfl⟩⟩
    · cases e2
  · exact p1.elim
theorem ds_cat {f g : EM D} (ha : PE X a (teD X.K κ W f)) (hb : PE X b (teD X.K κ W g)) : PE X (.BinOp a .Add b pos) (teS X.K κ W (sCat f g)) := by
  refine pe_imp (pe_op op_cat ha hb) fun σ H Q h => ?_
  obtain ⟨I, F, env, k, p⟩ := h
  refine ⟨I, F, env, k, Post.mono (Post.bind (R := RD X.K κ) p) ?_⟩
  rintro x H1 ⟨I1, env1, dx, nfp, s1, k1, ⟨rx, rfl⟩, p1⟩
  refine ⟨I1, F, env1, k1, Post.mono (Post.bind (R := RD X.K κ) p1) ?_⟩
  rintro y H2 ⟨I2, env2, dy, nfp2, s2, k2, ⟨ry, rfl⟩, p2⟩
  unfold rCat at p2
  split at p2
  · obtain ⟨d, e2, p3⟩ := p2.lift1
    split at e2
    · rename_i hz
      cases e2
      cases rx with
      | lst h1 r1 =>
        cases ry with
        | lst h2 r2 =>
          exact ⟨_, _, _, _, rfl, rfl, k2.ext _ _ (s2.ext _ _ h1), k2.ext _ _ h2, by rw [r1.length, r2.length]; exact hz, fun p hp => p3 I2 _ (.ref p) [p] (Step.refl F I2) (k2.newO hp) (.own (.lf (.lst upd_same ((r1.mono s2.ext).append r2))))⟩
    · cases e2
  · exact p2.elim
end
end DL
namespace DL
open PySem L2
/-- {k: v}, owned -/
def rDct1 (x y : D) : EM SV := lift ((keyOf x).map fun k => .own (.lf (.dct [(k, y)])))
def sDct1 (f g : EM D) : EM SV := f.bind fun x => g.bind fun y => rDct1 x y
section
variable {X : Cx} {κ : Nat → Addr} {W : WX} {P : List Nat} {o e a b : PySem.Expr} {pos : Pos}
/-- something told, with new things beside -/
theorem Post.aside {K : PySem.W.Frag} {α γ β δ : Type} {R : Hp → Hp → β → α → List Addr → Prop} {S : Hp → Hp → δ → γ → List Addr → Prop} {I F H : Hp} {σ : L2.St} {env : Slots} {l : List Addr} {f : EM α} {g : α → EM γ} {Q : δ → Hp → Prop} {Q' : β → Hp → Prop} (k : Ok K κ I F H σ env (l ++ [])) (p : Post K κ S W I F σ Q ((f.bind g) env))
    (h : ∀ I1 H1 b nfp env1 a, Step F I I1 → Ok K κ I1 F H1 σ env1 (l ++ nfp) → (∀ x ∈ l, H1 x = H x) → R I1 H1 b a nfp → Post K κ S W I1 F σ Q (g a env1) → Q' b H1) : Post K κ R W I (addF F H l) σ Q' (f env) := by
  unfold EM.bind at p
  revert p
  cases f env with
  | ok a env1 =>
    intro p I1 H1 b nfp s1 k1 r
    obtain ⟨k2, kp, s2⟩ := Ok.unframe k k1 s1
    exact h I1 H1 b nfp env1 a s2 k2 kp r (Post.step p s2)
  | exc ex env1 =>
    intro p I1 H1 cls dd s1 k1 hE
    obtain ⟨k2, kp, s2⟩ := Ok.unframe k k1 s1
    exact p I1 H1 cls dd s2 k2.drop hE
  | stuck => exact fun p => p.elim
theorem ds_dct1 {f g : EM D} (ha : PE X a (teD X.K κ W f)) (hb : PE X b (teD X.K κ W g)) : PE X (.Dict [some a] [b] pos) (teS X.K κ W (sDct1 f g)) := by
  refine pe_imp (pe_disp (pps_cons ha hb pps_nil) rfl rfl (fun z => by cases z) (by simp)) fun σ H Q h => ?_
  obtain ⟨I, F, env, k, p⟩ := h
  intro q hq
  have k1 : Ok X.K κ I F (upd H q (.dK [])) σ env ([q] ++ []) := k.newO hq
  refine ⟨I, _, env, Ok.frame k1, Post.aside k1 p fun I1 H1 x nfp env1 dx s1 k2 kp rx p1 => ?_⟩
  obtain ⟨rx, rfl⟩ := rx
  refine ⟨I1, _, env1, Ok.frame k2, Post.aside k2 p1 fun I2 H2 y nfp2 env2 dy s2 k3 kp2 ry p2 => ?_⟩
  obtain ⟨ry, rfl⟩ := ry
  have hq2 : H2 q = some (.dK []) := by rw [kp2 q (by simp), kp q (by simp)]; exact upd_same
  refine ⟨hq2, ?_⟩
  obtain ⟨sv, e2, p3⟩ := p2.lift1
  cases hk : keyOf dx with
  | none => rw [hk] at e2; cases e2
  | some ky =>
    rw [hk] at e2
    simp only [Option.map_some, Option.some.injEq] at e2
    subst e2
    have := keyOf_kV rx hk
    subst this
    refine ⟨[(ky, y)], rfl, by simp, ?_⟩
    have k4 : Ok X.K κ I2 F (upd H2 q (.dK [(ky, y)])) σ env2 [q] := by
      have k3' : Ok X.K κ I2 F H2 σ env2 [q] := k3
      exact k3'.write
    exact p3 I2 _ (.ref q) [q] (Step.refl F I2) k4 (.own (.lf (.dct upd_same (.cons ry .nil))))
/-- x = [..] that asks own things, x a plain local -/
theorem d_setLcQ {P : List Nat} {i : Nat} {y : Str} {py spos : Pos} {tg elt iter : PySem.Expr} {t : TG} {g : TM} {c : EM Bool} {f : EM D} {it : EM (List D)} {scope : Scope} {own : List (Str × Nat)} {ifs : List PySem.Expr} (hc : X.calm = true) (hN : X.N.Nodup) (hi : PI X tg iter (tiD X.K κ W it)) (ok : BlkOk X.N X.env.scope scope own)
    (ho : Own t (own.map (·.2))) (ig : TGok X.K κ [] t g)
    (hg : ∀ (s : Shared) (H : Hp) (C : Addr) (cl : List (Str × Addr)) (fp : List Addr), PG (X.blk s H scope (compEnvC scope cl C X.env) fp) tg t)
    (ht : ∀ (s : Shared) (H : Hp) (C : Addr) (cl : List (Str × Addr)) (fp : List Addr), PTs (X.blk s H scope (compEnvC scope cl C X.env) fp) ifs (ttD X.K κ W0 c))
    (he : ∀ (s : Shared) (H : Hp) (C : Addr) (cl : List (Str × Addr)) (fp : List Addr), PE (X.blk s H scope (compEnvC scope cl C X.env) fp) elt (teD X.K κ W0 f)) (hP : i ∉ P := by decide) (hy : X.N[i]? = some y := by rfl) (hyl : X.env.scope.names.lookup y = some .local := by rfl)
    (hsw : swapsWith (.ListComp elt [⟨tg, iter, ifs, 0⟩] scope pos) (some (.Name y py)) spos.line X.env = pure true := by exact sw_true rfl rfl rfl rfl) (hs : ∀ x, foldedSetIterable iter X.env x = pure x := by intro _; rfl) :
    PS X (.Assign [.Name y py] (.ListComp elt [⟨tg, iter, ifs, 0⟩] scope pos) spos) (tsD X.K κ W P (sAsg i (lcO (eQL (eLc (own.map (·.2)) it g c f))))) := by
  refine ps_imp (ps_setLc hc hN hy hyl hsw hi ok hg ht he hs) fun Dn σ H h => ?_
  obtain ⟨I, F, env, k, p⟩ := h
  unfold sAsg lcO at p
  rw [EM.assoc] at p
  obtain ⟨fp, e, r, kv⟩ := k.view
  refine lc_imp ho ig σ H _ ⟨_, _, _, kv, ?_⟩
  unfold EM.bind at p
  have hq : eQL (eLc (own.map (·.2)) it g c f) env = match eLc (own.map (·.2)) it g c f (viewEnv env) with
      | .ok ds _ => if ds.all D.scal = true then .ok ds env else .stuck
      | _ => .stuck := rfl
  rw [hq] at p
  revert p
  cases eLc (own.map (·.2)) it g c f (viewEnv env) with
  | ok ds env' =>
    intro p I' H' v nfp s k' hR
    by_cases z : ds.all D.scal = true
    · simp only [z, if_true] at p
      cases hR with
      | lst hH ra =>
        have k2 := Ok.unviewN e r s k'
        have p1 : PostS X.K κ W P I F σ Dn (setSlot i (.own (.lf (.lst ds))) env) := p
        unfold setSlot at p1
        split at p1
        · rename_i hl
          have k3 := Ok.store (i := i) (nfp := []) (by rw [List.append_nil]; exact k2) hl (.own (.lf (.lst hH (ra.scal z))))
          exact p1.nx k3 (Step.refl F I) (Pin.set hP)
        · exact p1.elim
    · simp only [if_neg z] at p
      exact p.elim
  | exc e env' => exact fun p => p.elim
  | stuck => exact fun p => p.elim
end
end DL
namespace DL
open PySem L2
section
variable {X : Cx} {κ : Nat → Addr} {W : WX} {a b : PySem.Expr} {pos : Pos}
theorem tB_of {f : EM D} {σ : L2.St} {H : Hp} {Q : Bool → Hp → Prop} (h : ttD X.K κ W (bVal f) σ H Q) : teD X.K κ W f σ H fun x H1 => ∃ k, x = .bl k ∧ Q k H1 := by
  obtain ⟨I, F, env, k, p⟩ := h
  refine ⟨I, F, env, k, Post.mono (p.bind (R := RD X.K κ)) ?_⟩
  rintro x H1 ⟨I1, env1, d, nfp, s1, k1, ⟨rx, rfl⟩, p1⟩
  split at p1
  · cases rx
    exact ⟨_, rfl, p1 I1 H1 _ [] (Step.refl F I1) k1 ⟨rfl, rfl⟩⟩
  · exact p1.elim
theorem dt_inK {f g : EM D} (hu : X.A.units + 1 < cLine) (ha : PE X a (teD X.K κ W f)) (hb : PE X b (teD X.K κ W g)) (hm : behindInMarks .In b = false := by first | with_unfolding_all rfl | rfl) : PT X (.Compare a [.In] [b] pos) (ttD X.K κ W (bVal (eBin opInK f g))) := by
  refine pt_imp (pt_cmp (pc_din hu ha hb) hm) fun σ H Q h => ?_
  have := in_k (not := false) (fun x y d e => by
    unfold opInK at e
    split at e
    · cases h : keyOf x with
      | none => rw [h] at e; cases e
      | some k => rw [h] at e; cases e; exact ⟨_, k, rfl, rfl, by simp⟩
    · cases e) σ H _ (tB_of h)
  unfold tB tDIn
  simpa only [Bool.false_xor] using this
theorem dt_notInK {f g : EM D} (hu : X.A.units + 1 < cLine) (ha : PE X a (teD X.K κ W f)) (hb : PE X b (teD X.K κ W g)) (hm : behindInMarks .NotIn b = false := by first | with_unfolding_all rfl | rfl) : PT X (.Compare a [.NotIn] [b] pos) (ttD X.K κ W (bVal (eBin opNotInK f g))) := by
  refine pt_imp (pt_cmp (pc_dnotin hu ha hb) hm) fun σ H Q h => ?_
  have := in_k (not := true) (fun x y d e => by
    unfold opNotInK opInK at e
    split at e
    · cases h : keyOf x with
      | none => rw [h] at e; cases e
      | some k => rw [h] at e; cases e; exact ⟨_, k, rfl, rfl, by simp⟩
    · cases e) σ H _ (tB_of h)
  unfold tB tDNotIn
  simpa only [Bool.true_xor] using this
end
end DL

/-! DL25: exceptions as data: made, asked for their class and their fields; texts joined -/
namespace DL
open PySem L2 PySem.Spec PyProof.Rows
section
variable {X : Cx} {e : PySem.Expr} {pos : Pos}
/-- a made exception as a value -/
theorem pe_mkv {t : L2.St → Hp → XK → Prop} (h : PMk X e t) : PE X e (fun σ H Q => t σ H fun cls d H1 => ∃ C, cls = .ref C ∧ ∀ a, H1 a = none → Q (.ref a) (upd H1 a (xob C a d))) := by
  refine ⟨fun pins s σ H Q I hh => wpAny_mono (h pins s σ H _ I hh) (fun u s1 hu => ?_) fun _ _ x => x⟩
  obtain ⟨a, oe, vs, sI, H1, cls, d, rfl, J, kG, ge, ho, hz, hd, _, na, hos, hbare, _, C, rfl, q⟩ := hu
  have J2 := J.laidN (t' := s1.toks) (h' := s1.heap) (o := xob C a d) kG ge na ⟨⟨oe, vs, ho, hz, hd⟩, ⟨oe, ho⟩, fun _ _ ⟨o, v, q, r⟩ k => ⟨o, v, k o q, r⟩⟩
  exact ⟨.ref a, _, ⟨J2.ok, hos.trans J2.os, hbare, J2.base, J2.loc, J2.cell, J2.free, J2.freeC, J2.pin, J2.hok, J2.len⟩, rfl, q a na⟩
def tXfv (K : PySem.W.Frag) (n : Str) (te : TE) : TE := fun σ H Q => te σ H fun x H1 => ∃ (a C dd : Addr) (fs : List (Str × V)) (v : V), x = .ref a ∧ H1 a = some (xob C a (some dd)) ∧ H1 dd = some (.xd fs) ∧ XfC K C ∧ PySem.W.findIn K (.ref C) n = some none ∧ fs.lookup n = some v ∧ Q v H1
theorem xob_at {P : Program} {w : World} {H : Hp} {h : Heap} {a C : Addr} {d : Option Addr} (k : HOk P w H h) (ea : H a = some (xob C a d)) : ∃ (oe : Obj) (vs : Array Value), h.get? a = some oe ∧ Zc (.ref C) d oe ∧ oe.data = .fields vs := by
  have x : ObjOk P w H h a (xob C a d) := k a _ ea
  exact x.1
theorem pe_xfv {te : TE} {n : Str} (he : PE X e te) (hb : attributeBase e n X.env (eval e X.env) = eval e X.env := by rfl) : PE X (.Attribute e n pos) (tXfv X.K n te) := by
  refine ⟨fun pins s σ H Q I h => ?_⟩
  refine attr_of hb (thn (he.run pins s σ H _ I h) fun u s1 hh => ?_)
  obtain ⟨x, H1, I1, rx, a, C, dd, fs, v, ex, ea, ed, T, hno, l, q⟩ := hh
  subst ex
  obtain rfl : u = Value.ref a := rx
  obtain ⟨oe, vs, ho, hz, hd⟩ := xob_at I1.hok ea
  have hx : ObjOk X.prog X.w H1 s1.heap dd (.xd fs) := I1.hok dd _ ed
  obtain ⟨mA, hns, hr⟩ := hx
  obtain ⟨od, hod, hl⟩ := lookIn_ns hns
  obtain ⟨u, hu, ru⟩ := RelO.some_of (v := v) (o := mA n) (by rw [← l]; exact hr n)
  have J : PySem.W.InstAt s1.heap a oe C (some od) := ⟨ho, hz.1, by unfold PySem.W.notCls; rw [hd], by rw [hz.2]; exact hod⟩
  exact PySem.HandSPX.exc_get I1.kIn J T.ga T.gg T.exC (PySem.W.findObj_own T.hdC hno rfl (by rw [hl, hu])) (handed_of ru) ⟨v, H1, I1.tok _, ru, q⟩
def XdAt (H : Hp) (d : Option Addr) : Prop := d = none ∨ ∃ dd fs, d = some dd ∧ H dd = some (.xd fs)
def rIsX (K : PySem.W.Frag) : List V → Hp → VK → Prop := fun xs H Q => ∃ (a C : Addr) (d : Option Addr) (c : V) (cv : Value) (b : Bool), xs = [.ref a, c] ∧ H a = some (xob C a d) ∧ XdAt H d ∧ ClsV c cv ∧ ExcC K C ∧ PySem.W.kitOne K (.ref C) cv = some b ∧ Q (.bl b) H
theorem call_isX : CallR X (.builtin "isinstance") (rIsX X.K) := by
  intro pins s σ H xs us Q I r h
  obtain ⟨a, C, d, c, cv, b, rfl, ea, hx, hcv, T, e, q⟩ := h
  obtain ⟨u1, u2, rfl, r1, r2⟩ := vals2 r
  have e2 := hcv.eq r2
  subst e2
  cases r1
  obtain ⟨oe, vs, ho, hz, hd⟩ := xob_at I.hok ea
  have J : ∃ od, PySem.W.InstAt s.heap a oe C od := by
    rcases hx with rfl | ⟨dd, fs, rfl, ed⟩
    · exact ⟨none, ho, hz.1, by unfold PySem.W.notCls; rw [hd], by rw [hz.2]; trivial⟩
    · have hx : ObjOk X.prog X.w H s.heap dd (.xd fs) := I.hok dd _ ed
      obtain ⟨mA, hns, hr⟩ := hx
      obtain ⟨od, hod, hl⟩ := lookIn_ns hns
      exact ⟨some od, ho, hz.1, by unfold PySem.W.notCls; rw [hd], by rw [hz.2]; exact hod⟩
  obtain ⟨od, J⟩ := J
  have hcl : (PySem.W.clsIn X.K C).isSome = true := by
    obtain ⟨cd, hc, _⟩ := PySem.W.any_some T.hd
    rw [hc]; rfl
  exact PySem.W.kia_one (PySem.W.kitx_exc hcl T.hg T.hk T.hs T.ha T.hn T.ht T.hm) I.kIn J e (fun z => nomatch z) fun tk => ⟨.bl b, H, I.kept (t' := tk) fun _ _ z => z, rfl, q⟩
end

/-! ### the init of an exception's class -/
def spI1 (C : Addr) (f : Str) : Sp := fun vs H Q _ => ∃ (a : Addr) (v : V), vs = [.ref a, v] ∧ H a = some (exo a C none) ∧ ∀ dx, H dx = none → dx ≠ a → Q .non (upd (upd H dx (exd dx [(f, v)])) a (exo a C (some dx)))
def spI2 (C : Addr) (f f2 : Str) : Sp := fun vs H Q _ => ∃ (a : Addr) (v v2 : V), vs = [.ref a, v, v2] ∧ H a = some (exo a C none) ∧ ∀ dx, H dx = none → dx ≠ a → Q .non (upd (upd (upd H dx (exd dx [(f, v)])) a (exo a C (some dx))) dx (exd dx [(f2, v2), (f, v)]))
section
variable {P : Program} {w : World} {K : PySem.W.Frag} {mg : Str → Option Value} {base : Heap} {CX : CXT}
theorem fn_init1 {x qual : Str} {st : PySem.Stmt} {fI C : Addr} {fd : FuncData} {g f : Str} {k : Nat} {p1 p2 p3 p4 : Pos} (G : FunD K x qual (defArgs st) (defBody st) (defScope st) [] [] fI fd) (S : FnScope ["self", g] ["self", g] (defScope st)) (hb : defBody st = [.Assign [.Attribute (.Name "self" p1) f p2] (.Name g p3) p4])
    (v1 : (defScope st).names.lookup ("self" : Str) = some .local) (v2 : (defScope st).names.lookup g = some .local) (hd : (g == ("__debug__" : Str)) = false) (hcd : (g == ("__classdict__" : Str)) = false) (T : OexC K C) (hno : PySem.W.findIn K (.ref C) f = some none) : FnOk P w K mg base CX (k + 1) fI fd ["self", g] (spI1 C f) := by
  refine G.ok S (fun vs H Q E h => by obtain ⟨a, v, rfl, _⟩ := h; rfl) fun cdv A outer s H vs Q E hr h => ?_
  rw [hb]
  refine ⟨_, pss_cons (ps_ost (pe_var (i := 0) rfl (.inl v1)) (pe_var (i := 1) rfl (.inl v2) hd hcd)) pss_nil, ?_⟩
  obtain ⟨a, v, rfl, ea, q⟩ := h
  exact ⟨v, rfl, .ref a, rfl, a, C, rfl, T, hno, .inl ⟨ea, fun dx h1 h2 => q dx h1 h2⟩⟩
theorem fn_init2 {x qual : Str} {st : PySem.Stmt} {fI C : Addr} {fd : FuncData} {g g2 f f2 : Str} {k : Nat} {p1 p2 p3 p4 q1 q2 q3 q4 : Pos} (G : FunD K x qual (defArgs st) (defBody st) (defScope st) [] [] fI fd) (S : FnScope ["self", g, g2] ["self", g, g2] (defScope st))
    (hb : defBody st = [.Assign [.Attribute (.Name "self" p1) f p2] (.Name g p3) p4, .Assign [.Attribute (.Name "self" q1) f2 q2] (.Name g2 q3) q4])
    (v1 : (defScope st).names.lookup ("self" : Str) = some .local) (v2 : (defScope st).names.lookup g = some .local) (v3 : (defScope st).names.lookup g2 = some .local) (hd : (g == ("__debug__" : Str)) = false) (hcd : (g == ("__classdict__" : Str)) = false) (hd2 : (g2 == ("__debug__" : Str)) = false) (hcd2 : (g2 == ("__classdict__" : Str)) = false)
    (T : OexC K C) (hno : PySem.W.findIn K (.ref C) f = some none) (hno2 : PySem.W.findIn K (.ref C) f2 = some none) : FnOk P w K mg base CX (k + 1) fI fd ["self", g, g2] (spI2 C f f2) := by
  refine G.ok S (fun vs H Q E h => by obtain ⟨a, v, v2, rfl, _⟩ := h; rfl) fun cdv A outer s H vs Q E hr h => ?_
  rw [hb]
  refine ⟨_, pss_cons (ps_ost (pe_var (i := 0) rfl (.inl v1)) (pe_var (i := 1) rfl (.inl v2) hd hcd)) (pss_cons (ps_ost (pe_var (i := 0) rfl (.inl v1)) (pe_var (i := 2) rfl (.inl v3) hd2 hcd2)) pss_nil), ?_⟩
  obtain ⟨a, v, v2, rfl, ea, q⟩ := h
  refine ⟨v, rfl, .ref a, rfl, a, C, rfl, T, hno, .inl ⟨ea, fun dx h1 h2 => ?_⟩⟩
  refine ⟨v2, rfl, .ref a, rfl, a, C, rfl, T, hno2, .inr ⟨dx, [(f, v)], upd_same, ?_, by simp, q dx h1 h2⟩⟩
  rw [upd_ne h2]; exact upd_same
end

/-! ### rules -/
def opXF (cs : List Nat) (f : Str) : D → Option D
  | .exc c gs => if c ∈ cs then gs.lookup f else none
  | _ => none
def opIsX (cs ok : List Nat) : D → Option D
  | .exc c _ => if c ∈ cs then some (.bl (decide (c ∈ ok))) else none
  | _ => none
def xNew (c : Nat) (fs : List Str) (ds : List D) : Option D := if ds.length = fs.length then some (.exc c (fs.zip ds).reverse) else none
def eXNew (c : Nat) (fs : List Str) (f : EM (List D)) : EM D := f.bind fun ds => lift (xNew c fs ds)
def strsOfL : List D → Option (List Str)
  | [] => some []
  | .str x :: r => (strsOfL r).map (x :: ·)
  | _ :: _ => none
def opJoin (a : Str) : D → Option D
  | .lst ds => (strsOfL ds).bind fun ys => if (ys.map (·.length)).sum + ys.length * a.length ≤ 16777216 then some (.str (Txt.join a ys)) else none
  | _ => none
section
variable {X : Cx} {κ : Nat → Addr} {W : WX} {e : PySem.Expr} {pos : Pos}
theorem strsOfL_V {K : PySem.W.Frag} {I : Hp} : ∀ {vs : List V} {ds : List D} {ys : List Str}, RpA K κ I vs ds → strsOfL ds = some ys → vs = ys.map V.str
  | _, _, _, .nil, h => by simp only [strsOfL] at h; cases h; rfl
  | v :: vs, d :: ds, ys, .cons r rs, h => by
    cases r <;> simp only [strsOfL] at h <;> try (cases h)
    rename_i x
    cases hr : strsOfL ds with
    | none => rw [hr] at h; cases h
    | some zs =>
      rw [hr] at h
      cases h
      rw [strsOfL_V rs hr]; rfl
theorem de_xfld {cs : List Nat} {f : Str} {g : EM D} (he : PE X e (teD X.K κ W g)) (hc : ∀ c ∈ cs, XfC X.K (κ c) ∧ PySem.W.findIn X.K (.ref (κ c)) f = some none) (hb : attributeBase e f X.env (eval e X.env) = eval e X.env := by rfl) : PE X (.Attribute e f pos) (teD X.K κ W (eUn (opXF cs f) g)) := by
  refine pe_imp (pe_xfv he hb) fun σ H Q h => ?_
  obtain ⟨I, F, env, k, p⟩ := h
  refine ⟨I, F, env, k, Post.mono (p.bind (R := RD X.K κ)) ?_⟩
  rintro x H1 ⟨I1, env1, dx, nfp, s1, k1, ⟨rx, rfl⟩, p1⟩
  obtain ⟨d, e, p3⟩ := p1.lift1
  cases rx <;> simp only [opXF] at e <;> try (cases e)
  · rename_i h1 h2 r1
    split at e
    · rename_i hcc
      obtain ⟨v, hv, rv⟩ := r1.lookup e
      exact ⟨_, _, _, _, v, rfl, k1.ext _ _ h1, k1.ext _ _ h2, (hc _ hcc).1, (hc _ hcc).2, hv, p3 I1 H1 _ [] (Step.refl F I1) k1 ⟨rv, rfl⟩⟩
    · cases e
  · split at e
    · cases e
    · cases e
theorem de_isX {cs ok : List Nat} {f : EM D} {c : V} {cv : Value} {x : Str} {p p2 : Pos} (hm : X.mg "isinstance" = none) (hcv : PE X (.Name x p2) (tC c)) (hk : ClsV c cv) (hc : ∀ c ∈ cs, ExcC X.K (κ c) ∧ PySem.W.kitOne X.K (.ref (κ c)) cv = some (decide (c ∈ ok))) (he : PE X e (teD X.K κ W f)) (hg : Gl X "isinstance" := by rfl)
    (hs : starEach [e, .Name x p2] X.env = (false, eval e X.env) :: starEach [.Name x p2] X.env := by rfl) (hs2 : starEach [.Name x p2] X.env = (false, eval (.Name x p2) X.env) :: starEach [] X.env := by rfl) (hpl : (backTo pos (starEach [.Name x p2] X.env)).any (·.1) = false := by rfl) :
    PE X (.Call (.Name "isinstance" p) [e, .Name x p2] [] pos) (teD X.K κ W (eUn (opIsX cs ok) f)) := by
  refine pe_imp (pe_callB call_isX hg hm (by decide +kernel) (pa_cons he (pa_cons hcv pa_nil hs2) hs) (by decide) (by decide) hs hpl) fun σ H Q h => ?_
  obtain ⟨I, F, env, k, p⟩ := h
  refine ⟨I, F, env, k, Post.mono (p.bind (R := RD X.K κ)) ?_⟩
  rintro v H1 ⟨I1, env1, d, nfp, s1, k1, ⟨rx, rfl⟩, p1⟩
  obtain ⟨d', e', p3⟩ := p1.lift1
  cases rx <;> simp only [opIsX] at e' <;> try (cases e')
  · rename_i h1 h2 r1
    split at e'
    · rename_i hcc
      cases e'
      exact ⟨_, _, _, c, cv, _, rfl, k1.ext _ _ h1, .inr ⟨_, _, rfl, k1.ext _ _ h2⟩, hk, (hc _ hcc).1, (hc _ hcc).2, p3 I1 H1 _ [] (Step.refl F I1) k1 ⟨.bl _, rfl⟩⟩
    · cases e'
  · rename_i h1
    split at e'
    · rename_i hcc
      cases e'
      exact ⟨_, _, _, c, cv, _, rfl, k1.ext _ _ h1, .inl rfl, hk, (hc _ hcc).1, (hc _ hcc).2, p3 I1 H1 _ [] (Step.refl F I1) k1 ⟨.bl _, rfl⟩⟩
    · cases e'
theorem de_join {a : Str} {g : EM D} {j : Nat} {p0 apos : Pos} (he : PE X e (teD X.K κ W g)) (hs : starEach [e] X.env = [(false, eval e X.env)] := by rfl) (hbase : attributeBase (.Constant (.str a) j p0) "join" X.env (eval (.Constant (.str a) j p0) X.env) = eval (.Constant (.str a) j p0) X.env := by rfl) (hline : (apos.endLine == pos.line) = true := by rfl) :
    PE X (.Call (.Attribute (.Constant (.str a) j p0) "join" apos) [e] [] pos) (teD X.K κ W (eUn (opJoin a) g)) := by
  refine pe_imp (pe_join pe_str he hs hbase hline) fun σ H Q h => ?_
  obtain ⟨I, F, env, k, p⟩ := h
  refine ⟨⟨a, rfl⟩, I, F, env, k, Post.mono (p.bind (R := RD X.K κ)) ?_⟩
  rintro x H1 ⟨I1, env1, dx, nfp, s1, k1, ⟨rx, rfl⟩, p1⟩
  obtain ⟨d, e, p3⟩ := p1.lift1
  cases rx <;> simp only [opJoin] at e <;> try (cases e)
  rename_i h1 r1
  rename_i ds
  cases hy : strsOfL ds with
  | none => rw [hy] at e; cases e
  | some ys =>
    rw [hy] at e
    simp only [Option.bind_some] at e
    split at e
    · rename_i hz
      cases e
      have hv := strsOfL_V r1 hy
      subst hv
      exact ⟨a, _, ys, rfl, rfl, .inl (SqL.of (k1.ext _ _ h1)), hz, p3 I1 H1 _ [] (Step.refl F I1) k1 ⟨.str _, rfl⟩⟩
    · cases e
theorem del_upd {H : Hp} {a dx : Addr} {o o2 o3 : HO} (ha : H a = none) (hne : dx ≠ a) : upd (del (upd (upd H dx o) a o2) a) dx o3 = upd H dx o3 := by
  funext b
  by_cases h1 : b = dx
  · subst h1; rw [upd_same, upd_same]
  · rw [upd_ne h1, upd_ne h1]
    by_cases h2 : b = a
    · subst h2; rw [del_same, ha]
    · rw [del_ne h2, upd_ne h2, upd_ne h1]
theorem RpF.ofA {K : PySem.W.Frag} {I : Hp} {f : Str} {v : V} {d : D} {fs : List (Str × V)} {gs : List (Str × D)} (h : Rp K κ I v d) (r : RpF K κ I fs gs) : RpF K κ I ((f, v) :: fs) ((f, d) :: gs) := .cons h r
theorem de_xnew1 {c : Nat} {f1 x : Str} {fI : Addr} {k : Nat} {fd : FuncData} {ps : List Str} {p : Pos} {g : EM (List D)} {CXX : CXT} (T : OexC X.K (κ c)) (iC : PySem.W.findIn X.K (.ref (κ c)) "__init__" = some (some (.ref fI))) (tI : PySem.W.typeIn X.K (.ref fI) = some (.type "function"))
    (F1 : FnOk X.prog X.w X.K X.mg X.base CXX k fI fd ps (spI1 (κ c) f1)) (hr : Room (k + 1) X.A) (hb : Binds X.K fd ps []) (hx : Passes CXX X (fun _ _ _ => False)) (hm : X.mg x = some (.ref (κ c))) (ha : PA X [e] (taD X.K κ W g)) (hg : Gl X x := by rfl)
    (hdb : (x == ("__debug__" : Str)) = false := by decide) (he : starEach [e] X.env = (false, eval e X.env) :: starEach [] X.env := by rfl) (hpl : (backTo pos (starEach [] X.env)).any (·.1) = false := by rfl) :
    PE X (.Call (.Name x p) [e] [] pos) (teD X.K κ W (eXNew c [f1] g)) := by
  refine pe_imp (pe_mkv (pmk_oex T iC tI F1 hr hb .nil hx hg hm ha hdb he hpl)) fun σ H Q h => ?_
  obtain ⟨I, F, env, k, p⟩ := h
  refine ⟨I, F, env, k, Post.mono (p.bind (R := RA X.K κ)) ?_⟩
  rintro xs H1 ⟨I1, env1, ds, nfp, s1, k1, ⟨rx, rfl⟩, p1⟩
  obtain ⟨d, e, p3⟩ := p1.lift1
  unfold xNew at e
  split at e
  · rename_i hl
    cases e
    match ds, rx, hl with
    | [d1], .cons (v := v1) r1 .nil, _ =>
    refine ⟨by simp, fun a hna => ⟨a, v1, rfl, upd_same, fun dx h1 h2 => ⟨rfl, dx, [(f1, v1)], upd_same, ?_, ?_, κ c, rfl, fun a' ha' => ?_⟩⟩⟩
    · rw [upd_ne h2]; exact upd_same
    · rw [upd_ne h2] at h1; exact h1
    · rw [upd_ne h2] at h1
      have e1 : upd (del (upd (upd (upd H1 a (exo a (κ c) none)) dx (exd dx [(f1, v1)])) a (exo a (κ c) (some dx))) a) dx (.xd [(f1, v1)]) = upd H1 dx (.xd [(f1, v1)]) := by
        funext b
        by_cases z1 : b = dx
        · subst z1; rw [upd_same, upd_same]
        · rw [upd_ne z1, upd_ne z1]
          by_cases z2 : b = a
          · subst z2; rw [del_same, hna]
          · rw [del_ne z2, upd_ne z2, upd_ne z1, upd_ne z2]
      rw [e1] at ha' ⊢
      obtain ⟨k2, s2, i2⟩ := k1.newI (o := .xd [(f1, v1)]) h1
      obtain ⟨k3, s3, i3⟩ := k2.newI (o := xob (κ c) a' (some dx)) ha'
      exact p3 _ _ _ [] (s2.trans s3) k3 ⟨.exc i3 (s3.ext _ _ i2) (.cons (r1.mono (s2.trans s3).ext) .nil), rfl⟩
  · cases e
theorem de_xnew2 {c : Nat} {f1 f2 x : Str} {fI : Addr} {k : Nat} {fd : FuncData} {ps : List Str} {p : Pos} {g : EM (List D)} {CXX : CXT} {e2 : PySem.Expr} (T : OexC X.K (κ c)) (iC : PySem.W.findIn X.K (.ref (κ c)) "__init__" = some (some (.ref fI))) (tI : PySem.W.typeIn X.K (.ref fI) = some (.type "function"))
    (F1 : FnOk X.prog X.w X.K X.mg X.base CXX k fI fd ps (spI2 (κ c) f1 f2)) (hr : Room (k + 1) X.A) (hb : Binds X.K fd ps []) (hx : Passes CXX X (fun _ _ _ => False)) (hm : X.mg x = some (.ref (κ c))) (ha : PA X [e, e2] (taD X.K κ W g)) (hg : Gl X x := by rfl)
    (hdb : (x == ("__debug__" : Str)) = false := by decide) (he : starEach [e, e2] X.env = (false, eval e X.env) :: starEach [e2] X.env := by rfl) (hpl : (backTo pos (starEach [e2] X.env)).any (·.1) = false := by rfl) :
    PE X (.Call (.Name x p) [e, e2] [] pos) (teD X.K κ W (eXNew c [f1, f2] g)) := by
  refine pe_imp (pe_mkv (pmk_oex T iC tI F1 hr hb .nil hx hg hm ha hdb he hpl)) fun σ H Q h => ?_
  obtain ⟨I, F, env, k, p⟩ := h
  refine ⟨I, F, env, k, Post.mono (p.bind (R := RA X.K κ)) ?_⟩
  rintro xs H1 ⟨I1, env1, ds, nfp, s1, k1, ⟨rx, rfl⟩, p1⟩
  obtain ⟨d, e, p3⟩ := p1.lift1
  unfold xNew at e
  split at e
  · rename_i hl
    cases e
    match ds, rx, hl with
    | [d1, d2], .cons (v := v1) r1 (.cons (v := v2) r2 .nil), _ =>
    refine ⟨by simp, fun a hna => ⟨a, v1, v2, rfl, upd_same, fun dx h1 h2 => ⟨rfl, dx, [(f2, v2), (f1, v1)], ?_, upd_same, ?_, κ c, rfl, fun a' ha' => ?_⟩⟩⟩
    · rw [upd_ne (Ne.symm h2)]; exact upd_same
    · rw [upd_ne h2] at h1; exact h1
    · rw [upd_ne h2] at h1
      have e1 : upd (del (upd (upd (upd (upd H1 a (exo a (κ c) none)) dx (exd dx [(f1, v1)])) a (exo a (κ c) (some dx))) dx (exd dx [(f2, v2), (f1, v1)])) a) dx (.xd [(f2, v2), (f1, v1)]) = upd H1 dx (.xd [(f2, v2), (f1, v1)]) := by
        funext b
        by_cases z1 : b = dx
        · subst z1; rw [upd_same, upd_same]
        · rw [upd_ne z1, upd_ne z1]
          by_cases z2 : b = a
          · subst z2; rw [del_same, hna]
          · rw [del_ne z2, upd_ne z1, upd_ne z2, upd_ne z1, upd_ne z2]
      rw [e1] at ha' ⊢
      obtain ⟨k2, s2, i2⟩ := k1.newI (o := .xd [(f2, v2), (f1, v1)]) h1
      obtain ⟨k3, s3, i3⟩ := k2.newI (o := xob (κ c) a' (some dx)) ha'
      exact p3 _ _ _ [] (s2.trans s3) k3 ⟨.exc i3 (s3.ext _ _ i2) (.cons (r2.mono (s2.trans s3).ext) (.cons (r1.mono (s2.trans s3).ext) .nil)), rfl⟩
  · cases e
end
/-! ### whether a class is under another -/
theorem kit_ref {K : PySem.W.Frag} {C D : Addr} {b : Bool} (h : PySem.W.subIn K (.ref C) (.ref D) = some b) (hs : PySem.W.subIn K (.ref C) (.ref C) = some true) (hc : PySem.W.isClsIn K D = true) (ht : PySem.W.typeIn K (.ref D) = some (.type "type")) : PySem.W.kitOne K (.ref C) (.ref D) = some b := by
  unfold PySem.W.kitOne
  split
  · rename_i e
    have : C = D := Value.ref.inj (beq_iff_eq.mp e)
    subst this
    rw [hs] at h; exact h
  · show (if ((PySem.W.clsIn K D).isSome && PySem.W.typeIn K (.ref D) == some (.type "type")) = true then _ else none) = _
    have hc' : (PySem.W.clsIn K D).isSome = true := hc
    rw [if_pos (by rw [hc', ht]; rfl)]
    exact h
theorem kit_tyx {K : PySem.W.Frag} {C : Addr} {T : String} {b : Bool} (hm : PySem.W.kitMeta T = true) (h : PySem.W.subIn K (.ref C) (.type T) = some b) : PySem.W.kitOne K (.ref C) (.type T) = some b := by
  unfold PySem.W.kitOne
  rw [if_neg (by intro e; cases beq_iff_eq.mp e)]
  show (if PySem.W.kitMeta T = true then _ else none) = _
  rw [if_pos hm]; exact h
end DL

namespace DL.Law
open PySem L2 DL
noncomputable section
def b_x_law_cell_at : SM :=
  sSeq (sIf (bVal (eBin opLt (eVar 1) (eCallB opLen (aCons (eVar 0) (aNil))))) (sRet (sDat (eBin opMod (eBin opIx (eVar 0) (eVar 1)) (eBin opPow (eC (.int 10)) (eC (.int 18)))))) (sNx)) (
  sRet (sDat (eC (.int 0))))
def m_x_law_cell_at : List SV → RE SV := fnD [false, false] 2 b_x_law_cell_at
def C_x_law_word_1 : EM D :=
  eBin opIx (eVar 1) (eBin opMod (eBin opAdd (eBin opAdd (eBin opFdiv (eVar 0) (eC (.int 8))) (eBin opMul (eVar 2) (eVar 2))) (eBin opMul (eC (.int 7)) (eVar 2))) (eC (.int 26)))
def b_x_law_word : SM :=
  sSeq (sAsg 1 (sDat (eC (.str "abcdefghijklmnopqrstuvwxyz")))) (
  sRet (sDat (eUn (opJoin "") (lcF (eLc [2] (iRange (aCons (eBin opAdd (eC (.int 1)) (eBin opMod (eVar 0) (eC (.int 8)))) (aNil))) (gN 2) (bYes) (C_x_law_word_1))))))
def m_x_law_word : List SV → RE SV := fnD [false] 3 b_x_law_word
def C_x_law_kinds_1 : EM D :=
  eVar 2
def Q_x_law_kinds_2 : EM Bool :=
  bVal (eOwnIx 1 (eVar 2))
def b_x_law_kinds : SM :=
  sSeq (sAsg 1 (sLst (aCons (eUn (opIsX [10, 11, 12, 13] [10]) (eVar 0)) (aCons (eUn (opIsX [10, 11, 12, 13] [11]) (eVar 0)) (aCons (eUn (opIsX [10, 11, 12, 13] [13]) (eVar 0)) (aCons (eUn (opIsX [10, 11, 12, 13] [12]) (eVar 0)) (aNil))))))) (
  sSeq (sAsg 1 (sCat (eVar 1) (eLst (aCons (eUn (opIsX [10, 11, 12, 13] []) (eVar 0)) (aCons (eUn (opIsX [10, 11, 12, 13] []) (eVar 0)) (aCons (eUn (opIsX [10, 11, 12, 13] []) (eVar 0)) (aCons (eUn (opIsX [10, 11, 12, 13] []) (eVar 0)) (aNil)))))))) (
  sSeq (sAsg 1 (sCat (eVar 1) (eLst (aCons (eUn (opIsX [10, 11, 12, 13] []) (eVar 0)) (aCons (eUn (opIsX [10, 11, 12, 13] []) (eVar 0)) (aCons (eUn (opIsX [10, 11, 12, 13] []) (eVar 0)) (aNil))))))) (
  sSeq (sApp 1 (eUn (opIsX [10, 11, 12, 13] []) (eVar 0))) (
  sSeq (sIf (bOr (bNot (bVal (eUn (opIsX [10, 11, 12, 13] [10, 11, 12, 13]) (eVar 0)))) (bNot (bVal (eUn (opIsX [10, 11, 12, 13] [10, 11, 12, 13]) (eVar 0))))) (sRet (sDat (eLst (aNil)))) (sNx)) (
  sRet (sDat (lcF (eLc [2] (iRange (aCons (eC (.int 12)) (aNil))) (gN 2) (Q_x_law_kinds_2) (C_x_law_kinds_1)))))))))
def m_x_law_kinds : List SV → RE SV := fnD [false] 3 b_x_law_kinds
def L_law_1 : SM :=
  sIf (bOr (bVal (eBin opNe (asD (callD m_x_law_kinds [.dat (eBin opIx (eVar 5) (eVar 6))])) (eLst (aCons (eVar 6) (aNil))))) (bVal (eBin opNe (eUn (opXF [10, 11, 12, 13] "row") (eBin opIx (eVar 5) (eVar 6))) (eVar 3)))) (sRet (sDat (eC (.bl false)))) (sNx)
def L_law_2 : SM :=
  sSeq (sAsg 2 (callD m_x_law_cell_at [.dat (eVar 0), .dat (eVar 1)])) (
    sSeq (sAsg 3 (sDat (eBin opMod (eVar 2) (eC (.int 1000))))) (
    sSeq (sAsg 4 (callD m_x_law_word [.dat (eBin opFdiv (eVar 2) (eC (.int 7)))])) (
    sSeq (sAsg 5 (sDat (eLst (aCons (eXNew 10 ["row"] (aCons (eVar 3) (aNil))) (aCons (eXNew 11 ["row"] (aCons (eVar 3) (aNil))) (aCons (eXNew 13 ["row"] (aCons (eVar 3) (aNil))) (aNil))))))) (
    sSeq (sFor (iRange (aCons (eC (.int 3)) (aNil))) (gN 6) (L_law_1)) (
    sSeq (sAsg 7 (sDat (eXNew 12 ["row", "limb"] (aCons (eVar 3) (aCons (eVar 4) (aNil)))))) (
    sIf (bOr (bVal (eBin opNe (asD (callD m_x_law_kinds [.dat (eVar 7)])) (eLst (aCons (eC (.int 3)) (aNil))))) (bOr (bVal (eBin opNe (eUn (opXF [10, 11, 12, 13] "row") (eVar 7)) (eVar 3))) (bVal (eBin opNe (eUn (opXF [12] "limb") (eVar 7)) (eVar 4))))) (sRet (sDat (eC (.bl false)))) (sNx)))))))
def b_law : SM :=
  sSeq (sFor (iRange (aCons (eCallB opMax (aCons (eC (.int 1)) (aCons (eCallB opMin (aCons (eCallB opLen (aCons (eVar 0) (aNil))) (aCons (eC (.int 60)) (aNil)))) (aNil)))) (aNil))) (gN 1) (L_law_2)) (
  sRet (sDat (eC (.bl true))))
def m_law : List SV → RE SV := fnD [false] 8 b_law
end
end DL.Law

namespace DL.Law
open PySem L2 DL
def topS (i : Nat) : PySem.Stmt := PySem.Challenge.pw_camplay_k60_refusals_made_by_hand.main.body.getD i (.Pass ⟨0, 0, 0, 0⟩)
abbrev s_x_law_cell_at : PySem.Stmt := (topS 15)
abbrev s_x_law_word : PySem.Stmt := (topS 16)
abbrev s_NoBook_init : PySem.Stmt := (inClass (topS 2) 0)
abbrev s_Idle_init : PySem.Stmt := (inClass (topS 3) 0)
abbrev s_TooLong_init : PySem.Stmt := (inClass (topS 5) 0)
abbrev s_x_law_kinds : PySem.Stmt := (topS 17)
abbrev s_TwoHands_init : PySem.Stmt := (inClass (topS 4) 0)
abbrev s_law : PySem.Stmt := (topS 18)
structure Fs (K : PySem.W.Frag) (mg : Str → Option Value) where
  f_x_law_cell_at : Addr
  d_x_law_cell_at : FuncData
  f_x_law_word : Addr
  d_x_law_word : FuncData
  f_NoBook_init : Addr
  d_NoBook_init : FuncData
  f_Idle_init : Addr
  d_Idle_init : FuncData
  f_TooLong_init : Addr
  d_TooLong_init : FuncData
  f_x_law_kinds : Addr
  d_x_law_kinds : FuncData
  f_TwoHands_init : Addr
  d_TwoHands_init : FuncData
  f_law : Addr
  d_law : FuncData
  F_x_law_cell_at : FunD K "_law_cell_at" "_law_cell_at" (defArgs s_x_law_cell_at) (defBody s_x_law_cell_at) (defScope s_x_law_cell_at) [] [] f_x_law_cell_at d_x_law_cell_at
  b_x_law_cell_at : Binds K d_x_law_cell_at ["script", "k"] []
  m_x_law_cell_at : mg "_law_cell_at" = some (.ref f_x_law_cell_at)
  F_x_law_word : FunD K "_law_word" "_law_word" (defArgs s_x_law_word) (defBody s_x_law_word) (defScope s_x_law_word) [] [] f_x_law_word d_x_law_word
  b_x_law_word : Binds K d_x_law_word ["cell"] []
  m_x_law_word : mg "_law_word" = some (.ref f_x_law_word)
  F_NoBook_init : FunD K "__init__" "NoBook.__init__" (defArgs s_NoBook_init) (defBody s_NoBook_init) (defScope s_NoBook_init) [] [] f_NoBook_init d_NoBook_init
  b_NoBook_init : Binds K d_NoBook_init ["self", "row"] []
  F_Idle_init : FunD K "__init__" "Idle.__init__" (defArgs s_Idle_init) (defBody s_Idle_init) (defScope s_Idle_init) [] [] f_Idle_init d_Idle_init
  b_Idle_init : Binds K d_Idle_init ["self", "row"] []
  F_TooLong_init : FunD K "__init__" "TooLong.__init__" (defArgs s_TooLong_init) (defBody s_TooLong_init) (defScope s_TooLong_init) [] [] f_TooLong_init d_TooLong_init
  b_TooLong_init : Binds K d_TooLong_init ["self", "row"] []
  F_x_law_kinds : FunD K "_law_kinds" "_law_kinds" (defArgs s_x_law_kinds) (defBody s_x_law_kinds) (defScope s_x_law_kinds) [] [] f_x_law_kinds d_x_law_kinds
  b_x_law_kinds : Binds K d_x_law_kinds ["made"] []
  m_x_law_kinds : mg "_law_kinds" = some (.ref f_x_law_kinds)
  F_TwoHands_init : FunD K "__init__" "TwoHands.__init__" (defArgs s_TwoHands_init) (defBody s_TwoHands_init) (defScope s_TwoHands_init) [] [] f_TwoHands_init d_TwoHands_init
  b_TwoHands_init : Binds K d_TwoHands_init ["self", "row", "limb"] []
  F_law : FunD K "law" "law" (defArgs s_law) (defBody s_law) (defScope s_law) [] [] f_law d_law
  b_law : Binds K d_law ["script"] []
  m_law : mg "law" = some (.ref f_law)
  a_PlayError : Addr
  m_PlayError : mg "PlayError" = some (.ref a_PlayError)
  a_NoBook : Addr
  m_NoBook : mg "NoBook" = some (.ref a_NoBook)
  a_Idle : Addr
  m_Idle : mg "Idle" = some (.ref a_Idle)
  a_TwoHands : Addr
  m_TwoHands : mg "TwoHands" = some (.ref a_TwoHands)
  a_TooLong : Addr
  m_TooLong : mg "TooLong" = some (.ref a_TooLong)
  a_Long : Addr
  m_Long : mg "Long" = some (.ref a_Long)
  a_NoBeat : Addr
  m_NoBeat : mg "NoBeat" = some (.ref a_NoBeat)
  a_Done : Addr
  m_Done : mg "Done" = some (.ref a_Done)
  a_NoPins : Addr
  m_NoPins : mg "NoPins" = some (.ref a_NoPins)
  a_Broad : Addr
  m_Broad : mg "Broad" = some (.ref a_Broad)
  a_NoRow : Addr
  m_NoRow : mg "NoRow" = some (.ref a_NoRow)
  a_NoName : Addr
  m_NoName : mg "NoName" = some (.ref a_NoName)
  a_NoLimb : Addr
  m_NoLimb : mg "NoLimb" = some (.ref a_NoLimb)
  x_NoBook : OexC K a_NoBook
  xf_NoBook : XfC K a_NoBook
  xe_NoBook : ExcC K a_NoBook
  xi_NoBook : PySem.W.findIn K (.ref a_NoBook) "__init__" = some (some (.ref f_NoBook_init))
  xt_NoBook : PySem.W.typeIn K (.ref f_NoBook_init) = some (.type "function")
  nx_NoBook_row : PySem.W.findIn K (.ref a_NoBook) "row" = some none
  ki_NoBook_Broad : PySem.W.kitOne K (.ref a_NoBook) (.ref a_Broad) = some false
  ki_NoBook_Done : PySem.W.kitOne K (.ref a_NoBook) (.ref a_Done) = some false
  ki_NoBook_Idle : PySem.W.kitOne K (.ref a_NoBook) (.ref a_Idle) = some false
  ki_NoBook_Long : PySem.W.kitOne K (.ref a_NoBook) (.ref a_Long) = some false
  ki_NoBook_NoBeat : PySem.W.kitOne K (.ref a_NoBook) (.ref a_NoBeat) = some false
  ki_NoBook_NoBook : PySem.W.kitOne K (.ref a_NoBook) (.ref a_NoBook) = some true
  ki_NoBook_NoLimb : PySem.W.kitOne K (.ref a_NoBook) (.ref a_NoLimb) = some false
  ki_NoBook_NoName : PySem.W.kitOne K (.ref a_NoBook) (.ref a_NoName) = some false
  ki_NoBook_NoPins : PySem.W.kitOne K (.ref a_NoBook) (.ref a_NoPins) = some false
  ki_NoBook_NoRow : PySem.W.kitOne K (.ref a_NoBook) (.ref a_NoRow) = some false
  ki_NoBook_PlayError : PySem.W.kitOne K (.ref a_NoBook) (.ref a_PlayError) = some true
  ki_NoBook_TooLong : PySem.W.kitOne K (.ref a_NoBook) (.ref a_TooLong) = some false
  ki_NoBook_TwoHands : PySem.W.kitOne K (.ref a_NoBook) (.ref a_TwoHands) = some false
  ki_NoBook_ValueError : PySem.W.kitOne K (.ref a_NoBook) (.type "ValueError") = some true
  x_Idle : OexC K a_Idle
  xf_Idle : XfC K a_Idle
  xe_Idle : ExcC K a_Idle
  xi_Idle : PySem.W.findIn K (.ref a_Idle) "__init__" = some (some (.ref f_Idle_init))
  xt_Idle : PySem.W.typeIn K (.ref f_Idle_init) = some (.type "function")
  nx_Idle_row : PySem.W.findIn K (.ref a_Idle) "row" = some none
  ki_Idle_Broad : PySem.W.kitOne K (.ref a_Idle) (.ref a_Broad) = some false
  ki_Idle_Done : PySem.W.kitOne K (.ref a_Idle) (.ref a_Done) = some false
  ki_Idle_Idle : PySem.W.kitOne K (.ref a_Idle) (.ref a_Idle) = some true
  ki_Idle_Long : PySem.W.kitOne K (.ref a_Idle) (.ref a_Long) = some false
  ki_Idle_NoBeat : PySem.W.kitOne K (.ref a_Idle) (.ref a_NoBeat) = some false
  ki_Idle_NoBook : PySem.W.kitOne K (.ref a_Idle) (.ref a_NoBook) = some false
  ki_Idle_NoLimb : PySem.W.kitOne K (.ref a_Idle) (.ref a_NoLimb) = some false
  ki_Idle_NoName : PySem.W.kitOne K (.ref a_Idle) (.ref a_NoName) = some false
  ki_Idle_NoPins : PySem.W.kitOne K (.ref a_Idle) (.ref a_NoPins) = some false
  ki_Idle_NoRow : PySem.W.kitOne K (.ref a_Idle) (.ref a_NoRow) = some false
  ki_Idle_PlayError : PySem.W.kitOne K (.ref a_Idle) (.ref a_PlayError) = some true
  ki_Idle_TooLong : PySem.W.kitOne K (.ref a_Idle) (.ref a_TooLong) = some false
  ki_Idle_TwoHands : PySem.W.kitOne K (.ref a_Idle) (.ref a_TwoHands) = some false
  ki_Idle_ValueError : PySem.W.kitOne K (.ref a_Idle) (.type "ValueError") = some true
  x_TwoHands : OexC K a_TwoHands
  xf_TwoHands : XfC K a_TwoHands
  xe_TwoHands : ExcC K a_TwoHands
  xi_TwoHands : PySem.W.findIn K (.ref a_TwoHands) "__init__" = some (some (.ref f_TwoHands_init))
  xt_TwoHands : PySem.W.typeIn K (.ref f_TwoHands_init) = some (.type "function")
  nx_TwoHands_row : PySem.W.findIn K (.ref a_TwoHands) "row" = some none
  nx_TwoHands_limb : PySem.W.findIn K (.ref a_TwoHands) "limb" = some none
  ki_TwoHands_Broad : PySem.W.kitOne K (.ref a_TwoHands) (.ref a_Broad) = some false
  ki_TwoHands_Done : PySem.W.kitOne K (.ref a_TwoHands) (.ref a_Done) = some false
  ki_TwoHands_Idle : PySem.W.kitOne K (.ref a_TwoHands) (.ref a_Idle) = some false
  ki_TwoHands_Long : PySem.W.kitOne K (.ref a_TwoHands) (.ref a_Long) = some false
  ki_TwoHands_NoBeat : PySem.W.kitOne K (.ref a_TwoHands) (.ref a_NoBeat) = some false
  ki_TwoHands_NoBook : PySem.W.kitOne K (.ref a_TwoHands) (.ref a_NoBook) = some false
  ki_TwoHands_NoLimb : PySem.W.kitOne K (.ref a_TwoHands) (.ref a_NoLimb) = some false
  ki_TwoHands_NoName : PySem.W.kitOne K (.ref a_TwoHands) (.ref a_NoName) = some false
  ki_TwoHands_NoPins : PySem.W.kitOne K (.ref a_TwoHands) (.ref a_NoPins) = some false
  ki_TwoHands_NoRow : PySem.W.kitOne K (.ref a_TwoHands) (.ref a_NoRow) = some false
  ki_TwoHands_PlayError : PySem.W.kitOne K (.ref a_TwoHands) (.ref a_PlayError) = some true
  ki_TwoHands_TooLong : PySem.W.kitOne K (.ref a_TwoHands) (.ref a_TooLong) = some false
  ki_TwoHands_TwoHands : PySem.W.kitOne K (.ref a_TwoHands) (.ref a_TwoHands) = some true
  ki_TwoHands_ValueError : PySem.W.kitOne K (.ref a_TwoHands) (.type "ValueError") = some true
  x_TooLong : OexC K a_TooLong
  xf_TooLong : XfC K a_TooLong
  xe_TooLong : ExcC K a_TooLong
  xi_TooLong : PySem.W.findIn K (.ref a_TooLong) "__init__" = some (some (.ref f_TooLong_init))
  xt_TooLong : PySem.W.typeIn K (.ref f_TooLong_init) = some (.type "function")
  nx_TooLong_row : PySem.W.findIn K (.ref a_TooLong) "row" = some none
  ki_TooLong_Broad : PySem.W.kitOne K (.ref a_TooLong) (.ref a_Broad) = some false
  ki_TooLong_Done : PySem.W.kitOne K (.ref a_TooLong) (.ref a_Done) = some false
  ki_TooLong_Idle : PySem.W.kitOne K (.ref a_TooLong) (.ref a_Idle) = some false
  ki_TooLong_Long : PySem.W.kitOne K (.ref a_TooLong) (.ref a_Long) = some false
  ki_TooLong_NoBeat : PySem.W.kitOne K (.ref a_TooLong) (.ref a_NoBeat) = some false
  ki_TooLong_NoBook : PySem.W.kitOne K (.ref a_TooLong) (.ref a_NoBook) = some false
  ki_TooLong_NoLimb : PySem.W.kitOne K (.ref a_TooLong) (.ref a_NoLimb) = some false
  ki_TooLong_NoName : PySem.W.kitOne K (.ref a_TooLong) (.ref a_NoName) = some false
  ki_TooLong_NoPins : PySem.W.kitOne K (.ref a_TooLong) (.ref a_NoPins) = some false
  ki_TooLong_NoRow : PySem.W.kitOne K (.ref a_TooLong) (.ref a_NoRow) = some false
  ki_TooLong_PlayError : PySem.W.kitOne K (.ref a_TooLong) (.ref a_PlayError) = some true
  ki_TooLong_TooLong : PySem.W.kitOne K (.ref a_TooLong) (.ref a_TooLong) = some true
  ki_TooLong_TwoHands : PySem.W.kitOne K (.ref a_TooLong) (.ref a_TwoHands) = some false
  ki_TooLong_ValueError : PySem.W.kitOne K (.ref a_TooLong) (.type "ValueError") = some true
  g_ValueError : mg "ValueError" = none
  g_isinstance : mg "isinstance" = none
  g_len : mg "len" = none
  g_max : mg "max" = none
  g_min : mg "min" = none
  g_range : mg "range" = none
def Fs.kap {K : PySem.W.Frag} {mg : Str → Option Value} (T : Fs K mg) : Nat → Addr
  | 9 => T.a_PlayError
  | 10 => T.a_NoBook
  | 11 => T.a_Idle
  | 12 => T.a_TwoHands
  | 13 => T.a_TooLong
  | 14 => T.a_Long
  | 15 => T.a_NoBeat
  | 16 => T.a_Done
  | 17 => T.a_NoPins
  | 18 => T.a_Broad
  | 19 => T.a_NoRow
  | 20 => T.a_NoName
  | 21 => T.a_NoLimb
  | _ => 0
theorem xf_limb {K : PySem.W.Frag} {mg : Str → Option Value} (T : Fs K mg) : ∀ c ∈ ([12] : List Nat), XfC K (T.kap c) ∧ PySem.W.findIn K (.ref (T.kap c)) "limb" = some none := by
  intro c hc
  simp only [List.mem_cons, List.not_mem_nil, or_false] at hc
  rcases hc with rfl
  · exact ⟨T.xf_TwoHands, T.nx_TwoHands_limb⟩
theorem xf_row {K : PySem.W.Frag} {mg : Str → Option Value} (T : Fs K mg) : ∀ c ∈ ([10, 11, 12, 13] : List Nat), XfC K (T.kap c) ∧ PySem.W.findIn K (.ref (T.kap c)) "row" = some none := by
  intro c hc
  simp only [List.mem_cons, List.not_mem_nil, or_false] at hc
  rcases hc with rfl | rfl | rfl | rfl
  · exact ⟨T.xf_NoBook, T.nx_NoBook_row⟩
  · exact ⟨T.xf_Idle, T.nx_Idle_row⟩
  · exact ⟨T.xf_TwoHands, T.nx_TwoHands_row⟩
  · exact ⟨T.xf_TooLong, T.nx_TooLong_row⟩
theorem is_Broad {K : PySem.W.Frag} {mg : Str → Option Value} (T : Fs K mg) : ∀ c ∈ ([10, 11, 12, 13] : List Nat), ExcC K (T.kap c) ∧ PySem.W.kitOne K (.ref (T.kap c)) (.ref T.a_Broad) = some (decide (c ∈ ([] : List Nat))) := by
  intro c hc
  simp only [List.mem_cons, List.not_mem_nil, or_false] at hc
  rcases hc with rfl | rfl | rfl | rfl
  · exact ⟨T.xe_NoBook, T.ki_NoBook_Broad⟩
  · exact ⟨T.xe_Idle, T.ki_Idle_Broad⟩
  · exact ⟨T.xe_TwoHands, T.ki_TwoHands_Broad⟩
  · exact ⟨T.xe_TooLong, T.ki_TooLong_Broad⟩
theorem is_Done {K : PySem.W.Frag} {mg : Str → Option Value} (T : Fs K mg) : ∀ c ∈ ([10, 11, 12, 13] : List Nat), ExcC K (T.kap c) ∧ PySem.W.kitOne K (.ref (T.kap c)) (.ref T.a_Done) = some (decide (c ∈ ([] : List Nat))) := by
  intro c hc
  simp only [List.mem_cons, List.not_mem_nil, or_false] at hc
  rcases hc with rfl | rfl | rfl | rfl
  · exact ⟨T.xe_NoBook, T.ki_NoBook_Done⟩
  · exact ⟨T.xe_Idle, T.ki_Idle_Done⟩
  · exact ⟨T.xe_TwoHands, T.ki_TwoHands_Done⟩
  · exact ⟨T.xe_TooLong, T.ki_TooLong_Done⟩
theorem is_Idle {K : PySem.W.Frag} {mg : Str → Option Value} (T : Fs K mg) : ∀ c ∈ ([10, 11, 12, 13] : List Nat), ExcC K (T.kap c) ∧ PySem.W.kitOne K (.ref (T.kap c)) (.ref T.a_Idle) = some (decide (c ∈ ([11] : List Nat))) := by
  intro c hc
  simp only [List.mem_cons, List.not_mem_nil, or_false] at hc
  rcases hc with rfl | rfl | rfl | rfl
  · exact ⟨T.xe_NoBook, T.ki_NoBook_Idle⟩
  · exact ⟨T.xe_Idle, T.ki_Idle_Idle⟩
  · exact ⟨T.xe_TwoHands, T.ki_TwoHands_Idle⟩
  · exact ⟨T.xe_TooLong, T.ki_TooLong_Idle⟩
theorem is_Long {K : PySem.W.Frag} {mg : Str → Option Value} (T : Fs K mg) : ∀ c ∈ ([10, 11, 12, 13] : List Nat), ExcC K (T.kap c) ∧ PySem.W.kitOne K (.ref (T.kap c)) (.ref T.a_Long) = some (decide (c ∈ ([] : List Nat))) := by
  intro c hc
  simp only [List.mem_cons, List.not_mem_nil, or_false] at hc
  rcases hc with rfl | rfl | rfl | rfl
  · exact ⟨T.xe_NoBook, T.ki_NoBook_Long⟩
  · exact ⟨T.xe_Idle, T.ki_Idle_Long⟩
  · exact ⟨T.xe_TwoHands, T.ki_TwoHands_Long⟩
  · exact ⟨T.xe_TooLong, T.ki_TooLong_Long⟩
theorem is_NoBeat {K : PySem.W.Frag} {mg : Str → Option Value} (T : Fs K mg) : ∀ c ∈ ([10, 11, 12, 13] : List Nat), ExcC K (T.kap c) ∧ PySem.W.kitOne K (.ref (T.kap c)) (.ref T.a_NoBeat) = some (decide (c ∈ ([] : List Nat))) := by
  intro c hc
  simp only [List.mem_cons, List.not_mem_nil, or_false] at hc
  rcases hc with rfl | rfl | rfl | rfl
  · exact ⟨T.xe_NoBook, T.ki_NoBook_NoBeat⟩
  · exact ⟨T.xe_Idle, T.ki_Idle_NoBeat⟩
  · exact ⟨T.xe_TwoHands, T.ki_TwoHands_NoBeat⟩
  · exact ⟨T.xe_TooLong, T.ki_TooLong_NoBeat⟩
theorem is_NoBook {K : PySem.W.Frag} {mg : Str → Option Value} (T : Fs K mg) : ∀ c ∈ ([10, 11, 12, 13] : List Nat), ExcC K (T.kap c) ∧ PySem.W.kitOne K (.ref (T.kap c)) (.ref T.a_NoBook) = some (decide (c ∈ ([10] : List Nat))) := by
  intro c hc
  simp only [List.mem_cons, List.not_mem_nil, or_false] at hc
  rcases hc with rfl | rfl | rfl | rfl
  · exact ⟨T.xe_NoBook, T.ki_NoBook_NoBook⟩
  · exact ⟨T.xe_Idle, T.ki_Idle_NoBook⟩
  · exact ⟨T.xe_TwoHands, T.ki_TwoHands_NoBook⟩
  · exact ⟨T.xe_TooLong, T.ki_TooLong_NoBook⟩
theorem is_NoLimb {K : PySem.W.Frag} {mg : Str → Option Value} (T : Fs K mg) : ∀ c ∈ ([10, 11, 12, 13] : List Nat), ExcC K (T.kap c) ∧ PySem.W.kitOne K (.ref (T.kap c)) (.ref T.a_NoLimb) = some (decide (c ∈ ([] : List Nat))) := by
  intro c hc
  simp only [List.mem_cons, List.not_mem_nil, or_false] at hc
  rcases hc with rfl | rfl | rfl | rfl
  · exact ⟨T.xe_NoBook, T.ki_NoBook_NoLimb⟩
  · exact ⟨T.xe_Idle, T.ki_Idle_NoLimb⟩
  · exact ⟨T.xe_TwoHands, T.ki_TwoHands_NoLimb⟩
  · exact ⟨T.xe_TooLong, T.ki_TooLong_NoLimb⟩
theorem is_NoName {K : PySem.W.Frag} {mg : Str → Option Value} (T : Fs K mg) : ∀ c ∈ ([10, 11, 12, 13] : List Nat), ExcC K (T.kap c) ∧ PySem.W.kitOne K (.ref (T.kap c)) (.ref T.a_NoName) = some (decide (c ∈ ([] : List Nat))) := by
  intro c hc
  simp only [List.mem_cons, List.not_mem_nil, or_false] at hc
  rcases hc with rfl | rfl | rfl | rfl
  · exact ⟨T.xe_NoBook, T.ki_NoBook_NoName⟩
  · exact ⟨T.xe_Idle, T.ki_Idle_NoName⟩
  · exact ⟨T.xe_TwoHands, T.ki_TwoHands_NoName⟩
  · exact ⟨T.xe_TooLong, T.ki_TooLong_NoName⟩
theorem is_NoPins {K : PySem.W.Frag} {mg : Str → Option Value} (T : Fs K mg) : ∀ c ∈ ([10, 11, 12, 13] : List Nat), ExcC K (T.kap c) ∧ PySem.W.kitOne K (.ref (T.kap c)) (.ref T.a_NoPins) = some (decide (c ∈ ([] : List Nat))) := by
  intro c hc
  simp only [List.mem_cons, List.not_mem_nil, or_false] at hc
  rcases hc with rfl | rfl | rfl | rfl
  · exact ⟨T.xe_NoBook, T.ki_NoBook_NoPins⟩
  · exact ⟨T.xe_Idle, T.ki_Idle_NoPins⟩
  · exact ⟨T.xe_TwoHands, T.ki_TwoHands_NoPins⟩
  · exact ⟨T.xe_TooLong, T.ki_TooLong_NoPins⟩
theorem is_NoRow {K : PySem.W.Frag} {mg : Str → Option Value} (T : Fs K mg) : ∀ c ∈ ([10, 11, 12, 13] : List Nat), ExcC K (T.kap c) ∧ PySem.W.kitOne K (.ref (T.kap c)) (.ref T.a_NoRow) = some (decide (c ∈ ([] : List Nat))) := by
  intro c hc
  simp only [List.mem_cons, List.not_mem_nil, or_false] at hc
  rcases hc with rfl | rfl | rfl | rfl
  · exact ⟨T.xe_NoBook, T.ki_NoBook_NoRow⟩
  · exact ⟨T.xe_Idle, T.ki_Idle_NoRow⟩
  · exact ⟨T.xe_TwoHands, T.ki_TwoHands_NoRow⟩
  · exact ⟨T.xe_TooLong, T.ki_TooLong_NoRow⟩
theorem is_PlayError {K : PySem.W.Frag} {mg : Str → Option Value} (T : Fs K mg) : ∀ c ∈ ([10, 11, 12, 13] : List Nat), ExcC K (T.kap c) ∧ PySem.W.kitOne K (.ref (T.kap c)) (.ref T.a_PlayError) = some (decide (c ∈ ([10, 11, 12, 13] : List Nat))) := by
  intro c hc
  simp only [List.mem_cons, List.not_mem_nil, or_false] at hc
  rcases hc with rfl | rfl | rfl | rfl
  · exact ⟨T.xe_NoBook, T.ki_NoBook_PlayError⟩
  · exact ⟨T.xe_Idle, T.ki_Idle_PlayError⟩
  · exact ⟨T.xe_TwoHands, T.ki_TwoHands_PlayError⟩
  · exact ⟨T.xe_TooLong, T.ki_TooLong_PlayError⟩
theorem is_TooLong {K : PySem.W.Frag} {mg : Str → Option Value} (T : Fs K mg) : ∀ c ∈ ([10, 11, 12, 13] : List Nat), ExcC K (T.kap c) ∧ PySem.W.kitOne K (.ref (T.kap c)) (.ref T.a_TooLong) = some (decide (c ∈ ([13] : List Nat))) := by
  intro c hc
  simp only [List.mem_cons, List.not_mem_nil, or_false] at hc
  rcases hc with rfl | rfl | rfl | rfl
  · exact ⟨T.xe_NoBook, T.ki_NoBook_TooLong⟩
  · exact ⟨T.xe_Idle, T.ki_Idle_TooLong⟩
  · exact ⟨T.xe_TwoHands, T.ki_TwoHands_TooLong⟩
  · exact ⟨T.xe_TooLong, T.ki_TooLong_TooLong⟩
theorem is_TwoHands {K : PySem.W.Frag} {mg : Str → Option Value} (T : Fs K mg) : ∀ c ∈ ([10, 11, 12, 13] : List Nat), ExcC K (T.kap c) ∧ PySem.W.kitOne K (.ref (T.kap c)) (.ref T.a_TwoHands) = some (decide (c ∈ ([12] : List Nat))) := by
  intro c hc
  simp only [List.mem_cons, List.not_mem_nil, or_false] at hc
  rcases hc with rfl | rfl | rfl | rfl
  · exact ⟨T.xe_NoBook, T.ki_NoBook_TwoHands⟩
  · exact ⟨T.xe_Idle, T.ki_Idle_TwoHands⟩
  · exact ⟨T.xe_TwoHands, T.ki_TwoHands_TwoHands⟩
  · exact ⟨T.xe_TooLong, T.ki_TooLong_TwoHands⟩
theorem is_ValueError {K : PySem.W.Frag} {mg : Str → Option Value} (T : Fs K mg) : ∀ c ∈ ([10, 11, 12, 13] : List Nat), ExcC K (T.kap c) ∧ PySem.W.kitOne K (.ref (T.kap c)) (.type "ValueError") = some (decide (c ∈ ([10, 11, 12, 13] : List Nat))) := by
  intro c hc
  simp only [List.mem_cons, List.not_mem_nil, or_false] at hc
  rcases hc with rfl | rfl | rfl | rfl
  · exact ⟨T.xe_NoBook, T.ki_NoBook_ValueError⟩
  · exact ⟨T.xe_Idle, T.ki_Idle_ValueError⟩
  · exact ⟨T.xe_TwoHands, T.ki_TwoHands_ValueError⟩
  · exact ⟨T.xe_TooLong, T.ki_TooLong_ValueError⟩
section
variable {P : Program} {w : World} {K : PySem.W.Frag} {mg : Str → Option Value} {base : Heap}
theorem sc_x_law_cell_at : FnScope ["script", "k"] ["script", "k"] (defScope s_x_law_cell_at) := ⟨rfl, rfl, rfl, by decide +kernel, rfl, by decide +kernel, by decide +kernel⟩
theorem ok_x_law_cell_at (T : Fs K mg) : FnOk P w K mg base (L2.CX P w) 1 T.f_x_law_cell_at T.d_x_law_cell_at ["script", "k"] (spD K T.kap m_x_law_cell_at) := by
  refine fn_okD (N := ["script", "k"]) (modes := [false, false]) (body := b_x_law_cell_at) [] T.F_x_law_cell_at sc_x_law_cell_at rfl (by decide) (pins_ok (by decide)) fun cdv A outer s H E hr tk hp => ?_
  have hN := sc_x_law_cell_at.nd
  unfold b_x_law_cell_at
  exact (dss_cons (d_if (dt_cmp od_lt de_var (de_callB cd_len T.g_len rfl (da_cons de_var da_nil))) (dss_one (d_ret (ds_dat (de_bin od_mod (de_ix de_var de_var) (de_bin od_pow de_int de_int))))) dss_nil) 
  (dss_one (d_ret (ds_dat de_int))))
theorem sc_x_law_word : FnScope ["cell", "letters", "k"] ["cell"] (defScope s_x_law_word) := ⟨rfl, rfl, rfl, by decide +kernel, rfl, by decide +kernel, by decide +kernel⟩
theorem ok_x_law_word (T : Fs K mg) : FnOk P w K mg base (L2.CX P w) 1 T.f_x_law_word T.d_x_law_word ["cell"] (spD K T.kap m_x_law_word) := by
  refine fn_okD (N := ["cell", "letters", "k"]) (modes := [false]) (body := b_x_law_word) [] T.F_x_law_word sc_x_law_word rfl (by decide) (pins_ok (by decide)) fun cdv A outer s H E hr tk hp => ?_
  have hN := sc_x_law_word.nd
  unfold b_x_law_word C_x_law_word_1
  exact (dss_cons (d_asg hN (ds_dat de_str)) 
  (dss_one (d_ret (ds_dat (de_join (de_lcF (de_lcL (own := [("k", 2)]) rfl hN (di_range1 T.g_range (da_cons (de_bin od_add de_int (de_bin od_mod de_var de_int)) da_nil)) (blkOk_by rfl) own_name tgk_name (fun _ _ _ _ _ => (dg_name (κ := T.kap) (P := []) hN).pg) (fun _ _ _ _ _ => dts_nil) (fun _ _ _ _ _ => (de_ix de_var (de_bin od_mod (de_bin od_add (de_bin od_add (de_bin od_fdiv de_var de_int) (de_bin od_mul de_var de_var)) (de_bin od_mul de_int de_var)) de_int))))))))))
theorem sc_NoBook_init : FnScope ["self", "row"] ["self", "row"] (defScope s_NoBook_init) := ⟨rfl, rfl, rfl, by decide +kernel, rfl, by decide +kernel, by decide +kernel⟩
theorem ok_NoBook_init (T : Fs K mg) : FnOk P w K mg base (L2.CX P w) 1 T.f_NoBook_init T.d_NoBook_init ["self", "row"] (spI1 T.a_NoBook "row") := fn_init1 T.F_NoBook_init sc_NoBook_init rfl rfl rfl (by decide) (by decide) T.x_NoBook T.nx_NoBook_row
theorem sc_Idle_init : FnScope ["self", "row"] ["self", "row"] (defScope s_Idle_init) := ⟨rfl, rfl, rfl, by decide +kernel, rfl, by decide +kernel, by decide +kernel⟩
theorem ok_Idle_init (T : Fs K mg) : FnOk P w K mg base (L2.CX P w) 1 T.f_Idle_init T.d_Idle_init ["self", "row"] (spI1 T.a_Idle "row") := fn_init1 T.F_Idle_init sc_Idle_init rfl rfl rfl (by decide) (by decide) T.x_Idle T.nx_Idle_row
theorem sc_TooLong_init : FnScope ["self", "row"] ["self", "row"] (defScope s_TooLong_init) := ⟨rfl, rfl, rfl, by decide +kernel, rfl, by decide +kernel, by decide +kernel⟩
theorem ok_TooLong_init (T : Fs K mg) : FnOk P w K mg base (L2.CX P w) 1 T.f_TooLong_init T.d_TooLong_init ["self", "row"] (spI1 T.a_TooLong "row") := fn_init1 T.F_TooLong_init sc_TooLong_init rfl rfl rfl (by decide) (by decide) T.x_TooLong T.nx_TooLong_row
theorem sc_x_law_kinds : FnScope ["made", "some", "k"] ["made"] (defScope s_x_law_kinds) := ⟨rfl, rfl, rfl, by decide +kernel, rfl, by decide +kernel, by decide +kernel⟩
theorem ok_x_law_kinds (T : Fs K mg) : FnOk P w K mg base (L2.CX P w) 1 T.f_x_law_kinds T.d_x_law_kinds ["made"] (spD K T.kap m_x_law_kinds) := by
  refine fn_okD (N := ["made", "some", "k"]) (modes := [false]) (body := b_x_law_kinds) [] T.F_x_law_kinds sc_x_law_kinds rfl (by decide) (pins_ok (by decide)) fun cdv A outer s H E hr tk hp => ?_
  have hN := sc_x_law_kinds.nd
  unfold b_x_law_kinds Q_x_law_kinds_2 C_x_law_kinds_1
  exact (dss_cons (d_asg hN (ds_lst (da_cons (de_isX T.g_isinstance (pe_glob (v := .ref T.a_NoBook) rfl T.m_NoBook rfl) (.own _) (is_NoBook T) de_var) (da_cons (de_isX T.g_isinstance (pe_glob (v := .ref T.a_Idle) rfl T.m_Idle rfl) (.own _) (is_Idle T) de_var) (da_cons (de_isX T.g_isinstance (pe_glob (v := .ref T.a_TooLong) rfl T.m_TooLong rfl) (.own _) (is_TooLong T) de_var) (da_cons (de_isX T.g_isinstance (pe_glob (v := .ref T.a_TwoHands) rfl T.m_TwoHands rfl) (.own _) (is_TwoHands T) de_var) da_nil)))))) 
  (dss_cons (d_asg hN (ds_cat de_var (de_lst (da_cons (de_isX T.g_isinstance (pe_glob (v := .ref T.a_Broad) rfl T.m_Broad rfl) (.own _) (is_Broad T) de_var) (da_cons (de_isX T.g_isinstance (pe_glob (v := .ref T.a_Done) rfl T.m_Done rfl) (.own _) (is_Done T) de_var) (da_cons (de_isX T.g_isinstance (pe_glob (v := .ref T.a_Long) rfl T.m_Long rfl) (.own _) (is_Long T) de_var) (da_cons (de_isX T.g_isinstance (pe_glob (v := .ref T.a_NoBeat) rfl T.m_NoBeat rfl) (.own _) (is_NoBeat T) de_var) da_nil))))))) 
  (dss_cons (d_asg hN (ds_cat de_var (de_lst (da_cons (de_isX T.g_isinstance (pe_glob (v := .ref T.a_NoLimb) rfl T.m_NoLimb rfl) (.own _) (is_NoLimb T) de_var) (da_cons (de_isX T.g_isinstance (pe_glob (v := .ref T.a_NoName) rfl T.m_NoName rfl) (.own _) (is_NoName T) de_var) (da_cons (de_isX T.g_isinstance (pe_glob (v := .ref T.a_NoPins) rfl T.m_NoPins rfl) (.own _) (is_NoPins T) de_var) da_nil)))))) 
  (dss_cons (d_app (de_isX T.g_isinstance (pe_glob (v := .ref T.a_NoRow) rfl T.m_NoRow rfl) (.own _) (is_NoRow T) de_var)) 
  (dss_cons (d_if (dt_w (dw_or (dt_not (dt_val (de_isX T.g_isinstance (pe_glob (v := .ref T.a_PlayError) rfl T.m_PlayError rfl) (.own _) (is_PlayError T) de_var))) (dw_or1 (dt_not (dt_val (de_isX T.g_isinstance (pe_bltn (v := .ty "ValueError") rfl T.g_ValueError rfl rfl (by decide) (by decide)) (.ty _) (is_ValueError T) de_var)))))) (dss_one (d_ret (ds_dat (de_lst da_nil)))) dss_nil) 
  (dss_one (d_ret (ds_dat (de_lcF (de_lcL (own := [("k", 2)]) rfl hN (di_range1 T.g_range (da_cons de_int da_nil)) (blkOk_by rfl) own_name tgk_name (fun _ _ _ _ _ => (dg_name (κ := T.kap) (P := []) hN).pg) (fun _ _ _ _ _ => (dts_one (dt_val (de_ownIx de_var)))) (fun _ _ _ _ _ => de_var)))))))))))
theorem sc_TwoHands_init : FnScope ["self", "row", "limb"] ["self", "row", "limb"] (defScope s_TwoHands_init) := ⟨rfl, rfl, rfl, by decide +kernel, rfl, by decide +kernel, by decide +kernel⟩
theorem ok_TwoHands_init (T : Fs K mg) : FnOk P w K mg base (L2.CX P w) 1 T.f_TwoHands_init T.d_TwoHands_init ["self", "row", "limb"] (spI2 T.a_TwoHands "row" "limb") := fn_init2 T.F_TwoHands_init sc_TwoHands_init rfl rfl rfl rfl (by decide) (by decide) (by decide) (by decide) T.x_TwoHands T.nx_TwoHands_row T.nx_TwoHands_limb
theorem sc_law : FnScope ["script", "k", "cell", "row", "word", "some", "j", "made"] ["script"] (defScope s_law) := ⟨rfl, rfl, rfl, by decide +kernel, rfl, by decide +kernel, by decide +kernel⟩
theorem ok_law (T : Fs K mg) : FnOk P w K mg base (L2.CX P w) 3 T.f_law T.d_law ["script"] (spD K T.kap m_law) := by
  refine fn_okD (N := ["script", "k", "cell", "row", "word", "some", "j", "made"]) (modes := [false]) (body := b_law) [] T.F_law sc_law rfl (by decide) (pins_ok (by decide)) fun cdv A outer s H E hr tk hp => ?_
  have hN := sc_law.nd
  unfold b_law L_law_2 L_law_1
  exact (dss_cons (d_for hp rfl (di_range1 T.g_range (da_cons (de_callB (cd_max rfl) T.g_max rfl (da_cons de_int (da_cons (de_callB (cd_min rfl) T.g_min rfl (da_cons (de_callB cd_len T.g_len rfl (da_cons de_var da_nil)) (da_cons de_int da_nil))) da_nil))) da_nil)) (dg_name hN) (dss_cons (d_asg hN (de_call (ok_x_law_cell_at T) (hr.mono (by decide)) T.m_x_law_cell_at T.F_x_law_cell_at.kp T.b_x_law_cell_at tk (dv_dat de_var (dv_dat de_var dv_nil)))) 
    (dss_cons (d_asg hN (ds_dat (de_bin od_mod de_var de_int))) 
    (dss_cons (d_asg hN (de_call (ok_x_law_word T) (hr.mono (by decide)) T.m_x_law_word T.F_x_law_word.kp T.b_x_law_word tk (dv_dat (de_bin od_fdiv de_var de_int) dv_nil))) 
    (dss_cons (d_asg hN (ds_dat (de_lst (da_cons (de_xnew1 T.x_NoBook T.xi_NoBook T.xt_NoBook (ok_NoBook_init T) (hr.mono (by decide)) T.b_NoBook_init (passes_call tk (fun _ _ _ _ h => h.elim)) T.m_NoBook (da_cons de_var da_nil)) (da_cons (de_xnew1 T.x_Idle T.xi_Idle T.xt_Idle (ok_Idle_init T) (hr.mono (by decide)) T.b_Idle_init (passes_call tk (fun _ _ _ _ h => h.elim)) T.m_Idle (da_cons de_var da_nil)) (da_cons (de_xnew1 T.x_TooLong T.xi_TooLong T.xt_TooLong (ok_TooLong_init T) (hr.mono (by decide)) T.b_TooLong_init (passes_call tk (fun _ _ _ _ h => h.elim)) T.m_TooLong (da_cons de_var da_nil)) da_nil)))))) 
    (dss_cons (d_for hp rfl (di_range1 T.g_range (da_cons de_int da_nil)) (dg_name hN) (dss_one (d_if (dt_w (dw_or (dt_cmp (od_ne hr.units) (de_asD (de_call (ok_x_law_kinds T) (hr.mono (by decide)) T.m_x_law_kinds T.F_x_law_kinds.kp T.b_x_law_kinds tk (dv_dat (de_ix de_var de_var) dv_nil))) (de_lst (da_cons de_var da_nil))) (dw_or1 (dt_cmp (od_ne hr.units) (de_xfld (de_ix de_var de_var) (xf_row T)) de_var)))) (dss_one (d_ret (ds_dat de_bl))) dss_nil))) 
    (dss_cons (d_asg hN (ds_dat (de_xnew2 T.x_TwoHands T.xi_TwoHands T.xt_TwoHands (ok_TwoHands_init T) (hr.mono (by decide)) T.b_TwoHands_init (passes_call tk (fun _ _ _ _ h => h.elim)) T.m_TwoHands (da_cons de_var (da_cons de_var da_nil))))) 
    (dss_one (d_if (dt_w (dw_or (dt_cmp (od_ne hr.units) (de_asD (de_call (ok_x_law_kinds T) (hr.mono (by decide)) T.m_x_law_kinds T.F_x_law_kinds.kp T.b_x_law_kinds tk (dv_dat de_var dv_nil))) (de_lst (da_cons de_int da_nil))) (dw_or (dt_cmp (od_ne hr.units) (de_xfld de_var (xf_row T)) de_var) (dw_or1 (dt_cmp (od_ne hr.units) (de_xfld de_var (xf_limb T)) de_var))))) (dss_one (d_ret (ds_dat de_bl))) dss_nil))))))))) 
  (dss_one (d_ret (ds_dat de_bl))))
end
end DL.Law

/-! T0: runs of mirrors over lists -/
namespace DL
open PySem L2
theorem lcLoop_filter {α : Type} {vs : List Nat} {g : TM} {t : EM Bool} {f : EM D} (enc : α → D) (p : α → Bool) (F : α → D) {e0 : Slots} : ∀ (xs : List α) (acc : List D) (e : Slots), wipeE e vs = e0 →
    (∀ a ∈ xs, ∃ E, g (enc a) e0 = some E ∧ t E = .ok (p a) E ∧ wipeE E vs = e0 ∧ (p a = true → ∃ E', f E = .ok (F a) E' ∧ wipeE E' vs = e0)) → acc.length + xs.length ≤ 1000000 →
    ∃ e', wipeE e' vs = e0 ∧ lcLoop vs g t f (xs.map enc) acc e = .ok (acc ++ (xs.filter p).map F) e'
  | [], acc, e, hw, _, _ => ⟨e, hw, by simp⟩
  | x :: xs, acc, e, hw, h, hl => by
    obtain ⟨E, h1, h2, h3, h4⟩ := h x (by simp)
    simp only [List.length_cons] at hl
    cases hp : p x with
    | false =>
      obtain ⟨e', w', r⟩ := lcLoop_filter enc p F xs acc E h3 (fun a m => h a (List.mem_cons_of_mem _ m)) (by omega)
      refine ⟨e', w', ?_⟩
      rw [List.map_cons, lcLoop_cons', hw, h1, rLc_some, h2, hp, rTst_f, r]
      simp [hp]
    | true =>
      obtain ⟨E', h5, h6⟩ := h4 hp
      obtain ⟨e', w', r⟩ := lcLoop_filter enc p F xs (acc ++ [F x]) E' h6 (fun a m => h a (List.mem_cons_of_mem _ m)) (by simp; omega)
      refine ⟨e', w', ?_⟩
      have hz : acc.length < sizeLine := by have := sizeLine_eq; omega
      rw [List.map_cons, lcLoop_cons', hw, h1, rLc_some, h2, hp, rTst_t, h5, rAcc_ok, if_pos hz, r]
      simp [hp]
/-- [f for g in it if t], all data -/
theorem eLc_filter {α : Type} {vs : List Nat} {it : EM (List D)} {g : TM} {t : EM Bool} {f : EM D} {e : Slots} (xs : List α) (enc : α → D) (p : α → Bool) (F : α → D) (hit : it e = .ok (xs.map enc) e)
    (h : ∀ a ∈ xs, ∃ E, g (enc a) (wipeE e vs) = some E ∧ t E = .ok (p a) E ∧ wipeE E vs = wipeE e vs ∧ (p a = true → ∃ E', f E = .ok (F a) E' ∧ wipeE E' vs = wipeE e vs)) (hl : xs.length ≤ 1000000) (hno : noOwn e vs = true) (hb : backE e (wipeE e vs) vs = e) :
    eLc vs it g t f e = .ok ((xs.filter p).map F) e := by
  obtain ⟨e', w', r⟩ := lcLoop_filter (vs := vs) (g := g) (t := t) (f := f) enc p F xs [] e rfl h (by simpa using hl)
  rw [eLc_ap, hit, bind_ok, r, rFin_ok, if_pos hno, w', hb, List.nil_append]
/-- [f for g in it], all data -/
theorem eLc_map {α : Type} {vs : List Nat} {it : EM (List D)} {g : TM} {f : EM D} {e : Slots} (xs : List α) (enc : α → D) (F : α → D) (hit : it e = .ok (xs.map enc) e)
    (h : ∀ a ∈ xs, ∃ E E', g (enc a) (wipeE e vs) = some E ∧ f E = .ok (F a) E' ∧ wipeE E vs = wipeE e vs ∧ wipeE E' vs = wipeE e vs) (hl : xs.length ≤ 1000000) (hno : noOwn e vs = true := by rfl) (hb : backE e (wipeE e vs) vs = e := by rfl) :
    eLc vs it g bYes f e = .ok (xs.map F) e := by
  have := eLc_filter (t := bYes) (vs := vs) (g := g) (f := f) xs enc (fun _ => true) F hit (fun a m => by
    obtain ⟨E, E', h1, h2, h3, h4⟩ := h a m
    exact ⟨E, h1, rfl, h3, fun _ => ⟨E', h2, h4⟩⟩) hl hno hb
  rwa [List.filter_eq_self.mpr (fun _ _ => rfl)] at this
theorem set_none_self (e : Slots) (i : Nat) (h : e[i]? = some none) : e.set i none = e := by
  apply List.ext_getElem?
  intro j
  by_cases hj : i = j
  · subst hj
    rw [h, List.getElem?_set_self (List.getElem?_eq_some_iff.mp h).1]
  · rw [List.getElem?_set_ne hj]
/-- [f for i in it if t], all data, i a plain new name -/
theorem eLc_nf {α : Type} {i : Nat} {it : EM (List D)} {t : EM Bool} {f : EM D} {e : Slots} (xs : List α) (enc : α → D) (p : α → Bool) (F : α → D) (hit : it e = .ok (xs.map enc) e) (hi : e[i]? = some none)
    (ht : ∀ a ∈ xs, t (e.set i (some (.dat (enc a)))) = .ok (p a) (e.set i (some (.dat (enc a)))))
    (h : ∀ a ∈ xs, p a = true → f (e.set i (some (.dat (enc a)))) = .ok (F a) (e.set i (some (.dat (enc a))))) (hl : xs.length ≤ 1000000) : eLc [i] it (gN i) t f e = .ok ((xs.filter p).map F) e := by
  have hlt := (List.getElem?_eq_some_iff.mp hi).1
  have hw : wipeE e [i] = e := by simp [set_none_self e i hi]
  refine eLc_filter xs enc p F hit (fun a m => ⟨e.set i (some (.dat (enc a))), ?_, ht a m, ?_, fun hp => ⟨_, h a m hp, ?_⟩⟩) hl ?_ ?_
  · rw [hw]; simp [hlt]
  · simp
  · simp
  · simp [hi]
  · rw [hw]; simp [hi]
/-- .. i a name that data stands at, perhaps -/
theorem eLc_nfx {α : Type} {i : Nat} {it : EM (List D)} {t : EM Bool} {f : EM D} {e : Slots} (xs : List α) (enc : α → D) (p : α → Bool) (F : α → D) (hit : it e = .ok (xs.map enc) e) (x : Option D) (hi : e[i]? = some (x.map .dat))
    (ht : ∀ a ∈ xs, t (e.set i (some (.dat (enc a)))) = .ok (p a) (e.set i (some (.dat (enc a)))))
    (h : ∀ a ∈ xs, p a = true → f (e.set i (some (.dat (enc a)))) = .ok (F a) (e.set i (some (.dat (enc a))))) (hl : xs.length ≤ 1000000) : eLc [i] it (gN i) t f e = .ok ((xs.filter p).map F) e := by
  have hlt := (List.getElem?_eq_some_iff.mp hi).1
  have hw : wipeE e [i] = e.set i none := by simp
  have hself : e.set i (x.map .dat) = e := by
    apply List.ext_getElem?
    intro j
    by_cases hj : i = j
    · subst hj
      rw [hi, List.getElem?_set_self hlt]
    · rw [List.getElem?_set_ne hj]
  refine eLc_filter xs enc p F hit (fun a m => ⟨e.set i (some (.dat (enc a))), ?_, ht a m, ?_, fun hp => ⟨_, h a m hp, ?_⟩⟩) hl ?_ ?_
  · rw [hw]; simp [hlt]
  · simp
  · simp
  · cases x <;> simp [hi]
  · rw [hw]
    cases x with
    | none => simp only [Option.map_none] at hi hself; simp [hi, hself]
    | some d => simp only [Option.map_some] at hi hself; simp [hi, hself]
theorem eLc_nx {α : Type} {i : Nat} {it : EM (List D)} {f : EM D} {e : Slots} (xs : List α) (enc : α → D) (F : α → D) (hit : it e = .ok (xs.map enc) e) (x : Option D) (hi : e[i]? = some (x.map .dat))
    (h : ∀ a ∈ xs, f (e.set i (some (.dat (enc a)))) = .ok (F a) (e.set i (some (.dat (enc a))))) (hl : xs.length ≤ 1000000) : eLc [i] it (gN i) bYes f e = .ok (xs.map F) e := by
  have := eLc_nfx (t := bYes) (f := f) xs enc (fun _ => true) F hit x hi (fun _ _ => rfl) (fun a m _ => h a m) hl
  rwa [List.filter_eq_self.mpr (fun _ _ => rfl)] at this
theorem eLc_n {α : Type} {i : Nat} {it : EM (List D)} {f : EM D} {e : Slots} (xs : List α) (enc : α → D) (F : α → D) (hit : it e = .ok (xs.map enc) e) (hi : e[i]? = some none)
    (h : ∀ a ∈ xs, f (e.set i (some (.dat (enc a)))) = .ok (F a) (e.set i (some (.dat (enc a))))) (hl : xs.length ≤ 1000000) : eLc [i] it (gN i) bYes f e = .ok (xs.map F) e := by
  have := eLc_nf (t := bYes) (f := f) xs enc (fun _ => true) F hit hi (fun _ _ => rfl) (fun a m _ => h a m) hl
  rwa [List.filter_eq_self.mpr (fun _ _ => rfl)] at this
/-- [f for i, j in it], all data -/
theorem eLc_2 {α : Type} {i j : Nat} {it : EM (List D)} {f : EM D} {e : Slots} (xs : List α) (A B : α → D) (F : α → D) (hit : it e = .ok (xs.map fun a => .tup [A a, B a]) e) (hi : e[i]? = some none) (hj : e[j]? = some none)
    (h : ∀ a ∈ xs, f ((e.set i (some (.dat (A a)))).set j (some (.dat (B a)))) = .ok (F a) ((e.set i (some (.dat (A a)))).set j (some (.dat (B a))))) (hl : xs.length ≤ 1000000) (hij : i ≠ j := by decide) : eLc [i, j] it (gT [gN i, gN j]) bYes f e = .ok (xs.map F) e := by
  have hlt := (List.getElem?_eq_some_iff.mp hi).1
  have hlt2 := (List.getElem?_eq_some_iff.mp hj).1
  have hw : wipeE e [i, j] = e := by simp [set_none_self e i hi, set_none_self e j hj]
  refine eLc_map xs _ F hit (fun a m => ⟨(e.set i (some (.dat (A a)))).set j (some (.dat (B a))), _, ?_, h a m, ?_, ?_⟩) hl ?_ ?_
  · rw [hw]; simp [hlt, hlt2]
  · rw [hw]
    simp only [wipeE_cons, wipeE_nil, List.set_set]
    rw [List.set_comm _ _ hij, List.set_set, set_none_self e j hj, set_none_self e i hi]
  · rw [hw]
    simp only [wipeE_cons, wipeE_nil, List.set_set]
    rw [List.set_comm _ _ hij, List.set_set, set_none_self e j hj, set_none_self e i hi]
  · simp [hi, hj]
  · rw [hw]; simp [hi, hj]
/-- a slot that was left behind -/
def oD (x : Option D) : Option SV := x.map .dat
@[simp] theorem oD_some (d : D) : oD (some d) = some (.dat d) := rfl
@[simp] theorem oD_none : oD none = none := rfl
@[simp] theorem viewEnv_oD (x : Option D) (e : Slots) : viewEnv (oD x :: e) = oD x :: viewEnv e := by cases x <;> rfl
@[simp] theorem rNo_oD (x : Option D) : rNo (some (oD x)) = true := by cases x <;> rfl
theorem getD_lt {α : Type} (l : List α) (k : Nat) (d : α) (h : k < l.length) : l.getD k d = l[k] := by
  rw [List.getD_eq_getElem?_getD, List.getElem?_eq_getElem h]; rfl
theorem enumD_from (ds : List D) : enumD ds = (ds.zipIdx 0).map fun p => .tup [.int (p.2 : Nat), p.1] := by
  unfold enumD
  apply List.ext_getElem
  · simp
  · intro i h1 h2
    simp at h1
    simp [h1]
theorem range_nat (n : Nat) : rangeD 0 (n : Nat) = (List.range n).map fun i => .int (i : Nat) := by
  unfold rangeD
  simp
theorem smallI_n (n : Nat) (h : n ≤ 1000) : smallI (n : Nat) := by
  unfold smallI; omega
theorem rRng_n (m : Nat) (h : m ≤ 1000) (e : Slots) : rRng [.int (m : Nat)] e = .ok ((List.range m).map fun i => .int (i : Nat)) e := by
  rw [rRng_1, if_pos (smallI_n m h), range_nat]
  rfl
/-- an index that is there -/
theorem atI_nn {α : Type} (ds : List α) (k : Nat) (h : k < ds.length) : atI ds (k : Int) = some ds[k] := by
  rw [atI_nat, List.getElem?_eq_getElem h]
theorem atI_last {α : Type} (ds : List α) (x : α) : atI (ds ++ [x]) (-1) = some x := by
  rw [atI_neg1 _ (by simp)]
  simp
end DL

/-! T0b: equality of plain data -/
namespace DL
open PySem L2
mutual
/-- plain data without truths, of a depth -/
def Pl : Nat → D → Bool
  | _, .non => true
  | _, .int _ => true
  | _, .str x => PyData.strOk x
  | n + 1, .tup xs => Pls n xs
  | n + 1, .lst xs => Pls n xs
  | _, _ => false
def Pls : Nat → List D → Bool
  | _, [] => true
  | n, x :: r => Pl n x && Pls n r
end
theorem Pls_iff {n : Nat} : ∀ {xs : List D}, Pls n xs = true ↔ ∀ x ∈ xs, Pl n x = true
  | [] => by simp [Pls]
  | x :: r => by simp [Pls, Pls_iff (xs := r)]
theorem Pls_map {α : Type} {n : Nat} {xs : List α} {f : α → D} (h : ∀ x ∈ xs, Pl n (f x) = true) : Pls n (xs.map f) = true := by
  rw [Pls_iff]
  intro x hx
  obtain ⟨a, m, rfl⟩ := List.mem_map.mp hx
  exact h a m
mutual
theorem Pl.pyOk : ∀ (n : Nat) (d : D), Pl n d = true → d.pyOk = true
  | _, .non, _ => rfl
  | _, .int _, _ => rfl
  | _, .str x, _ => rfl
  | n + 1, .tup xs, h => by simp only [D.pyOk]; exact Pls.pyOk n xs (by simpa [Pl] using h)
  | n + 1, .lst xs, h => by simp only [D.pyOk]; exact Pls.pyOk n xs (by simpa [Pl] using h)
  | 0, .tup xs, h => by simp [Pl] at h
  | 0, .lst xs, h => by simp [Pl] at h
  | _, .bl _, h => by simp [Pl] at h
  | _, .any, h => by simp [Pl] at h
  | _, .scr _, h => by simp [Pl] at h
  | _, .dct _, h => by simp [Pl] at h
  | _, .obj _ _, h => by simp [Pl] at h
  | _, .exc _ _, h => by simp [Pl] at h
theorem Pls.pyOk : ∀ (n : Nat) (d : List D), Pls n d = true → D.pyOks d = true
  | _, [], _ => rfl
  | n, x :: r, h => by
    simp only [Pls, Bool.and_eq_true] at h
    simp only [D.pyOks, Bool.and_eq_true]
    exact ⟨Pl.pyOk n x h.1, Pls.pyOk n r h.2⟩
end
mutual
theorem Pl.lay : ∀ (n : Nat) (d : D), Pl n d = true → d.py.canLay0 = true ∧ d.py.depth ≤ n
  | _, .non, _ => by simp [D.py, PyData.canLay0, PyData.depth]
  | _, .int _, _ => by simp [D.py, PyData.canLay0, PyData.depth]
  | _, .str x, h => by simpa [D.py, PyData.canLay0, PyData.depth, Pl] using h
  | n + 1, .tup xs, h => by
    have := Pls.lay n xs (by simpa [Pl] using h)
    simp only [D.py, PyData.canLay0, PyData.depth]
    exact ⟨this.1, by omega⟩
  | n + 1, .lst xs, h => by
    have := Pls.lay n xs (by simpa [Pl] using h)
    simp only [D.py, PyData.canLay0, PyData.depth]
    exact ⟨this.1, by omega⟩
  | 0, .tup xs, h => by simp [Pl] at h
  | 0, .lst xs, h => by simp [Pl] at h
  | _, .bl _, h => by simp [Pl] at h
  | _, .any, h => by simp [Pl] at h
  | _, .scr _, h => by simp [Pl] at h
  | _, .dct _, h => by simp [Pl] at h
  | _, .obj _ _, h => by simp [Pl] at h
  | _, .exc _ _, h => by simp [Pl] at h
theorem Pls.lay : ∀ (n : Nat) (d : List D), Pls n d = true → PyData.canLayAll0 (D.pys d) = true ∧ PyData.depthAll (D.pys d) ≤ n
  | _, [], _ => by simp [D.pys, PyData.canLayAll0, PyData.depthAll]
  | n, x :: r, h => by
    simp only [Pls, Bool.and_eq_true] at h
    have h1 := Pl.lay n x h.1
    have h2 := Pls.lay n r h.2
    simp only [D.pys, PyData.canLayAll0, PyData.depthAll, Bool.and_eq_true]
    exact ⟨⟨h1.1, h2.1⟩, by omega⟩
end
theorem Pl.shaped {n : Nat} {d : D} (h : Pl n d = true) (hn : n ≤ 64) : SeqAt.shaped d.py = true := by
  have := Pl.lay n d h
  unfold SeqAt.shaped
  simp only [Bool.and_eq_true, decide_eq_true_eq]
  exact ⟨this.1, by omega⟩
mutual
theorem Pl.eqv : ∀ (n : Nat) (x y : D), Pl n x = true → Pl n y = true → (PyData.eqv x.py y.py = true ↔ x = y)
  | n, .non, y, _, hy => by cases n <;> cases y <;> simp [Pl, D.py, PyData.eqv] at hy ⊢
  | n, .int i, y, _, hy => by cases n <;> cases y <;> simp [Pl, D.py, PyData.eqv] at hy ⊢
  | n, .str i, y, _, hy => by cases n <;> cases y <;> simp [Pl, D.py, PyData.eqv] at hy ⊢
  | n + 1, .tup xs, y, h, hy => by
    cases y <;> simp only [Pl] at h hy <;> try (cases hy)
    · simp [D.py, PyData.eqv]
    · simp [D.py, PyData.eqv]
    · simp [D.py, PyData.eqv]
    · simp only [D.py, PyData.eqv]; rw [Pls.eqv n _ _ h hy]; simp
    · simp [D.py, PyData.eqv]
  | n + 1, .lst xs, y, h, hy => by
    cases y <;> simp only [Pl] at h hy <;> try (cases hy)
    · simp [D.py, PyData.eqv]
    · simp [D.py, PyData.eqv]
    · simp [D.py, PyData.eqv]
    · simp [D.py, PyData.eqv]
    · simp only [D.py, PyData.eqv]; rw [Pls.eqv n _ _ h hy]; simp
  | 0, .tup xs, _, h, _ => by simp [Pl] at h
  | 0, .lst xs, _, h, _ => by simp [Pl] at h
  | _, .bl _, _, h, _ => by simp [Pl] at h
  | _, .any, _, h, _ => by simp [Pl] at h
  | _, .scr _, _, h, _ => by simp [Pl] at h
  | _, .dct _, _, h, _ => by simp [Pl] at h
  | _, .obj _ _, _, h, _ => by simp [Pl] at h
  | _, .exc _ _, _, h, _ => by simp [Pl] at h
theorem Pls.eqv : ∀ (n : Nat) (x y : List D), Pls n x = true → Pls n y = true → (PyData.eqvAll (D.pys x) (D.pys y) = true ↔ x = y)
  | _, [], [], _, _ => by simp [D.pys, PyData.eqvAll]
  | _, [], y :: ys, _, _ => by simp [D.pys, PyData.eqvAll]
  | _, x :: xs, [], _, _ => by simp [D.pys, PyData.eqvAll]
  | n, x :: xs, y :: ys, h, hy => by
    simp only [Pls, Bool.and_eq_true] at h hy
    simp only [D.pys, PyData.eqvAll, Bool.and_eq_true]
    rw [Pl.eqv n x y h.1 hy.1, Pls.eqv n xs ys h.2 hy.2]
    simp
end
theorem eqOk_pl {n : Nat} {x y : D} (hx : Pl n x = true) (hy : Pl n y = true) (hn : n ≤ 64) : eqOk x y = true := by
  unfold eqOk
  simp only [Bool.and_eq_true]
  exact ⟨⟨⟨Pl.pyOk n x hx, Pl.pyOk n y hy⟩, Pl.shaped hx hn⟩, Pl.shaped hy hn⟩
theorem opEq_pl {n : Nat} {x y : D} (hx : Pl n x = true) (hy : Pl n y = true) (hn : n ≤ 64) {b : Bool} (hb : b = true ↔ x = y) : opEq x y = some (.bl b) := by
  unfold opEq
  rw [if_pos (eqOk_pl hx hy hn)]
  have := Pl.eqv n x y hx hy
  rw [← hb] at this
  rw [Bool.eq_iff_iff.mpr this]
theorem opNe_pl {n : Nat} {x y : D} (hx : Pl n x = true) (hy : Pl n y = true) (hn : n ≤ 64) {b : Bool} (hb : b = true ↔ x = y) : opNe x y = some (.bl (!b)) := by
  unfold opNe
  rw [if_pos (eqOk_pl hx hy hn)]
  have := Pl.eqv n x y hx hy
  rw [← hb] at this
  rw [Bool.eq_iff_iff.mpr this]
theorem opEq_self {n : Nat} {x : D} (hx : Pl n x = true) (hn : n ≤ 64) : opEq x x = some (.bl true) := opEq_pl hx hx hn (by simp)
theorem opNe_self {n : Nat} {x : D} (hx : Pl n x = true) (hn : n ≤ 64) : opNe x x = some (.bl false) := opNe_pl hx hx hn (b := true) (by simp)
theorem Pl.mono : ∀ {n m : Nat} {d : D}, n ≤ m → Pl n d = true → Pl m d = true := by
  suffices ∀ (n m : Nat), n ≤ m → (∀ d, Pl n d = true → Pl m d = true) ∧ (∀ ds, Pls n ds = true → Pls m ds = true) from fun {n m d} h => (this n m h).1 d
  intro n
  induction n with
  | zero =>
    intro m _
    have h1 : ∀ d, Pl 0 d = true → Pl m d = true := fun d h => by cases m <;> cases d <;> simp [Pl] at h ⊢ <;> exact h
    exact ⟨h1, fun ds h => Pls_iff.mpr fun x hx => h1 x (Pls_iff.mp h x hx)⟩
  | succ n ih =>
    intro m hm
    obtain ⟨m, rfl⟩ : ∃ k, m = k + 1 := ⟨m - 1, by omega⟩
    have ih := ih m (by omega)
    have h1 : ∀ d, Pl (n + 1) d = true → Pl (m + 1) d = true := fun d h => by
      cases d <;> simp only [Pl] at h ⊢ <;> first | exact h | exact ih.2 _ h | trivial
    exact ⟨h1, fun ds h => Pls_iff.mpr fun x hx => h1 x (Pls_iff.mp h x hx)⟩
/-- x in [..] -/
theorem opInS_pl {n : Nat} {x : D} {ds : List D} (hx : Pl (n + 1) x = true) (hd : Pls n ds = true) (hn : n < 64) {b : Bool} (hb : b = true ↔ x ∈ ds) : opInS x (.lst ds) = some (.bl b) := by
  have hl : Pl (n + 1) (.lst ds) = true := by simpa [Pl] using hd
  show (if eqOk x (.lst ds) = true then _ else _) = _
  rw [if_pos (eqOk_pl hx hl (by omega))]
  congr 2
  rw [Bool.eq_iff_iff, hb, List.any_eq_true]
  constructor
  · rintro ⟨z, m, e⟩
    rw [Pl.eqv (n + 1) z x (Pl.mono (by omega) (Pls_iff.mp hd z m)) hx] at e
    exact e ▸ m
  · intro m
    exact ⟨x, m, (Pl.eqv (n + 1) x x hx hx).mpr rfl⟩
theorem Pls_ints (n : Nat) (ns : List Int) : Pls n (ns.map D.int) = true := Pls_map fun _ _ => by cases n <;> rfl
theorem intsOf_mapF {α : Type} (f : α → Int) (ns : List α) : intsOf (ns.map fun a => D.int (f a)) = some (ns.map f) := by
  rw [show (ns.map fun a => D.int (f a)) = (ns.map f).map D.int by rw [List.map_map]; rfl, intsOf_map]
end DL

namespace DL.Law
open PySem L2 DL
theorem cell_at (ns : List Int) (k : Nat) : m_x_law_cell_at [.dat (.scr ns), .dat (.int k)] = .ok (.dat (.int (ns.getD k 0 % 10 ^ 18))) [none, none] := by
  unfold m_x_law_cell_at b_x_law_cell_at
  rw [fnD_ap _ _ _ _ rfl]
  have hix : opIx (.scr ns) (.int k) = (ns[k]?).map D.int := by show (atI ns k).map D.int = _; rw [atI_nat]
  by_cases h : k < ns.length
  · simp [h, hix]
  · simp [h]
def nm60 (k : Nat) : Str := ⟨#[97 + k]⟩
theorem let60 : ∀ i : Nat, i < 26 → opIx (.str "abcdefghijklmnopqrstuvwxyz") (.int (i : Nat)) = some (.str (nm60 i))
  | 0, _ => rfl
  | 1, _ => rfl
  | 2, _ => rfl
  | 3, _ => rfl
  | 4, _ => rfl
  | 5, _ => rfl
  | 6, _ => rfl
  | 7, _ => rfl
  | 8, _ => rfl
  | 9, _ => rfl
  | 10, _ => rfl
  | 11, _ => rfl
  | 12, _ => rfl
  | 13, _ => rfl
  | 14, _ => rfl
  | 15, _ => rfl
  | 16, _ => rfl
  | 17, _ => rfl
  | 18, _ => rfl
  | 19, _ => rfl
  | 20, _ => rfl
  | 21, _ => rfl
  | 22, _ => rfl
  | 23, _ => rfl
  | 24, _ => rfl
  | 25, _ => rfl
  | n + 26, h => by omega
theorem let60i (i : Int) (h0 : 0 ≤ i) (h1 : i < 26) : opIx (.str "abcdefghijklmnopqrstuvwxyz") (.int i) = some (.str (nm60 i.toNat)) := by
  have := let60 i.toNat (by omega)
  rwa [Int.toNat_of_nonneg h0] at this
def ix60 (c : Int) (k : Nat) : Int := (c / 8 + k * k + 7 * k) % 26
def w60 (c : Int) : Str := Txt.join "" ((List.range (1 + c % 8).toNat).map fun k => nm60 (ix60 c k).toNat)
theorem strsOf_map {α : Type} (f : α → Str) : ∀ l : List α, strsOfL (l.map fun a => .str (f a)) = some (l.map f)
  | [] => rfl
  | a :: l => by simp [strsOfL, strsOf_map f l]
theorem join_ok : ∀ l : List Str, (∀ x ∈ l, PyData.strOk x = true) → PyData.strOk (Str.join "" l) = true
  | [], _ => by decide +kernel
  | [x], h => h x (by simp)
  | x :: y :: r, h => by
    have ih := join_ok (y :: r) fun z m => h z (List.mem_cons_of_mem _ m)
    have hx := h x (by simp)
    show PyData.strOk (x ++ "" ++ Str.join "" (y :: r)) = true
    generalize Str.join "" (y :: r) = z at *
    have h0 : PyData.strOk "" = true := strOk_ofS _
    unfold PyData.strOk at *
    rw [← Array.all_toList] at *
    rw [Str.cps_append, Array.toList_append, Str.cps_append, Array.toList_append, List.all_append, List.all_append, hx, ih, h0]
    rfl
theorem w60_ok (c : Int) : PyData.strOk (w60 c) = true := by
  unfold w60
  rw [show ∀ ps, Txt.join "" ps = Str.join "" ps from fun ps => PySem.StrLaws.glued_eq_join "" ps]
  refine join_ok _ fun x m => ?_
  obtain ⟨k, _, rfl⟩ := List.mem_map.mp m
  have : (ix60 c k).toNat < 26 := by unfold ix60; omega
  simp [nm60, PyData.strOk]; omega
theorem word_ok (c : Int) : m_x_law_word [.dat (.int c)] = .ok (.dat (.str (w60 c))) [none] := by
  unfold m_x_law_word b_x_law_word
  rw [fnD_ap _ _ _ _ rfl]
  have hr : (1 + c % 8) = (((1 + c % 8).toNat : Nat) : Int) := by omega
  have hle : (1 + c % 8).toNat ≤ 8 := by omega
  have hlc : eLc [2] (iRange (aCons (eBin opAdd (eC (.int 1)) (eBin opMod (eVar 0) (eC (.int 8)))) (aNil))) (gN 2) bYes C_x_law_word_1 [some (.dat (.int c)), some (.dat (.str "abcdefghijklmnopqrstuvwxyz")), none] =
      .ok ((List.range (1 + c % 8).toNat).map fun k => .str (nm60 (ix60 c k).toNat)) [some (.dat (.int c)), some (.dat (.str "abcdefghijklmnopqrstuvwxyz")), none] := by
    refine eLc_n (List.range (1 + c % 8).toNat) (fun k => .int (k : Nat)) (fun k => .str (nm60 (ix60 c k).toNat)) ?_ rfl (fun k m => ?_) (by simp; omega)
    · have := rRng_n (1 + c % 8).toNat (by omega) [some (.dat (.int c)), some (.dat (.str "abcdefghijklmnopqrstuvwxyz")), none]
      rw [← hr] at this
      simp [-rRng_1, this]
    · have hk := List.mem_range.mp m
      have hm1 : mulOk (k : Int) (k : Int) = true := by simp [mulOk]; left; omega
      have hm2 : mulOk 7 (k : Int) = true := by simp [mulOk]
      have hi := let60i (ix60 c k) (by unfold ix60; omega) (by unfold ix60; omega)
      unfold ix60 at hi ⊢
      simp [C_x_law_word_1, hm1, hm2, hi]
  have hj : opJoin "" (.lst ((List.range (1 + c % 8).toNat).map fun k => .str (nm60 (ix60 c k).toNat))) = some (.str (w60 c)) := by
    show ((strsOfL ((List.range (1 + c % 8).toNat).map fun k => .str (nm60 (ix60 c k).toNat))).bind _) = _
    rw [strsOf_map (fun k : Nat => nm60 (ix60 c k).toNat)]
    simp only [Option.bind_some]
    rw [if_pos]
    · rfl
    · rw [List.map_map]
      have : ∀ l : List Nat, (l.map ((fun x : Str => x.length) ∘ fun k => nm60 (ix60 c k).toNat)).sum = l.length := fun l => by
        induction l with
        | nil => rfl
        | cons a l ih => rw [List.map_cons, List.sum_cons, ih, List.length_cons]; show 1 + _ = _; omega
      rw [this]
      have e0 : ("" : Str).length = 0 := rfl
      rw [e0]; simp; omega
  simp [-eLc_ap, hlc, hj]
theorem rCat_l (xs ys : List D) (e : Slots) (h : xs.length + ys.length ≤ 1000) : rCat (.lst xs) (.lst ys) e = .ok (.own (.lf (.lst (xs ++ ys)))) e := by
  have := sizeLine_eq
  show (lift (if xs.length + ys.length ≤ sizeLine then _ else none)) e = _
  rw [if_pos (by omega)]; rfl
theorem kinds_ok (c : Nat) (j : Nat) (fs : List (Str × D)) (h : (c, j) = (10, 0) ∨ (c, j) = (11, 1) ∨ (c, j) = (13, 2) ∨ (c, j) = (12, 3)) : m_x_law_kinds [.dat (.exc c fs)] = .ok (.dat (.lst [.int j])) [none] := by
  unfold m_x_law_kinds b_x_law_kinds
  rw [fnD_ap _ _ _ _ rfl]
  have key : ∀ bl : List D, bl = (List.range 12).map (fun k => .bl (k == j)) → eLc [2] (iRange (aCons (eC (.int 12)) (aNil))) (gN 2) Q_x_law_kinds_2 C_x_law_kinds_1 [some (.dat (.exc c fs)), some (.own (.lf (.lst bl))), none] =
      .ok [.int j] [some (.dat (.exc c fs)), some (.own (.lf (.lst bl))), none] := fun bl hb => by
    have := eLc_nf (it := iRange (aCons (eC (.int 12)) (aNil))) (t := Q_x_law_kinds_2) (f := C_x_law_kinds_1) (e := [some (.dat (.exc c fs)), some (.own (.lf (.lst bl))), none]) (i := 2) (List.range 12) (fun k => .int (k : Nat)) (fun k => k == j) (fun k => .int (k : Nat)) ?_ rfl (fun k m => ?_) (fun k m _ => ?_) (by simp)
    · rw [this]
      rcases h with h | h | h | h <;> (cases h; rfl)
    · have := rRng_n 12 (by omega) [some (.dat (.exc c fs)), some (.own (.lf (.lst bl))), none]
      have e : ((12 : Nat) : Int) = 12 := rfl
      rw [e] at this
      simp [-rRng_1, this]
    · have hk := List.mem_range.mp m
      have hat : atI bl (k : Int) = some (.bl (k == j)) := by
        rw [atI_nat, hb, List.getElem?_map, List.getElem?_range hk]; rfl
      simp [Q_x_law_kinds_2, Lf.at_, hat]
    · simp [C_x_law_kinds_1]
  rcases h with h | h | h | h
  all_goals
    cases h
    have k2 := key _ rfl
    have e : (List.range 12) = [0, 1, 2, 3, 4, 5, 6, 7, 8, 9, 10, 11] := rfl
    rw [e] at k2
    simp [-eLc_ap] at k2
    simp [-eLc_ap, opIsX, sCat, rCat_l, k2]

def xs60 (r : Int) : List D := [.exc 10 [("row", .int r)], .exc 11 [("row", .int r)], .exc 13 [("row", .int r)]]
theorem ne_one (j : Nat) : opNe (.lst [.int (j : Nat)]) (.lst [.int (j : Nat)]) = some (.bl false) := opNe_self (n := 2) rfl (by omega)
theorem step1 (j : Nat) (hj : j < 3) (r : Int) (s0 s1 s2 s4 s7 : Option SV) : L_law_1 [s0, s1, s2, some (.dat (.int r)), s4, some (.dat (.lst (xs60 r))), some (.dat (.int (j : Nat))), s7] =
    .ok .nx [s0, s1, s2, some (.dat (.int r)), s4, some (.dat (.lst (xs60 r))), some (.dat (.int (j : Nat))), s7] := by
  have hn := ne_one j
  have h3 : j = 0 ∨ j = 1 ∨ j = 2 := by omega
  rcases h3 with rfl | rfl | rfl
  · have hk := kinds_ok 10 0 [("row", .int r)] (by simp)
    simp at hn hk
    simp [L_law_1, xs60, atI_nn, hk, hn, opXF]
  · have hk := kinds_ok 11 1 [("row", .int r)] (by simp)
    simp at hn hk
    simp [L_law_1, xs60, atI_nn, hk, hn, opXF]
  · have hk := kinds_ok 13 2 [("row", .int r)] (by simp)
    simp at hn hk
    simp [L_law_1, xs60, atI_nn, hk, hn, opXF]

theorem loop1 (r : Int) (s0 s1 s2 s4 s7 : Option SV) (x6 : Option D) : loopD (gN 6) L_law_1 [.int 0, .int 1, .int 2] [s0, s1, s2, some (.dat (.int r)), s4, some (.dat (.lst (xs60 r))), oD x6, s7] =
    .ok .nx [s0, s1, s2, some (.dat (.int r)), s4, some (.dat (.lst (xs60 r))), some (.dat (.int 2)), s7] := by
  have h0 := step1 0 (by omega) r s0 s1 s2 s4 s7
  have h1 := step1 1 (by omega) r s0 s1 s2 s4 s7
  have h2 := step1 2 (by omega) r s0 s1 s2 s4 s7
  simp at h0 h1 h2
  simp [h0, h1, h2]
theorem step2 (ns : List Int) (k : Nat) (x2 x3 x4 x5 x6 x7 : Option D) : ∃ y2 y3 y4 y5 y6 y7, L_law_2 [some (.dat (.scr ns)), some (.dat (.int (k : Nat))), oD x2, oD x3, oD x4, oD x5, oD x6, oD x7] =
    .ok .nx [some (.dat (.scr ns)), some (.dat (.int (k : Nat))), oD y2, oD y3, oD y4, oD y5, oD y6, oD y7] := by
  have hc := cell_at ns k
  have hw := word_ok (ns.getD k 0 % 10 ^ 18 / 7)
  have hwo := w60_ok (ns.getD k 0 % 10 ^ 18 / 7)
  generalize w60 (ns.getD k 0 % 10 ^ 18 / 7) = w at *
  generalize ns.getD k 0 % 10 ^ 18 = c at *
  have hl := loop1 (c % 1000) (some (.dat (.scr ns))) (some (.dat (.int (k : Nat)))) (some (.dat (.int c))) (some (.dat (.str w))) (oD x7) x6
  have hk := kinds_ok 12 3 [("limb", .str w), ("row", .int (c % 1000))] (by simp)
  have hn := ne_one 3
  have hn2 : opNe (.str w) (.str w) = some (.bl false) := opNe_self (n := 0) (by simpa [Pl] using hwo) (by omega)
  have hr := rRng_n 3 (by omega) [some (.dat (.scr ns)), some (.dat (.int (k : Nat))), some (.dat (.int c)), some (.dat (.int (c % 1000))), some (.dat (.str w)), some (.dat (.lst (xs60 (c % 1000)))), oD x6, oD x7]
  have e3 : ((3 : Nat) : Int) = 3 := rfl
  have er : (List.range 3).map (fun i => D.int (i : Nat)) = [.int 0, .int 1, .int 2] := rfl
  rw [e3, er] at hr
  simp only [xs60] at hl hr
  simp at hn hk
  refine ⟨some (.int c), some (.int (c % 1000)), some (.str w), some (.lst (xs60 (c % 1000))), some (.int 2), some (.exc 12 [("limb", .str w), ("row", .int (c % 1000))]), ?_⟩
  simp only [xs60]
  generalize hrr : c % 1000 = r at *
  have hlk : List.lookup (Str.ofString "row") [(Str.ofString "limb", D.str w), (Str.ofString "row", D.int r)] = some (.int r) := by
    rw [List.lookup_cons]
    have : (Str.ofString "row" == Str.ofString "limb") = false := by decide +kernel
    rw [this]; simp
  simp [-rRng_1, -loop_cons, L_law_2, hrr, hc, hw, eXNew, xNew, hr, hl, hk, hn, hn2, opXF, hlk]
theorem loop2 (ns : List Int) : ∀ (m k : Nat) (x1 x2 x3 x4 x5 x6 x7 : Option D), ∃ y1 y2 y3 y4 y5 y6 y7, loopD (gN 1) L_law_2 ((List.range' k m).map fun i => .int (i : Nat)) [some (.dat (.scr ns)), oD x1, oD x2, oD x3, oD x4, oD x5, oD x6, oD x7] =
    .ok .nx [some (.dat (.scr ns)), oD y1, oD y2, oD y3, oD y4, oD y5, oD y6, oD y7]
  | 0, k, x1, x2, x3, x4, x5, x6, x7 => ⟨x1, x2, x3, x4, x5, x6, x7, by simp⟩
  | m + 1, k, x1, x2, x3, x4, x5, x6, x7 => by
    obtain ⟨y2, y3, y4, y5, y6, y7, h⟩ := step2 ns k x2 x3 x4 x5 x6 x7
    obtain ⟨z1, z2, z3, z4, z5, z6, z7, ih⟩ := loop2 ns m (k + 1) (some (.int (k : Nat))) y2 y3 y4 y5 y6 y7
    refine ⟨z1, z2, z3, z4, z5, z6, z7, ?_⟩
    rw [List.range'_succ, List.map_cons, ← ih]
    simp only [loop_cons, gN_ap]
    simp [h]
theorem plain_law (ns : List Int) (hl : ns.length ≤ 63) : ∃ o, m_law [.dat (.scr ns)] = .ok (.dat (.bl true)) o := by
  unfold m_law b_law
  rw [fnD_ap _ _ _ _ rfl]
  have hn : ∃ n : Nat, max (1 : Int) (min (ns.length : Int) 60) = (n : Nat) ∧ n ≤ 1000 := ⟨(max (1 : Int) (min (ns.length : Int) 60)).toNat, by omega, by omega⟩
  obtain ⟨n, he, hle⟩ := hn
  obtain ⟨y1, y2, y3, y4, y5, y6, y7, h⟩ := loop2 ns n 0 none none none none none none none
  have hr := rRng_n n hle [some (.dat (.scr ns)), none, none, none, none, none, none, none]
  rw [List.range_eq_range'] at hr
  simp only [oD_none] at h
  refine ⟨[none], ?_⟩
  have hmin : opMin [.int (ns.length : Nat), .int 60] = some (.int (min (ns.length : Int) 60)) := rfl
  simp [-rRng_1, -loop_cons, he, hr, h, hmin]
end DL.Law

namespace DL.Law
open PySem L2 DL
def spLaw (K : PySem.W.Frag) : Sp := fun vs H Q _ => ∃ (a : Addr) (ns : List Int), vs = [.ref a] ∧ SqL K H a (ns.map V.int) ∧ ns.length ≤ 63 ∧ ∀ H', Q (.bl true) H'
theorem law_sp {K : PySem.W.Frag} {mg : Str → Option Value} (T : Fs K mg) {vs : List V} {H : Hp} {Q : VK} {E : XK} (h : spLaw K vs H Q E) : spD K T.kap m_law vs H Q E := by
  obtain ⟨a, ns, rfl, hS, hl, k⟩ := h
  exact sp_start hS (plain_law ns hl) k
theorem all_mk {l : PySem.W.OpenLaw} {w : World} {K : PySem.W.Frag} {h : Heap} {mg : Str → Option Value} {fa : Addr} (X : K.In h) (G : h.Ns mainGlobals mg) (hfa : mg "law" = some (.ref fa))
    {a_PlayError : Addr}
    {a_NoBook : Addr}
    {a_Idle : Addr}
    {a_TwoHands : Addr}
    {a_TooLong : Addr}
    {a_Long : Addr}
    {a_NoBeat : Addr}
    {a_Done : Addr}
    {a_NoPins : Addr}
    {a_Broad : Addr}
    {a_NoRow : Addr}
    {a_NoName : Addr}
    {a_NoLimb : Addr}
    {f_x_law_cell_at : Addr} {oc_x_law_cell_at kV_x_law_cell_at dc_x_law_cell_at pm_x_law_cell_at cd_x_law_cell_at ct_x_law_cell_at : Value} {od_x_law_cell_at an_x_law_cell_at : Option Addr} {sl_x_law_cell_at : Array (Option Value)}
    {f_x_law_word : Addr} {oc_x_law_word kV_x_law_word dc_x_law_word pm_x_law_word cd_x_law_word ct_x_law_word : Value} {od_x_law_word an_x_law_word : Option Addr} {sl_x_law_word : Array (Option Value)}
    {f_NoBook_init : Addr} {oc_NoBook_init kV_NoBook_init dc_NoBook_init pm_NoBook_init cd_NoBook_init ct_NoBook_init : Value} {od_NoBook_init an_NoBook_init : Option Addr} {sl_NoBook_init : Array (Option Value)}
    {f_Idle_init : Addr} {oc_Idle_init kV_Idle_init dc_Idle_init pm_Idle_init cd_Idle_init ct_Idle_init : Value} {od_Idle_init an_Idle_init : Option Addr} {sl_Idle_init : Array (Option Value)}
    {f_TooLong_init : Addr} {oc_TooLong_init kV_TooLong_init dc_TooLong_init pm_TooLong_init cd_TooLong_init ct_TooLong_init : Value} {od_TooLong_init an_TooLong_init : Option Addr} {sl_TooLong_init : Array (Option Value)}
    {f_x_law_kinds : Addr} {oc_x_law_kinds kV_x_law_kinds dc_x_law_kinds pm_x_law_kinds cd_x_law_kinds ct_x_law_kinds : Value} {od_x_law_kinds an_x_law_kinds : Option Addr} {sl_x_law_kinds : Array (Option Value)}
    {f_TwoHands_init : Addr} {oc_TwoHands_init kV_TwoHands_init dc_TwoHands_init pm_TwoHands_init cd_TwoHands_init ct_TwoHands_init : Value} {od_TwoHands_init an_TwoHands_init : Option Addr} {sl_TwoHands_init : Array (Option Value)}
    {f_law : Addr} {oc_law kV_law dc_law pm_law cd_law ct_law : Value} {od_law an_law : Option Addr} {sl_law : Array (Option Value)}
    {xq_NoBooknm xq_NoBookq : Str} {xq_NoBookN : Addr} {xq_NoBookbs : List Value} {xq_NoBooksn : List Str} {xq_NoBooksub : List Value} {xq_NoBookab : Bool} {xq_NoBookcol : Option Bool} {xq_NoBookdd : Option Addr} {xq_NoBook0 xq_NoBook1 xq_NoBook2 xq_NoBook3 xq_NoBook5 : Option Value}
    {xq_Idlenm xq_Idleq : Str} {xq_IdleN : Addr} {xq_Idlebs : List Value} {xq_Idlesn : List Str} {xq_Idlesub : List Value} {xq_Idleab : Bool} {xq_Idlecol : Option Bool} {xq_Idledd : Option Addr} {xq_Idle0 xq_Idle1 xq_Idle2 xq_Idle3 xq_Idle5 : Option Value}
    {xq_TwoHandsnm xq_TwoHandsq : Str} {xq_TwoHandsN : Addr} {xq_TwoHandsbs : List Value} {xq_TwoHandssn : List Str} {xq_TwoHandssub : List Value} {xq_TwoHandsab : Bool} {xq_TwoHandscol : Option Bool} {xq_TwoHandsdd : Option Addr} {xq_TwoHands0 xq_TwoHands1 xq_TwoHands2 xq_TwoHands3 xq_TwoHands5 : Option Value}
    {xq_TooLongnm xq_TooLongq : Str} {xq_TooLongN : Addr} {xq_TooLongbs : List Value} {xq_TooLongsn : List Str} {xq_TooLongsub : List Value} {xq_TooLongab : Bool} {xq_TooLongcol : Option Bool} {xq_TooLongdd : Option Addr} {xq_TooLong0 xq_TooLong1 xq_TooLong2 xq_TooLong3 xq_TooLong5 : Option Value}
    (mc_PlayError : PySem.W.nsIn K mainGlobals "PlayError" = some (some (.ref a_PlayError)))
    (mc_NoBook : PySem.W.nsIn K mainGlobals "NoBook" = some (some (.ref a_NoBook)))
    (mc_Idle : PySem.W.nsIn K mainGlobals "Idle" = some (some (.ref a_Idle)))
    (mc_TwoHands : PySem.W.nsIn K mainGlobals "TwoHands" = some (some (.ref a_TwoHands)))
    (mc_TooLong : PySem.W.nsIn K mainGlobals "TooLong" = some (some (.ref a_TooLong)))
    (mc_Long : PySem.W.nsIn K mainGlobals "Long" = some (some (.ref a_Long)))
    (mc_NoBeat : PySem.W.nsIn K mainGlobals "NoBeat" = some (some (.ref a_NoBeat)))
    (mc_Done : PySem.W.nsIn K mainGlobals "Done" = some (some (.ref a_Done)))
    (mc_NoPins : PySem.W.nsIn K mainGlobals "NoPins" = some (some (.ref a_NoPins)))
    (mc_Broad : PySem.W.nsIn K mainGlobals "Broad" = some (some (.ref a_Broad)))
    (mc_NoRow : PySem.W.nsIn K mainGlobals "NoRow" = some (some (.ref a_NoRow)))
    (mc_NoName : PySem.W.nsIn K mainGlobals "NoName" = some (some (.ref a_NoName)))
    (mc_NoLimb : PySem.W.nsIn K mainGlobals "NoLimb" = some (some (.ref a_NoLimb)))
    (mf_x_law_cell_at : PySem.W.nsIn K mainGlobals "_law_cell_at" = some (some (.ref f_x_law_cell_at)))
    (lk_x_law_cell_at : K.lookup f_x_law_cell_at = some ⟨oc_x_law_cell_at, od_x_law_cell_at, .func (PySem.W.fnOf "_law_cell_at" "_law_cell_at" (defArgs s_x_law_cell_at) (defBody s_x_law_cell_at) (defScope s_x_law_cell_at) .none kV_x_law_cell_at dc_x_law_cell_at pm_x_law_cell_at an_x_law_cell_at cd_x_law_cell_at ct_x_law_cell_at), sl_x_law_cell_at⟩)
    (co_x_law_cell_at : PySem.W.codeIn K cd_x_law_cell_at "_law_cell_at" = true)
    (kp_x_law_cell_at : PySem.W.keepIn K (.ref f_x_law_cell_at) = true)
    (mf_x_law_word : PySem.W.nsIn K mainGlobals "_law_word" = some (some (.ref f_x_law_word)))
    (lk_x_law_word : K.lookup f_x_law_word = some ⟨oc_x_law_word, od_x_law_word, .func (PySem.W.fnOf "_law_word" "_law_word" (defArgs s_x_law_word) (defBody s_x_law_word) (defScope s_x_law_word) .none kV_x_law_word dc_x_law_word pm_x_law_word an_x_law_word cd_x_law_word ct_x_law_word), sl_x_law_word⟩)
    (co_x_law_word : PySem.W.codeIn K cd_x_law_word "_law_word" = true)
    (kp_x_law_word : PySem.W.keepIn K (.ref f_x_law_word) = true)
    (mf_NoBook_init : PySem.W.findIn K (.ref a_NoBook) "__init__" = some (some (.ref f_NoBook_init)))
    (fi_NoBook_init : PySem.W.isFn K (.ref f_NoBook_init) = true)
    (lk_NoBook_init : K.lookup f_NoBook_init = some ⟨oc_NoBook_init, od_NoBook_init, .func (PySem.W.fnOf "__init__" "NoBook.__init__" (defArgs s_NoBook_init) (defBody s_NoBook_init) (defScope s_NoBook_init) .none kV_NoBook_init dc_NoBook_init pm_NoBook_init an_NoBook_init cd_NoBook_init ct_NoBook_init), sl_NoBook_init⟩)
    (co_NoBook_init : PySem.W.codeIn K cd_NoBook_init "NoBook.__init__" = true)
    (kp_NoBook_init : PySem.W.keepIn K (.ref f_NoBook_init) = true)
    (mf_Idle_init : PySem.W.findIn K (.ref a_Idle) "__init__" = some (some (.ref f_Idle_init)))
    (fi_Idle_init : PySem.W.isFn K (.ref f_Idle_init) = true)
    (lk_Idle_init : K.lookup f_Idle_init = some ⟨oc_Idle_init, od_Idle_init, .func (PySem.W.fnOf "__init__" "Idle.__init__" (defArgs s_Idle_init) (defBody s_Idle_init) (defScope s_Idle_init) .none kV_Idle_init dc_Idle_init pm_Idle_init an_Idle_init cd_Idle_init ct_Idle_init), sl_Idle_init⟩)
    (co_Idle_init : PySem.W.codeIn K cd_Idle_init "Idle.__init__" = true)
    (kp_Idle_init : PySem.W.keepIn K (.ref f_Idle_init) = true)
    (mf_TooLong_init : PySem.W.findIn K (.ref a_TooLong) "__init__" = some (some (.ref f_TooLong_init)))
    (fi_TooLong_init : PySem.W.isFn K (.ref f_TooLong_init) = true)
    (lk_TooLong_init : K.lookup f_TooLong_init = some ⟨oc_TooLong_init, od_TooLong_init, .func (PySem.W.fnOf "__init__" "TooLong.__init__" (defArgs s_TooLong_init) (defBody s_TooLong_init) (defScope s_TooLong_init) .none kV_TooLong_init dc_TooLong_init pm_TooLong_init an_TooLong_init cd_TooLong_init ct_TooLong_init), sl_TooLong_init⟩)
    (co_TooLong_init : PySem.W.codeIn K cd_TooLong_init "TooLong.__init__" = true)
    (kp_TooLong_init : PySem.W.keepIn K (.ref f_TooLong_init) = true)
    (mf_x_law_kinds : PySem.W.nsIn K mainGlobals "_law_kinds" = some (some (.ref f_x_law_kinds)))
    (lk_x_law_kinds : K.lookup f_x_law_kinds = some ⟨oc_x_law_kinds, od_x_law_kinds, .func (PySem.W.fnOf "_law_kinds" "_law_kinds" (defArgs s_x_law_kinds) (defBody s_x_law_kinds) (defScope s_x_law_kinds) .none kV_x_law_kinds dc_x_law_kinds pm_x_law_kinds an_x_law_kinds cd_x_law_kinds ct_x_law_kinds), sl_x_law_kinds⟩)
    (co_x_law_kinds : PySem.W.codeIn K cd_x_law_kinds "_law_kinds" = true)
    (kp_x_law_kinds : PySem.W.keepIn K (.ref f_x_law_kinds) = true)
    (mf_TwoHands_init : PySem.W.findIn K (.ref a_TwoHands) "__init__" = some (some (.ref f_TwoHands_init)))
    (fi_TwoHands_init : PySem.W.isFn K (.ref f_TwoHands_init) = true)
    (lk_TwoHands_init : K.lookup f_TwoHands_init = some ⟨oc_TwoHands_init, od_TwoHands_init, .func (PySem.W.fnOf "__init__" "TwoHands.__init__" (defArgs s_TwoHands_init) (defBody s_TwoHands_init) (defScope s_TwoHands_init) .none kV_TwoHands_init dc_TwoHands_init pm_TwoHands_init an_TwoHands_init cd_TwoHands_init ct_TwoHands_init), sl_TwoHands_init⟩)
    (co_TwoHands_init : PySem.W.codeIn K cd_TwoHands_init "TwoHands.__init__" = true)
    (kp_TwoHands_init : PySem.W.keepIn K (.ref f_TwoHands_init) = true)
    (mf_law : PySem.W.nsIn K mainGlobals "law" = some (some (.ref f_law)))
    (lk_law : K.lookup f_law = some ⟨oc_law, od_law, .func (PySem.W.fnOf "law" "law" (defArgs s_law) (defBody s_law) (defScope s_law) .none kV_law dc_law pm_law an_law cd_law ct_law), sl_law⟩)
    (co_law : PySem.W.codeIn K cd_law "law" = true)
    (kp_law : PySem.W.keepIn K (.ref f_law) = true)
    (xl_NoBook : K.lookup a_NoBook = some (excClassObj xq_NoBooknm xq_NoBookq a_NoBook xq_NoBookN xq_NoBookbs [.ref a_PlayError, .type "ValueError", .type "Exception", .type "BaseException", .type "object"] true xq_NoBooksn xq_NoBooksub xq_NoBookab xq_NoBookcol xq_NoBookdd xq_NoBook0 xq_NoBook1 xq_NoBook2 xq_NoBook3 xq_NoBook5 "ValueError.__new__"))
    (xsa_NoBook : PySem.W.findIn K (.ref a_NoBook) "__setattr__" = some (some (.builtin "object.__setattr__")))
    (xga_NoBook : PySem.W.findIn K (.ref a_NoBook) "__getattribute__" = some (some (.builtin "BaseException.__getattribute__")))
    (xgg_NoBook : PySem.W.findIn K (.ref a_NoBook) "__getattr__" = some none)
    (xex_NoBook : PySem.W.subIn K (.ref a_NoBook) (.type "BaseException") = some true)
    (xty_NoBook : PySem.W.typeIn K (.ref a_NoBook) = some (.type "type"))
    (xk_NoBook : PySem.W.keepIn K (.ref a_NoBook) = true)
    (xhd_NoBook : PySem.W.hasDictIn K a_NoBook = true)
    (xcl_NoBook : PySem.W.findIn K (.ref a_NoBook) "__class__" = some (some (.builtin "object.__class__")))
    (xmo_NoBook : PySem.W.mroIn K a_NoBook (.type "object") = some true)
    (xt_NoBook : PySem.W.typeIn K (.ref f_NoBook_init) = some (.type "function"))
    (nx_NoBook_row : PySem.W.findIn K (.ref a_NoBook) "row" = some none)
    (su_NoBook_Broad : PySem.W.subIn K (.ref a_NoBook) (.ref a_Broad) = some false)
    (su_NoBook_Done : PySem.W.subIn K (.ref a_NoBook) (.ref a_Done) = some false)
    (su_NoBook_Idle : PySem.W.subIn K (.ref a_NoBook) (.ref a_Idle) = some false)
    (su_NoBook_Long : PySem.W.subIn K (.ref a_NoBook) (.ref a_Long) = some false)
    (su_NoBook_NoBeat : PySem.W.subIn K (.ref a_NoBook) (.ref a_NoBeat) = some false)
    (su_NoBook_NoLimb : PySem.W.subIn K (.ref a_NoBook) (.ref a_NoLimb) = some false)
    (su_NoBook_NoName : PySem.W.subIn K (.ref a_NoBook) (.ref a_NoName) = some false)
    (su_NoBook_NoPins : PySem.W.subIn K (.ref a_NoBook) (.ref a_NoPins) = some false)
    (su_NoBook_NoRow : PySem.W.subIn K (.ref a_NoBook) (.ref a_NoRow) = some false)
    (su_NoBook_PlayError : PySem.W.subIn K (.ref a_NoBook) (.ref a_PlayError) = some true)
    (su_NoBook_TooLong : PySem.W.subIn K (.ref a_NoBook) (.ref a_TooLong) = some false)
    (su_NoBook_TwoHands : PySem.W.subIn K (.ref a_NoBook) (.ref a_TwoHands) = some false)
    (su_NoBook_ValueError : PySem.W.subIn K (.ref a_NoBook) (.type "ValueError") = some true)
    (su_NoBook_NoBook : PySem.W.subIn K (.ref a_NoBook) (.ref a_NoBook) = some true)
    (xl_Idle : K.lookup a_Idle = some (excClassObj xq_Idlenm xq_Idleq a_Idle xq_IdleN xq_Idlebs [.ref a_PlayError, .type "ValueError", .type "Exception", .type "BaseException", .type "object"] true xq_Idlesn xq_Idlesub xq_Idleab xq_Idlecol xq_Idledd xq_Idle0 xq_Idle1 xq_Idle2 xq_Idle3 xq_Idle5 "ValueError.__new__"))
    (xsa_Idle : PySem.W.findIn K (.ref a_Idle) "__setattr__" = some (some (.builtin "object.__setattr__")))
    (xga_Idle : PySem.W.findIn K (.ref a_Idle) "__getattribute__" = some (some (.builtin "BaseException.__getattribute__")))
    (xgg_Idle : PySem.W.findIn K (.ref a_Idle) "__getattr__" = some none)
    (xex_Idle : PySem.W.subIn K (.ref a_Idle) (.type "BaseException") = some true)
    (xty_Idle : PySem.W.typeIn K (.ref a_Idle) = some (.type "type"))
    (xk_Idle : PySem.W.keepIn K (.ref a_Idle) = true)
    (xhd_Idle : PySem.W.hasDictIn K a_Idle = true)
    (xcl_Idle : PySem.W.findIn K (.ref a_Idle) "__class__" = some (some (.builtin "object.__class__")))
    (xmo_Idle : PySem.W.mroIn K a_Idle (.type "object") = some true)
    (xt_Idle : PySem.W.typeIn K (.ref f_Idle_init) = some (.type "function"))
    (nx_Idle_row : PySem.W.findIn K (.ref a_Idle) "row" = some none)
    (su_Idle_Broad : PySem.W.subIn K (.ref a_Idle) (.ref a_Broad) = some false)
    (su_Idle_Done : PySem.W.subIn K (.ref a_Idle) (.ref a_Done) = some false)
    (su_Idle_Long : PySem.W.subIn K (.ref a_Idle) (.ref a_Long) = some false)
    (su_Idle_NoBeat : PySem.W.subIn K (.ref a_Idle) (.ref a_NoBeat) = some false)
    (su_Idle_NoBook : PySem.W.subIn K (.ref a_Idle) (.ref a_NoBook) = some false)
    (su_Idle_NoLimb : PySem.W.subIn K (.ref a_Idle) (.ref a_NoLimb) = some false)
    (su_Idle_NoName : PySem.W.subIn K (.ref a_Idle) (.ref a_NoName) = some false)
    (su_Idle_NoPins : PySem.W.subIn K (.ref a_Idle) (.ref a_NoPins) = some false)
    (su_Idle_NoRow : PySem.W.subIn K (.ref a_Idle) (.ref a_NoRow) = some false)
    (su_Idle_PlayError : PySem.W.subIn K (.ref a_Idle) (.ref a_PlayError) = some true)
    (su_Idle_TooLong : PySem.W.subIn K (.ref a_Idle) (.ref a_TooLong) = some false)
    (su_Idle_TwoHands : PySem.W.subIn K (.ref a_Idle) (.ref a_TwoHands) = some false)
    (su_Idle_ValueError : PySem.W.subIn K (.ref a_Idle) (.type "ValueError") = some true)
    (su_Idle_Idle : PySem.W.subIn K (.ref a_Idle) (.ref a_Idle) = some true)
    (xl_TwoHands : K.lookup a_TwoHands = some (excClassObj xq_TwoHandsnm xq_TwoHandsq a_TwoHands xq_TwoHandsN xq_TwoHandsbs [.ref a_PlayError, .type "ValueError", .type "Exception", .type "BaseException", .type "object"] true xq_TwoHandssn xq_TwoHandssub xq_TwoHandsab xq_TwoHandscol xq_TwoHandsdd xq_TwoHands0 xq_TwoHands1 xq_TwoHands2 xq_TwoHands3 xq_TwoHands5 "ValueError.__new__"))
    (xsa_TwoHands : PySem.W.findIn K (.ref a_TwoHands) "__setattr__" = some (some (.builtin "object.__setattr__")))
    (xga_TwoHands : PySem.W.findIn K (.ref a_TwoHands) "__getattribute__" = some (some (.builtin "BaseException.__getattribute__")))
    (xgg_TwoHands : PySem.W.findIn K (.ref a_TwoHands) "__getattr__" = some none)
    (xex_TwoHands : PySem.W.subIn K (.ref a_TwoHands) (.type "BaseException") = some true)
    (xty_TwoHands : PySem.W.typeIn K (.ref a_TwoHands) = some (.type "type"))
    (xk_TwoHands : PySem.W.keepIn K (.ref a_TwoHands) = true)
    (xhd_TwoHands : PySem.W.hasDictIn K a_TwoHands = true)
    (xcl_TwoHands : PySem.W.findIn K (.ref a_TwoHands) "__class__" = some (some (.builtin "object.__class__")))
    (xmo_TwoHands : PySem.W.mroIn K a_TwoHands (.type "object") = some true)
    (xt_TwoHands : PySem.W.typeIn K (.ref f_TwoHands_init) = some (.type "function"))
    (nx_TwoHands_row : PySem.W.findIn K (.ref a_TwoHands) "row" = some none)
    (nx_TwoHands_limb : PySem.W.findIn K (.ref a_TwoHands) "limb" = some none)
    (su_TwoHands_Broad : PySem.W.subIn K (.ref a_TwoHands) (.ref a_Broad) = some false)
    (su_TwoHands_Done : PySem.W.subIn K (.ref a_TwoHands) (.ref a_Done) = some false)
    (su_TwoHands_Idle : PySem.W.subIn K (.ref a_TwoHands) (.ref a_Idle) = some false)
    (su_TwoHands_Long : PySem.W.subIn K (.ref a_TwoHands) (.ref a_Long) = some false)
    (su_TwoHands_NoBeat : PySem.W.subIn K (.ref a_TwoHands) (.ref a_NoBeat) = some false)
    (su_TwoHands_NoBook : PySem.W.subIn K (.ref a_TwoHands) (.ref a_NoBook) = some false)
    (su_TwoHands_NoLimb : PySem.W.subIn K (.ref a_TwoHands) (.ref a_NoLimb) = some false)
    (su_TwoHands_NoName : PySem.W.subIn K (.ref a_TwoHands) (.ref a_NoName) = some false)
    (su_TwoHands_NoPins : PySem.W.subIn K (.ref a_TwoHands) (.ref a_NoPins) = some false)
    (su_TwoHands_NoRow : PySem.W.subIn K (.ref a_TwoHands) (.ref a_NoRow) = some false)
    (su_TwoHands_PlayError : PySem.W.subIn K (.ref a_TwoHands) (.ref a_PlayError) = some true)
    (su_TwoHands_TooLong : PySem.W.subIn K (.ref a_TwoHands) (.ref a_TooLong) = some false)
    (su_TwoHands_ValueError : PySem.W.subIn K (.ref a_TwoHands) (.type "ValueError") = some true)
    (su_TwoHands_TwoHands : PySem.W.subIn K (.ref a_TwoHands) (.ref a_TwoHands) = some true)
    (xl_TooLong : K.lookup a_TooLong = some (excClassObj xq_TooLongnm xq_TooLongq a_TooLong xq_TooLongN xq_TooLongbs [.ref a_PlayError, .type "ValueError", .type "Exception", .type "BaseException", .type "object"] true xq_TooLongsn xq_TooLongsub xq_TooLongab xq_TooLongcol xq_TooLongdd xq_TooLong0 xq_TooLong1 xq_TooLong2 xq_TooLong3 xq_TooLong5 "ValueError.__new__"))
    (xsa_TooLong : PySem.W.findIn K (.ref a_TooLong) "__setattr__" = some (some (.builtin "object.__setattr__")))
    (xga_TooLong : PySem.W.findIn K (.ref a_TooLong) "__getattribute__" = some (some (.builtin "BaseException.__getattribute__")))
    (xgg_TooLong : PySem.W.findIn K (.ref a_TooLong) "__getattr__" = some none)
    (xex_TooLong : PySem.W.subIn K (.ref a_TooLong) (.type "BaseException") = some true)
    (xty_TooLong : PySem.W.typeIn K (.ref a_TooLong) = some (.type "type"))
    (xk_TooLong : PySem.W.keepIn K (.ref a_TooLong) = true)
    (xhd_TooLong : PySem.W.hasDictIn K a_TooLong = true)
    (xcl_TooLong : PySem.W.findIn K (.ref a_TooLong) "__class__" = some (some (.builtin "object.__class__")))
    (xmo_TooLong : PySem.W.mroIn K a_TooLong (.type "object") = some true)
    (xt_TooLong : PySem.W.typeIn K (.ref f_TooLong_init) = some (.type "function"))
    (nx_TooLong_row : PySem.W.findIn K (.ref a_TooLong) "row" = some none)
    (su_TooLong_Broad : PySem.W.subIn K (.ref a_TooLong) (.ref a_Broad) = some false)
    (su_TooLong_Done : PySem.W.subIn K (.ref a_TooLong) (.ref a_Done) = some false)
    (su_TooLong_Idle : PySem.W.subIn K (.ref a_TooLong) (.ref a_Idle) = some false)
    (su_TooLong_Long : PySem.W.subIn K (.ref a_TooLong) (.ref a_Long) = some false)
    (su_TooLong_NoBeat : PySem.W.subIn K (.ref a_TooLong) (.ref a_NoBeat) = some false)
    (su_TooLong_NoBook : PySem.W.subIn K (.ref a_TooLong) (.ref a_NoBook) = some false)
    (su_TooLong_NoLimb : PySem.W.subIn K (.ref a_TooLong) (.ref a_NoLimb) = some false)
    (su_TooLong_NoName : PySem.W.subIn K (.ref a_TooLong) (.ref a_NoName) = some false)
    (su_TooLong_NoPins : PySem.W.subIn K (.ref a_TooLong) (.ref a_NoPins) = some false)
    (su_TooLong_NoRow : PySem.W.subIn K (.ref a_TooLong) (.ref a_NoRow) = some false)
    (su_TooLong_PlayError : PySem.W.subIn K (.ref a_TooLong) (.ref a_PlayError) = some true)
    (su_TooLong_TwoHands : PySem.W.subIn K (.ref a_TooLong) (.ref a_TwoHands) = some false)
    (su_TooLong_ValueError : PySem.W.subIn K (.ref a_TooLong) (.type "ValueError") = some true)
    (su_TooLong_TooLong : PySem.W.subIn K (.ref a_TooLong) (.ref a_TooLong) = some true)
    (ic_Broad : PySem.W.isClsIn K a_Broad = true)
    (xty_Broad : PySem.W.typeIn K (.ref a_Broad) = some (.type "type"))
    (ic_Done : PySem.W.isClsIn K a_Done = true)
    (xty_Done : PySem.W.typeIn K (.ref a_Done) = some (.type "type"))
    (ic_Idle : PySem.W.isClsIn K a_Idle = true)
    (ic_Long : PySem.W.isClsIn K a_Long = true)
    (xty_Long : PySem.W.typeIn K (.ref a_Long) = some (.type "type"))
    (ic_NoBeat : PySem.W.isClsIn K a_NoBeat = true)
    (xty_NoBeat : PySem.W.typeIn K (.ref a_NoBeat) = some (.type "type"))
    (ic_NoBook : PySem.W.isClsIn K a_NoBook = true)
    (ic_NoLimb : PySem.W.isClsIn K a_NoLimb = true)
    (xty_NoLimb : PySem.W.typeIn K (.ref a_NoLimb) = some (.type "type"))
    (ic_NoName : PySem.W.isClsIn K a_NoName = true)
    (xty_NoName : PySem.W.typeIn K (.ref a_NoName) = some (.type "type"))
    (ic_NoPins : PySem.W.isClsIn K a_NoPins = true)
    (xty_NoPins : PySem.W.typeIn K (.ref a_NoPins) = some (.type "type"))
    (ic_NoRow : PySem.W.isClsIn K a_NoRow = true)
    (xty_NoRow : PySem.W.typeIn K (.ref a_NoRow) = some (.type "type"))
    (ic_PlayError : PySem.W.isClsIn K a_PlayError = true)
    (xty_PlayError : PySem.W.typeIn K (.ref a_PlayError) = some (.type "type"))
    (ic_TooLong : PySem.W.isClsIn K a_TooLong = true)
    (ic_TwoHands : PySem.W.isClsIn K a_TwoHands = true)
    (xsp : PySem.W.specialIn K (.builtin "object.__class__") "__get__" = some (some (.builtin "getset_descriptor.__get__")))
    (xtk : PySem.W.takesIn K (.builtin "object.__class__") = some true)
    (g_ValueError : PySem.W.nsIn K mainGlobals "ValueError" = some none)
    (g_isinstance : PySem.W.nsIn K mainGlobals "isinstance" = some none)
    (g_len : PySem.W.nsIn K mainGlobals "len" = some none)
    (g_max : PySem.W.nsIn K mainGlobals "max" = some none)
    (g_min : PySem.W.nsIn K mainGlobals "min" = some none)
    (g_range : PySem.W.nsIn K mainGlobals "range" = some none) :
    ∃ fd : FuncData, (∀ (s : Shared) (v : Value), BindsTo s fd ⟨[v], []⟩ [("script", v)]) ∧ ∀ base : Heap, K.In base → base.Ns mainGlobals mg → FnOk l.prog w K mg base (L2.CX l.prog w) 3 fa fd ["script"] (spLaw K) := by
  have e : f_law = fa := (Value.ref.inj (Option.some.inj (hfa.symm.trans (PySem.W.mg_of X G mf_law)))).symm
  subst e
  have F_x_law_cell_at : FunD K "_law_cell_at" "_law_cell_at" (defArgs s_x_law_cell_at) (defBody s_x_law_cell_at) (defScope s_x_law_cell_at) [] [] f_x_law_cell_at (PySem.W.fnOf "_law_cell_at" "_law_cell_at" (defArgs s_x_law_cell_at) (defBody s_x_law_cell_at) (defScope s_x_law_cell_at) .none kV_x_law_cell_at dc_x_law_cell_at pm_x_law_cell_at an_x_law_cell_at cd_x_law_cell_at ct_x_law_cell_at) := ⟨⟨_, _, _, _, _, _, _, _, _, _, rfl, lk_x_law_cell_at, co_x_law_cell_at, .inl ⟨rfl, rfl⟩, .inl rfl⟩, kp_x_law_cell_at⟩
  have b_x_law_cell_at : Binds K (PySem.W.fnOf "_law_cell_at" "_law_cell_at" (defArgs s_x_law_cell_at) (defBody s_x_law_cell_at) (defScope s_x_law_cell_at) .none kV_x_law_cell_at dc_x_law_cell_at pm_x_law_cell_at an_x_law_cell_at cd_x_law_cell_at ct_x_law_cell_at) ["script", "k"] [] := F_x_law_cell_at.bindsN fun _ _ _ _ _ _ us hl => match us, hl with | [_, _], _ => rfl
  have F_x_law_word : FunD K "_law_word" "_law_word" (defArgs s_x_law_word) (defBody s_x_law_word) (defScope s_x_law_word) [] [] f_x_law_word (PySem.W.fnOf "_law_word" "_law_word" (defArgs s_x_law_word) (defBody s_x_law_word) (defScope s_x_law_word) .none kV_x_law_word dc_x_law_word pm_x_law_word an_x_law_word cd_x_law_word ct_x_law_word) := ⟨⟨_, _, _, _, _, _, _, _, _, _, rfl, lk_x_law_word, co_x_law_word, .inl ⟨rfl, rfl⟩, .inl rfl⟩, kp_x_law_word⟩
  have b_x_law_word : Binds K (PySem.W.fnOf "_law_word" "_law_word" (defArgs s_x_law_word) (defBody s_x_law_word) (defScope s_x_law_word) .none kV_x_law_word dc_x_law_word pm_x_law_word an_x_law_word cd_x_law_word ct_x_law_word) ["cell"] [] := F_x_law_word.bindsN fun _ _ _ _ _ _ us hl => match us, hl with | [_], _ => rfl
  have F_NoBook_init : FunD K "__init__" "NoBook.__init__" (defArgs s_NoBook_init) (defBody s_NoBook_init) (defScope s_NoBook_init) [] [] f_NoBook_init (PySem.W.fnOf "__init__" "NoBook.__init__" (defArgs s_NoBook_init) (defBody s_NoBook_init) (defScope s_NoBook_init) .none kV_NoBook_init dc_NoBook_init pm_NoBook_init an_NoBook_init cd_NoBook_init ct_NoBook_init) := ⟨⟨_, _, _, _, _, _, _, _, _, _, rfl, lk_NoBook_init, co_NoBook_init, .inl ⟨rfl, rfl⟩, .inl rfl⟩, kp_NoBook_init⟩
  have b_NoBook_init : Binds K (PySem.W.fnOf "__init__" "NoBook.__init__" (defArgs s_NoBook_init) (defBody s_NoBook_init) (defScope s_NoBook_init) .none kV_NoBook_init dc_NoBook_init pm_NoBook_init an_NoBook_init cd_NoBook_init ct_NoBook_init) ["self", "row"] [] := F_NoBook_init.bindsN fun _ _ _ _ _ _ us hl => match us, hl with | [_, _], _ => rfl
  have F_Idle_init : FunD K "__init__" "Idle.__init__" (defArgs s_Idle_init) (defBody s_Idle_init) (defScope s_Idle_init) [] [] f_Idle_init (PySem.W.fnOf "__init__" "Idle.__init__" (defArgs s_Idle_init) (defBody s_Idle_init) (defScope s_Idle_init) .none kV_Idle_init dc_Idle_init pm_Idle_init an_Idle_init cd_Idle_init ct_Idle_init) := ⟨⟨_, _, _, _, _, _, _, _, _, _, rfl, lk_Idle_init, co_Idle_init, .inl ⟨rfl, rfl⟩, .inl rfl⟩, kp_Idle_init⟩
  have b_Idle_init : Binds K (PySem.W.fnOf "__init__" "Idle.__init__" (defArgs s_Idle_init) (defBody s_Idle_init) (defScope s_Idle_init) .none kV_Idle_init dc_Idle_init pm_Idle_init an_Idle_init cd_Idle_init ct_Idle_init) ["self", "row"] [] := F_Idle_init.bindsN fun _ _ _ _ _ _ us hl => match us, hl with | [_, _], _ => rfl
  have F_TooLong_init : FunD K "__init__" "TooLong.__init__" (defArgs s_TooLong_init) (defBody s_TooLong_init) (defScope s_TooLong_init) [] [] f_TooLong_init (PySem.W.fnOf "__init__" "TooLong.__init__" (defArgs s_TooLong_init) (defBody s_TooLong_init) (defScope s_TooLong_init) .none kV_TooLong_init dc_TooLong_init pm_TooLong_init an_TooLong_init cd_TooLong_init ct_TooLong_init) := ⟨⟨_, _, _, _, _, _, _, _, _, _, rfl, lk_TooLong_init, co_TooLong_init, .inl ⟨rfl, rfl⟩, .inl rfl⟩, kp_TooLong_init⟩
  have b_TooLong_init : Binds K (PySem.W.fnOf "__init__" "TooLong.__init__" (defArgs s_TooLong_init) (defBody s_TooLong_init) (defScope s_TooLong_init) .none kV_TooLong_init dc_TooLong_init pm_TooLong_init an_TooLong_init cd_TooLong_init ct_TooLong_init) ["self", "row"] [] := F_TooLong_init.bindsN fun _ _ _ _ _ _ us hl => match us, hl with | [_, _], _ => rfl
  have F_x_law_kinds : FunD K "_law_kinds" "_law_kinds" (defArgs s_x_law_kinds) (defBody s_x_law_kinds) (defScope s_x_law_kinds) [] [] f_x_law_kinds (PySem.W.fnOf "_law_kinds" "_law_kinds" (defArgs s_x_law_kinds) (defBody s_x_law_kinds) (defScope s_x_law_kinds) .none kV_x_law_kinds dc_x_law_kinds pm_x_law_kinds an_x_law_kinds cd_x_law_kinds ct_x_law_kinds) := ⟨⟨_, _, _, _, _, _, _, _, _, _, rfl, lk_x_law_kinds, co_x_law_kinds, .inl ⟨rfl, rfl⟩, .inl rfl⟩, kp_x_law_kinds⟩
  have b_x_law_kinds : Binds K (PySem.W.fnOf "_law_kinds" "_law_kinds" (defArgs s_x_law_kinds) (defBody s_x_law_kinds) (defScope s_x_law_kinds) .none kV_x_law_kinds dc_x_law_kinds pm_x_law_kinds an_x_law_kinds cd_x_law_kinds ct_x_law_kinds) ["made"] [] := F_x_law_kinds.bindsN fun _ _ _ _ _ _ us hl => match us, hl with | [_], _ => rfl
  have F_TwoHands_init : FunD K "__init__" "TwoHands.__init__" (defArgs s_TwoHands_init) (defBody s_TwoHands_init) (defScope s_TwoHands_init) [] [] f_TwoHands_init (PySem.W.fnOf "__init__" "TwoHands.__init__" (defArgs s_TwoHands_init) (defBody s_TwoHands_init) (defScope s_TwoHands_init) .none kV_TwoHands_init dc_TwoHands_init pm_TwoHands_init an_TwoHands_init cd_TwoHands_init ct_TwoHands_init) := ⟨⟨_, _, _, _, _, _, _, _, _, _, rfl, lk_TwoHands_init, co_TwoHands_init, .inl ⟨rfl, rfl⟩, .inl rfl⟩, kp_TwoHands_init⟩
  have b_TwoHands_init : Binds K (PySem.W.fnOf "__init__" "TwoHands.__init__" (defArgs s_TwoHands_init) (defBody s_TwoHands_init) (defScope s_TwoHands_init) .none kV_TwoHands_init dc_TwoHands_init pm_TwoHands_init an_TwoHands_init cd_TwoHands_init ct_TwoHands_init) ["self", "row", "limb"] [] := F_TwoHands_init.bindsN fun _ _ _ _ _ _ us hl => match us, hl with | [_, _, _], _ => rfl
  have F_law : FunD K "law" "law" (defArgs s_law) (defBody s_law) (defScope s_law) [] [] f_law (PySem.W.fnOf "law" "law" (defArgs s_law) (defBody s_law) (defScope s_law) .none kV_law dc_law pm_law an_law cd_law ct_law) := ⟨⟨_, _, _, _, _, _, _, _, _, _, rfl, lk_law, co_law, .inl ⟨rfl, rfl⟩, .inl rfl⟩, kp_law⟩
  have b_law : Binds K (PySem.W.fnOf "law" "law" (defArgs s_law) (defBody s_law) (defScope s_law) .none kV_law dc_law pm_law an_law cd_law ct_law) ["script"] [] := F_law.bindsN fun _ _ _ _ _ _ us hl => match us, hl with | [_], _ => rfl
  let T : Fs K mg := {
    f_x_law_cell_at := f_x_law_cell_at, d_x_law_cell_at := _, F_x_law_cell_at := F_x_law_cell_at, b_x_law_cell_at := b_x_law_cell_at,
    m_x_law_cell_at := PySem.W.mg_of X G mf_x_law_cell_at,
    f_x_law_word := f_x_law_word, d_x_law_word := _, F_x_law_word := F_x_law_word, b_x_law_word := b_x_law_word,
    m_x_law_word := PySem.W.mg_of X G mf_x_law_word,
    f_NoBook_init := f_NoBook_init, d_NoBook_init := _, F_NoBook_init := F_NoBook_init, b_NoBook_init := b_NoBook_init,
    f_Idle_init := f_Idle_init, d_Idle_init := _, F_Idle_init := F_Idle_init, b_Idle_init := b_Idle_init,
    f_TooLong_init := f_TooLong_init, d_TooLong_init := _, F_TooLong_init := F_TooLong_init, b_TooLong_init := b_TooLong_init,
    f_x_law_kinds := f_x_law_kinds, d_x_law_kinds := _, F_x_law_kinds := F_x_law_kinds, b_x_law_kinds := b_x_law_kinds,
    m_x_law_kinds := PySem.W.mg_of X G mf_x_law_kinds,
    f_TwoHands_init := f_TwoHands_init, d_TwoHands_init := _, F_TwoHands_init := F_TwoHands_init, b_TwoHands_init := b_TwoHands_init,
    f_law := f_law, d_law := _, F_law := F_law, b_law := b_law,
    m_law := PySem.W.mg_of X G mf_law,
    a_PlayError := a_PlayError, m_PlayError := PySem.W.mg_of X G mc_PlayError,
    a_NoBook := a_NoBook, m_NoBook := PySem.W.mg_of X G mc_NoBook,
    a_Idle := a_Idle, m_Idle := PySem.W.mg_of X G mc_Idle,
    a_TwoHands := a_TwoHands, m_TwoHands := PySem.W.mg_of X G mc_TwoHands,
    a_TooLong := a_TooLong, m_TooLong := PySem.W.mg_of X G mc_TooLong,
    a_Long := a_Long, m_Long := PySem.W.mg_of X G mc_Long,
    a_NoBeat := a_NoBeat, m_NoBeat := PySem.W.mg_of X G mc_NoBeat,
    a_Done := a_Done, m_Done := PySem.W.mg_of X G mc_Done,
    a_NoPins := a_NoPins, m_NoPins := PySem.W.mg_of X G mc_NoPins,
    a_Broad := a_Broad, m_Broad := PySem.W.mg_of X G mc_Broad,
    a_NoRow := a_NoRow, m_NoRow := PySem.W.mg_of X G mc_NoRow,
    a_NoName := a_NoName, m_NoName := PySem.W.mg_of X G mc_NoName,
    a_NoLimb := a_NoLimb, m_NoLimb := PySem.W.mg_of X G mc_NoLimb,
    x_NoBook := ⟨⟨xq_NoBooknm, xq_NoBookq, xq_NoBookN, xq_NoBookbs, _, xq_NoBooksn, xq_NoBooksub, xq_NoBookab, xq_NoBookcol, xq_NoBookdd, xq_NoBook0, xq_NoBook1, xq_NoBook2, xq_NoBook3, xq_NoBook5, xl_NoBook, rfl⟩, xsa_NoBook, xex_NoBook, xty_NoBook, xk_NoBook⟩,
    xf_NoBook := ⟨xga_NoBook, xgg_NoBook, xex_NoBook, xhd_NoBook⟩, xe_NoBook := ⟨xga_NoBook, xgg_NoBook, xex_NoBook, xhd_NoBook, xcl_NoBook, xsp, xtk, xmo_NoBook⟩,
    xi_NoBook := mf_NoBook_init, xt_NoBook := xt_NoBook,
    nx_NoBook_row := nx_NoBook_row,
    ki_NoBook_Broad := kit_ref su_NoBook_Broad su_NoBook_NoBook ic_Broad xty_Broad,
    ki_NoBook_Done := kit_ref su_NoBook_Done su_NoBook_NoBook ic_Done xty_Done,
    ki_NoBook_Idle := kit_ref su_NoBook_Idle su_NoBook_NoBook ic_Idle xty_Idle,
    ki_NoBook_Long := kit_ref su_NoBook_Long su_NoBook_NoBook ic_Long xty_Long,
    ki_NoBook_NoBeat := kit_ref su_NoBook_NoBeat su_NoBook_NoBook ic_NoBeat xty_NoBeat,
    ki_NoBook_NoBook := kit_ref su_NoBook_NoBook su_NoBook_NoBook ic_NoBook xty_NoBook,
    ki_NoBook_NoLimb := kit_ref su_NoBook_NoLimb su_NoBook_NoBook ic_NoLimb xty_NoLimb,
    ki_NoBook_NoName := kit_ref su_NoBook_NoName su_NoBook_NoBook ic_NoName xty_NoName,
    ki_NoBook_NoPins := kit_ref su_NoBook_NoPins su_NoBook_NoBook ic_NoPins xty_NoPins,
    ki_NoBook_NoRow := kit_ref su_NoBook_NoRow su_NoBook_NoBook ic_NoRow xty_NoRow,
    ki_NoBook_PlayError := kit_ref su_NoBook_PlayError su_NoBook_NoBook ic_PlayError xty_PlayError,
    ki_NoBook_TooLong := kit_ref su_NoBook_TooLong su_NoBook_NoBook ic_TooLong xty_TooLong,
    ki_NoBook_TwoHands := kit_ref su_NoBook_TwoHands su_NoBook_NoBook ic_TwoHands xty_TwoHands,
    ki_NoBook_ValueError := kit_tyx (by decide +kernel) su_NoBook_ValueError,
    x_Idle := ⟨⟨xq_Idlenm, xq_Idleq, xq_IdleN, xq_Idlebs, _, xq_Idlesn, xq_Idlesub, xq_Idleab, xq_Idlecol, xq_Idledd, xq_Idle0, xq_Idle1, xq_Idle2, xq_Idle3, xq_Idle5, xl_Idle, rfl⟩, xsa_Idle, xex_Idle, xty_Idle, xk_Idle⟩,
    xf_Idle := ⟨xga_Idle, xgg_Idle, xex_Idle, xhd_Idle⟩, xe_Idle := ⟨xga_Idle, xgg_Idle, xex_Idle, xhd_Idle, xcl_Idle, xsp, xtk, xmo_Idle⟩,
    xi_Idle := mf_Idle_init, xt_Idle := xt_Idle,
    nx_Idle_row := nx_Idle_row,
    ki_Idle_Broad := kit_ref su_Idle_Broad su_Idle_Idle ic_Broad xty_Broad,
    ki_Idle_Done := kit_ref su_Idle_Done su_Idle_Idle ic_Done xty_Done,
    ki_Idle_Idle := kit_ref su_Idle_Idle su_Idle_Idle ic_Idle xty_Idle,
    ki_Idle_Long := kit_ref su_Idle_Long su_Idle_Idle ic_Long xty_Long,
    ki_Idle_NoBeat := kit_ref su_Idle_NoBeat su_Idle_Idle ic_NoBeat xty_NoBeat,
    ki_Idle_NoBook := kit_ref su_Idle_NoBook su_Idle_Idle ic_NoBook xty_NoBook,
    ki_Idle_NoLimb := kit_ref su_Idle_NoLimb su_Idle_Idle ic_NoLimb xty_NoLimb,
    ki_Idle_NoName := kit_ref su_Idle_NoName su_Idle_Idle ic_NoName xty_NoName,
    ki_Idle_NoPins := kit_ref su_Idle_NoPins su_Idle_Idle ic_NoPins xty_NoPins,
    ki_Idle_NoRow := kit_ref su_Idle_NoRow su_Idle_Idle ic_NoRow xty_NoRow,
    ki_Idle_PlayError := kit_ref su_Idle_PlayError su_Idle_Idle ic_PlayError xty_PlayError,
    ki_Idle_TooLong := kit_ref su_Idle_TooLong su_Idle_Idle ic_TooLong xty_TooLong,
    ki_Idle_TwoHands := kit_ref su_Idle_TwoHands su_Idle_Idle ic_TwoHands xty_TwoHands,
    ki_Idle_ValueError := kit_tyx (by decide +kernel) su_Idle_ValueError,
    x_TwoHands := ⟨⟨xq_TwoHandsnm, xq_TwoHandsq, xq_TwoHandsN, xq_TwoHandsbs, _, xq_TwoHandssn, xq_TwoHandssub, xq_TwoHandsab, xq_TwoHandscol, xq_TwoHandsdd, xq_TwoHands0, xq_TwoHands1, xq_TwoHands2, xq_TwoHands3, xq_TwoHands5, xl_TwoHands, rfl⟩, xsa_TwoHands, xex_TwoHands, xty_TwoHands, xk_TwoHands⟩,
    xf_TwoHands := ⟨xga_TwoHands, xgg_TwoHands, xex_TwoHands, xhd_TwoHands⟩, xe_TwoHands := ⟨xga_TwoHands, xgg_TwoHands, xex_TwoHands, xhd_TwoHands, xcl_TwoHands, xsp, xtk, xmo_TwoHands⟩,
    xi_TwoHands := mf_TwoHands_init, xt_TwoHands := xt_TwoHands,
    nx_TwoHands_row := nx_TwoHands_row,
    nx_TwoHands_limb := nx_TwoHands_limb,
    ki_TwoHands_Broad := kit_ref su_TwoHands_Broad su_TwoHands_TwoHands ic_Broad xty_Broad,
    ki_TwoHands_Done := kit_ref su_TwoHands_Done su_TwoHands_TwoHands ic_Done xty_Done,
    ki_TwoHands_Idle := kit_ref su_TwoHands_Idle su_TwoHands_TwoHands ic_Idle xty_Idle,
    ki_TwoHands_Long := kit_ref su_TwoHands_Long su_TwoHands_TwoHands ic_Long xty_Long,
    ki_TwoHands_NoBeat := kit_ref su_TwoHands_NoBeat su_TwoHands_TwoHands ic_NoBeat xty_NoBeat,
    ki_TwoHands_NoBook := kit_ref su_TwoHands_NoBook su_TwoHands_TwoHands ic_NoBook xty_NoBook,
    ki_TwoHands_NoLimb := kit_ref su_TwoHands_NoLimb su_TwoHands_TwoHands ic_NoLimb xty_NoLimb,
    ki_TwoHands_NoName := kit_ref su_TwoHands_NoName su_TwoHands_TwoHands ic_NoName xty_NoName,
    ki_TwoHands_NoPins := kit_ref su_TwoHands_NoPins su_TwoHands_TwoHands ic_NoPins xty_NoPins,
    ki_TwoHands_NoRow := kit_ref su_TwoHands_NoRow su_TwoHands_TwoHands ic_NoRow xty_NoRow,
    ki_TwoHands_PlayError := kit_ref su_TwoHands_PlayError su_TwoHands_TwoHands ic_PlayError xty_PlayError,
    ki_TwoHands_TooLong := kit_ref su_TwoHands_TooLong su_TwoHands_TwoHands ic_TooLong xty_TooLong,
    ki_TwoHands_TwoHands := kit_ref su_TwoHands_TwoHands su_TwoHands_TwoHands ic_TwoHands xty_TwoHands,
    ki_TwoHands_ValueError := kit_tyx (by decide +kernel) su_TwoHands_ValueError,
    x_TooLong := ⟨⟨xq_TooLongnm, xq_TooLongq, xq_TooLongN, xq_TooLongbs, _, xq_TooLongsn, xq_TooLongsub, xq_TooLongab, xq_TooLongcol, xq_TooLongdd, xq_TooLong0, xq_TooLong1, xq_TooLong2, xq_TooLong3, xq_TooLong5, xl_TooLong, rfl⟩, xsa_TooLong, xex_TooLong, xty_TooLong, xk_TooLong⟩,
    xf_TooLong := ⟨xga_TooLong, xgg_TooLong, xex_TooLong, xhd_TooLong⟩, xe_TooLong := ⟨xga_TooLong, xgg_TooLong, xex_TooLong, xhd_TooLong, xcl_TooLong, xsp, xtk, xmo_TooLong⟩,
    xi_TooLong := mf_TooLong_init, xt_TooLong := xt_TooLong,
    nx_TooLong_row := nx_TooLong_row,
    ki_TooLong_Broad := kit_ref su_TooLong_Broad su_TooLong_TooLong ic_Broad xty_Broad,
    ki_TooLong_Done := kit_ref su_TooLong_Done su_TooLong_TooLong ic_Done xty_Done,
    ki_TooLong_Idle := kit_ref su_TooLong_Idle su_TooLong_TooLong ic_Idle xty_Idle,
    ki_TooLong_Long := kit_ref su_TooLong_Long su_TooLong_TooLong ic_Long xty_Long,
    ki_TooLong_NoBeat := kit_ref su_TooLong_NoBeat su_TooLong_TooLong ic_NoBeat xty_NoBeat,
    ki_TooLong_NoBook := kit_ref su_TooLong_NoBook su_TooLong_TooLong ic_NoBook xty_NoBook,
    ki_TooLong_NoLimb := kit_ref su_TooLong_NoLimb su_TooLong_TooLong ic_NoLimb xty_NoLimb,
    ki_TooLong_NoName := kit_ref su_TooLong_NoName su_TooLong_TooLong ic_NoName xty_NoName,
    ki_TooLong_NoPins := kit_ref su_TooLong_NoPins su_TooLong_TooLong ic_NoPins xty_NoPins,
    ki_TooLong_NoRow := kit_ref su_TooLong_NoRow su_TooLong_TooLong ic_NoRow xty_NoRow,
    ki_TooLong_PlayError := kit_ref su_TooLong_PlayError su_TooLong_TooLong ic_PlayError xty_PlayError,
    ki_TooLong_TooLong := kit_ref su_TooLong_TooLong su_TooLong_TooLong ic_TooLong xty_TooLong,
    ki_TooLong_TwoHands := kit_ref su_TooLong_TwoHands su_TooLong_TooLong ic_TwoHands xty_TwoHands,
    ki_TooLong_ValueError := kit_tyx (by decide +kernel) su_TooLong_ValueError,
    g_ValueError := PySem.W.mg_none_of X G g_ValueError,
    g_isinstance := PySem.W.mg_none_of X G g_isinstance,
    g_len := PySem.W.mg_none_of X G g_len,
    g_max := PySem.W.mg_none_of X G g_max,
    g_min := PySem.W.mg_none_of X G g_min,
    g_range := PySem.W.mg_none_of X G g_range }
  exact ⟨_, fun s v => .of_eq rfl, fun base _ _ => (ok_law (P := l.prog) (w := w) (base := base) T).imp fun vs H Q E h => law_sp T h⟩
theorem walk {l : PySem.W.OpenLaw} {q : Program} {loose : List Str} {XP : (Str → Option Value) → Heap → Prop} {YP : World → Heap → Prop} {d : DefRec} {K : Params → PySem.W.Frag} (hn : l.most = some 63) (hdf : d.params.defaults = [])
    (hY : ∀ (w : World) (h : Heap), YP w h → (K w.params).In h)
    (F : ∀ (w : World) (mg : Str → Option Value) (fa : Addr) (h : Heap), (K w.params).In h → h.Ns mainGlobals mg → mg d.name = some (.ref fa) →
      ∃ fd : FuncData, (∀ (s : Shared) (u : Value), BindsTo s fd ⟨[u], []⟩ [("script", u)]) ∧ ∀ base : Heap, (K w.params).In base → base.Ns mainGlobals mg → FnOk l.prog w (K w.params) mg base (L2.CX l.prog w) 3 fa fd ["script"] (spLaw (K w.params))) :
    PySem.W.WalkO q loose XP YP l.row.toRowW d [] (fun f vs => PySem.call f vs) :=
  L2.walk_of (n := 63) (k := 3) (x := "script") (CX := fun w => L2.CX l.prog w) (sp := fun w => spLaw (K w.params)) hn (by decide) hdf ⟨rfl, by decide, by decide⟩ hY F (fun _ _ a ns hl _ hS => ⟨a, ns, rfl, hS, hl, fun _ => rfl⟩) (fun w => cx_end w)
end DL.Law
open PySem PySem.W PyProof.Rows
set_option maxRecDepth 100000 in
set_option maxHeartbeats 0 in
theorem PySem.Challenge.cw_camplay_k60_refusals_made_by_hand_holds : PySem.Challenge.rw_camplay_k60_refusals_made_by_hand.Holds := by
  w_on; o_law; k_head; (case hw => w_witness2)
  k_fill
  refine DL.Law.walk (l := PySem.Challenge.rw_camplay_k60_refusals_made_by_hand) rfl rfl (fun w h Y => PySem.W.kIn_of Y) ?F
  case F =>
    intro w mg fa h KX G hmg
    refine' DL.Law.all_mk KX G hmg ?mc_PlayError ?mc_NoBook ?mc_Idle ?mc_TwoHands ?mc_TooLong ?mc_Long ?mc_NoBeat ?mc_Done ?mc_NoPins ?mc_Broad ?mc_NoRow ?mc_NoName ?mc_NoLimb ?mf_x_law_cell_at ?lk_x_law_cell_at ?co_x_law_cell_at ?kp_x_law_cell_at ?mf_x_law_word ?lk_x_law_word ?co_x_law_word ?kp_x_law_word ?mf_NoBook_init ?fi_NoBook_init ?lk_NoBook_init ?co_NoBook_init ?kp_NoBook_init ?mf_Idle_init ?fi_Idle_init ?lk_Idle_init ?co_Idle_init ?kp_Idle_init ?mf_TooLong_init ?fi_TooLong_init ?lk_TooLong_init ?co_TooLong_init ?kp_TooLong_init ?mf_x_law_kinds ?lk_x_law_kinds ?co_x_law_kinds ?kp_x_law_kinds ?mf_TwoHands_init ?fi_TwoHands_init ?lk_TwoHands_init ?co_TwoHands_init ?kp_TwoHands_init ?mf_law ?lk_law ?co_law ?kp_law ?xl_NoBook ?xsa_NoBook ?xga_NoBook ?xgg_NoBook ?xex_NoBook ?xty_NoBook ?xk_NoBook ?xhd_NoBook ?xcl_NoBook ?xmo_NoBook ?xt_NoBook ?nx_NoBook_row ?su_NoBook_Broad ?su_NoBook_Done ?su_NoBook_Idle ?su_NoBook_Long ?su_NoBook_NoBeat ?su_NoBook_NoLimb ?su_NoBook_NoName ?su_NoBook_NoPins ?su_NoBook_NoRow ?su_NoBook_PlayError ?su_NoBook_TooLong ?su_NoBook_TwoHands ?su_NoBook_ValueError ?su_NoBook_NoBook ?xl_Idle ?xsa_Idle ?xga_Idle ?xgg_Idle ?xex_Idle ?xty_Idle ?xk_Idle ?xhd_Idle ?xcl_Idle ?xmo_Idle ?xt_Idle ?nx_Idle_row ?su_Idle_Broad ?su_Idle_Done ?su_Idle_Long ?su_Idle_NoBeat ?su_Idle_NoBook ?su_Idle_NoLimb ?su_Idle_NoName ?su_Idle_NoPins ?su_Idle_NoRow ?su_Idle_PlayError ?su_Idle_TooLong ?su_Idle_TwoHands ?su_Idle_ValueError ?su_Idle_Idle ?xl_TwoHands ?xsa_TwoHands ?xga_TwoHands ?xgg_TwoHands ?xex_TwoHands ?xty_TwoHands ?xk_TwoHands ?xhd_TwoHands ?xcl_TwoHands ?xmo_TwoHands ?xt_TwoHands ?nx_TwoHands_row ?nx_TwoHands_limb ?su_TwoHands_Broad ?su_TwoHands_Done ?su_TwoHands_Idle ?su_TwoHands_Long ?su_TwoHands_NoBeat ?su_TwoHands_NoBook ?su_TwoHands_NoLimb ?su_TwoHands_NoName ?su_TwoHands_NoPins ?su_TwoHands_NoRow ?su_TwoHands_PlayError ?su_TwoHands_TooLong ?su_TwoHands_ValueError ?su_TwoHands_TwoHands ?xl_TooLong ?xsa_TooLong ?xga_TooLong ?xgg_TooLong ?xex_TooLong ?xty_TooLong ?xk_TooLong ?xhd_TooLong ?xcl_TooLong ?xmo_TooLong ?xt_TooLong ?nx_TooLong_row ?su_TooLong_Broad ?su_TooLong_Done ?su_TooLong_Idle ?su_TooLong_Long ?su_TooLong_NoBeat ?su_TooLong_NoBook ?su_TooLong_NoLimb ?su_TooLong_NoName ?su_TooLong_NoPins ?su_TooLong_NoRow ?su_TooLong_PlayError ?su_TooLong_TwoHands ?su_TooLong_ValueError ?su_TooLong_TooLong ?ic_Broad ?xty_Broad ?ic_Done ?xty_Done ?ic_Idle ?ic_Long ?xty_Long ?ic_NoBeat ?xty_NoBeat ?ic_NoBook ?ic_NoLimb ?xty_NoLimb ?ic_NoName ?xty_NoName ?ic_NoPins ?xty_NoPins ?ic_NoRow ?xty_NoRow ?ic_PlayError ?xty_PlayError ?ic_TooLong ?ic_TwoHands ?xsp ?xtk ?g_ValueError ?g_isinstance ?g_len ?g_max ?g_min ?g_range
    (case mc_PlayError => k_is)
    (case mc_NoBook => k_is)
    (case mc_Idle => k_is)
    (case mc_TwoHands => k_is)
    (case mc_TooLong => k_is)
    (case mc_Long => k_is)
    (case mc_NoBeat => k_is)
    (case mc_Done => k_is)
    (case mc_NoPins => k_is)
    (case mc_Broad => k_is)
    (case mc_NoRow => k_is)
    (case mc_NoName => k_is)
    (case mc_NoLimb => k_is)
    (case mf_x_law_cell_at => k_is)
    (case lk_x_law_cell_at => k_is)
    (case co_x_law_cell_at => k_is)
    (case kp_x_law_cell_at => k_is)
    (case mf_x_law_word => k_is)
    (case lk_x_law_word => k_is)
    (case co_x_law_word => k_is)
    (case kp_x_law_word => k_is)
    (case mf_NoBook_init => k_is)
    (case fi_NoBook_init => k_is)
    (case lk_NoBook_init => k_is)
    (case co_NoBook_init => k_is)
    (case kp_NoBook_init => k_is)
    (case mf_Idle_init => k_is)
    (case fi_Idle_init => k_is)
    (case lk_Idle_init => k_is)
    (case co_Idle_init => k_is)
    (case kp_Idle_init => k_is)
    (case mf_TooLong_init => k_is)
    (case fi_TooLong_init => k_is)
    (case lk_TooLong_init => k_is)
    (case co_TooLong_init => k_is)
    (case kp_TooLong_init => k_is)
    (case mf_x_law_kinds => k_is)
    (case lk_x_law_kinds => k_is)
    (case co_x_law_kinds => k_is)
    (case kp_x_law_kinds => k_is)
    (case mf_TwoHands_init => k_is)
    (case fi_TwoHands_init => k_is)
    (case lk_TwoHands_init => k_is)
    (case co_TwoHands_init => k_is)
    (case kp_TwoHands_init => k_is)
    (case mf_law => k_is)
    (case lk_law => k_is)
    (case co_law => k_is)
    (case kp_law => k_is)
    (case xl_NoBook => k_is)
    (case xsa_NoBook => k_is)
    (case xga_NoBook => k_is)
    (case xgg_NoBook => k_is)
    (case xex_NoBook => k_is)
    (case xty_NoBook => k_is)
    (case xk_NoBook => k_is)
    (case xhd_NoBook => k_is)
    (case xcl_NoBook => k_is)
    (case xmo_NoBook => k_is)
    (case xt_NoBook => k_is)
    (case nx_NoBook_row => k_is)
    (case su_NoBook_Broad => k_is)
    (case su_NoBook_Done => k_is)
    (case su_NoBook_Idle => k_is)
    (case su_NoBook_Long => k_is)
    (case su_NoBook_NoBeat => k_is)
    (case su_NoBook_NoLimb => k_is)
    (case su_NoBook_NoName => k_is)
    (case su_NoBook_NoPins => k_is)
    (case su_NoBook_NoRow => k_is)
    (case su_NoBook_PlayError => k_is)
    (case su_NoBook_TooLong => k_is)
    (case su_NoBook_TwoHands => k_is)
    (case su_NoBook_ValueError => k_is)
    (case su_NoBook_NoBook => first | rfl | k_is)
    (case xl_Idle => k_is)
    (case xsa_Idle => k_is)
    (case xga_Idle => k_is)
    (case xgg_Idle => k_is)
    (case xex_Idle => k_is)
    (case xty_Idle => k_is)
    (case xk_Idle => k_is)
    (case xhd_Idle => k_is)
    (case xcl_Idle => k_is)
    (case xmo_Idle => k_is)
    (case xt_Idle => k_is)
    (case nx_Idle_row => k_is)
    (case su_Idle_Broad => k_is)
    (case su_Idle_Done => k_is)
    (case su_Idle_Long => k_is)
    (case su_Idle_NoBeat => k_is)
    (case su_Idle_NoBook => k_is)
    (case su_Idle_NoLimb => k_is)
    (case su_Idle_NoName => k_is)
    (case su_Idle_NoPins => k_is)
    (case su_Idle_NoRow => k_is)
    (case su_Idle_PlayError => k_is)
    (case su_Idle_TooLong => k_is)
    (case su_Idle_TwoHands => k_is)
    (case su_Idle_ValueError => k_is)
    (case su_Idle_Idle => first | rfl | k_is)
    (case xl_TwoHands => k_is)
    (case xsa_TwoHands => k_is)
    (case xga_TwoHands => k_is)
    (case xgg_TwoHands => k_is)
    (case xex_TwoHands => k_is)
    (case xty_TwoHands => k_is)
    (case xk_TwoHands => k_is)
    (case xhd_TwoHands => k_is)
    (case xcl_TwoHands => k_is)
    (case xmo_TwoHands => k_is)
    (case xt_TwoHands => k_is)
    (case nx_TwoHands_row => k_is)
    (case nx_TwoHands_limb => k_is)
    (case su_TwoHands_Broad => k_is)
    (case su_TwoHands_Done => k_is)
    (case su_TwoHands_Idle => k_is)
    (case su_TwoHands_Long => k_is)
    (case su_TwoHands_NoBeat => k_is)
    (case su_TwoHands_NoBook => k_is)
    (case su_TwoHands_NoLimb => k_is)
    (case su_TwoHands_NoName => k_is)
    (case su_TwoHands_NoPins => k_is)
    (case su_TwoHands_NoRow => k_is)
    (case su_TwoHands_PlayError => k_is)
    (case su_TwoHands_TooLong => k_is)
    (case su_TwoHands_ValueError => k_is)
    (case su_TwoHands_TwoHands => first | rfl | k_is)
    (case xl_TooLong => k_is)
    (case xsa_TooLong => k_is)
    (case xga_TooLong => k_is)
    (case xgg_TooLong => k_is)
    (case xex_TooLong => k_is)
    (case xty_TooLong => k_is)
    (case xk_TooLong => k_is)
    (case xhd_TooLong => k_is)
    (case xcl_TooLong => k_is)
    (case xmo_TooLong => k_is)
    (case xt_TooLong => k_is)
    (case nx_TooLong_row => k_is)
    (case su_TooLong_Broad => k_is)
    (case su_TooLong_Done => k_is)
    (case su_TooLong_Idle => k_is)
    (case su_TooLong_Long => k_is)
    (case su_TooLong_NoBeat => k_is)
    (case su_TooLong_NoBook => k_is)
    (case su_TooLong_NoLimb => k_is)
    (case su_TooLong_NoName => k_is)
    (case su_TooLong_NoPins => k_is)
    (case su_TooLong_NoRow => k_is)
    (case su_TooLong_PlayError => k_is)
    (case su_TooLong_TwoHands => k_is)
    (case su_TooLong_ValueError => k_is)
    (case su_TooLong_TooLong => first | rfl | k_is)
    (case ic_Broad => k_is)
    (case xty_Broad => k_is)
    (case ic_Done => k_is)
    (case xty_Done => k_is)
    (case ic_Idle => k_is)
    (case ic_Long => k_is)
    (case xty_Long => k_is)
    (case ic_NoBeat => k_is)
    (case xty_NoBeat => k_is)
    (case ic_NoBook => k_is)
    (case ic_NoLimb => k_is)
    (case xty_NoLimb => k_is)
    (case ic_NoName => k_is)
    (case xty_NoName => k_is)
    (case ic_NoPins => k_is)
    (case xty_NoPins => k_is)
    (case ic_NoRow => k_is)
    (case xty_NoRow => k_is)
    (case ic_PlayError => k_is)
    (case xty_PlayError => k_is)
    (case ic_TooLong => k_is)
    (case ic_TwoHands => k_is)
    (case xsp => k_is)
    (case xtk => k_is)
    (case g_ValueError => k_is)
    (case g_isinstance => k_is)
    (case g_len => k_is)
    (case g_max => k_is)
    (case g_min => k_is)
    (case g_range => k_is)
