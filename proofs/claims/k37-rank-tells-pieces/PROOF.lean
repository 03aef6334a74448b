import PyProof.Rows.All
import Wide.All
import OpenK.AllK
import Wide.FinOn
import KE.KDictKeyed
import KE.KDictLaw
import HandS.ForMost
import HandS.Flow
import HandS.Exc
import HandS.ExcOwn
import HandS.ExcCtx
import HandS.ExcInit
import HandS.ExcField
import HandS.ExcIs
import HandS.HotCalls
import HandS.Defaults
import HandS.Nested
import HandS.Wide
import HandS.IsInst
import HandS.StrMore
import HandS.TupAny
import HandS.Style
import KE.DataEq
import KE.KSuper
import KE.KExcSuper
import KE.KExcIs
import HandS.Small
import KE.SortData
import PyProof.Rows.StrRev
import HandS.More
import KE.GoesComp
import KE.KStateDown
import HandS.Head0
import HandS.Head1
import HandS.Head2
import HandS.HeadEnd
import HandS.HeadHook1
import HandS.HeadHook2
import KE.KExcInit
import HandS.MakeKwOnly
import HandS.CallSlots
import HandS.TupLen
import HandS.Conv
import PyProof.StrOps2
import PyProof.Rows.SeqMore
import KE.DataMinMax
import KE.SortCalls
import KE.KDictList
import HandS.SortKw
import KE.GoesMore
import HandS.WideBits
import HandS.ExcValue
import KE.KDictCopyH
import KE.KDictSum
import HandS.FStr
import KE.KTreeF
import PySem.Challenge.RW_nocounters_k37_rank_tells_pieces
/-! ## D2Core -/
set_option Elab.async false
set_option linter.all false
set_option maxRecDepth 100000
set_option maxHeartbeats 2000000
/-! D2: a def is walked over data. Slots hold data that never change again (dat), or the address of an object that this
walk owns (own); the owned objects stand in a list (Mem). -/
namespace D2
open PySem PySem.Spec PyProof.Rows L2

inductive D where
  | non | bl (b : Bool) | int (i : Int) | str (s : List Nat) | lst (xs : List D) | tup (xs : List D) | dk (kvs : List (Key × D)) | raw (v : V) | ins (C : Addr) (fs : List (Str × D))

abbrev sOf (l : List Nat) : Str := ⟨l.toArray⟩
abbrev lit (x : Str) : List Nat := x.cps.toList
theorem sOf_lit (x : Str) : sOf (lit x) = x := by cases x; simp [sOf, lit]
theorem lit_sOf (l : List Nat) : lit (sOf l) = l := by simp [sOf, lit]

/-! ### data in the part of the heap that stays -/
mutual
inductive Rep (K : PySem.W.Frag) (G : Hp) : D → V → Prop
  | non : Rep K G .non .non
  | bl {b} : Rep K G (.bl b) (.bl b)
  | int {i} : Rep K G (.int i) (.int i)
  | str {s} : Rep K G (.str s) (.str (sOf s))
  | lst {a xs vs} : SqL K G a vs → Reps K G xs vs → Rep K G (.lst xs) (.ref a)
  | tup {a xs vs} : SqT K G a vs → Reps K G xs vs → Rep K G (.tup xs) (.ref a)
  | dk {a xs vs o} : G a = some (.frz o (.dK vs)) → Repk K G xs vs → Rep K G (.dk xs) (.ref a)
  | raw {v} : Rep K G (.raw v) v
  | ins {a C dx xs vs} : G a = some (.ins C dx vs) → RepF K G xs vs → Rep K G (.ins C xs) (.ref a)
inductive Reps (K : PySem.W.Frag) (G : Hp) : List D → List V → Prop
  | nil : Reps K G [] []
  | cons {x v xs vs} : Rep K G x v → Reps K G xs vs → Reps K G (x :: xs) (v :: vs)
inductive Repk (K : PySem.W.Frag) (G : Hp) : List (Key × D) → List (Key × V) → Prop
  | nil : Repk K G [] []
  | cons {k x v xs vs} : Rep K G x v → Repk K G xs vs → Repk K G ((k, x) :: xs) ((k, v) :: vs)
inductive RepF (K : PySem.W.Frag) (G : Hp) : List (Str × D) → List (Str × V) → Prop
  | nil : RepF K G [] []
  | cons {k x v xs vs} : Rep K G x v → RepF K G xs vs → RepF K G ((k, x) :: xs) ((k, v) :: vs)
end

def Ex (H H' : Hp) : Prop := ∀ a o, H a = some o → H' a = some o
theorem Ex.refl (H : Hp) : Ex H H := fun _ _ h => h
theorem Ex.trans {H H1 H2 : Hp} (a : Ex H H1) (b : Ex H1 H2) : Ex H H2 := fun x o h => b x o (a x o h)
theorem Ex.new {H : Hp} {p : Addr} {o : HO} (h : H p = none) : Ex H (upd H p o) := fun a u e => by
  rw [upd_ne (ne_of_none e h)]; exact e
theorem Ex.upd {G H : Hp} {p : Addr} {o : HO} (e : Ex G H) (h : G p = none) : Ex G (upd H p o) := fun a u ha => by
  rw [upd_ne (ne_of_none ha h)]; exact e a u ha
theorem Ex.both {G H : Hp} {p : Addr} {o : HO} (e : Ex G H) : Ex (L2.upd G p o) (L2.upd H p o) := fun a u ha => by
  by_cases h : a = p
  · subst h; rw [upd_same] at ha ⊢; exact ha
  · rw [upd_ne h] at ha ⊢; exact e a u ha
theorem Ex.back {H H' : Hp} {p : Addr} (e : Ex H H') (h : H' p = none) : H p = none := by
  cases h1 : H p with
  | none => rfl
  | some o => rw [e p o h1] at h; cases h
theorem ex_rd {H H' : Hp} {a : Addr} {u : HO} (e : Ex H H') (h : Rd H a u) : Rd H' a u := by
  rcases h with h | ⟨o, h⟩
  · exact Or.inl (e a _ h)
  · exact Or.inr ⟨o, e a _ h⟩
theorem ex_l {K : PySem.W.Frag} {H H' : Hp} {a : Addr} {xs : List V} (e : Ex H H') (h : SqL K H a xs) : SqL K H' a xs := h.imp (ex_rd e) id
theorem ex_t {K : PySem.W.Frag} {H H' : Hp} {a : Addr} {xs : List V} (e : Ex H H') (h : SqT K H a xs) : SqT K H' a xs := h.imp (ex_rd e) id

mutual
theorem Rep.mono {K : PySem.W.Frag} {G G' : Hp} (e : Ex G G') : ∀ {d : D} {v : V}, Rep K G d v → Rep K G' d v
  | _, _, .non => .non
  | _, _, .bl => .bl
  | _, _, .int => .int
  | _, _, .str => .str
  | _, _, .lst h r => .lst (ex_l e h) (Reps.mono e r)
  | _, _, .tup h r => .tup (ex_t e h) (Reps.mono e r)
  | _, _, .dk h r => .dk (e _ _ h) (Repk.mono e r)
  | _, _, .raw => .raw
  | _, _, .ins h r => .ins (e _ _ h) (RepF.mono e r)
theorem Reps.mono {K : PySem.W.Frag} {G G' : Hp} (e : Ex G G') : ∀ {d : List D} {v : List V}, Reps K G d v → Reps K G' d v
  | _, _, .nil => .nil
  | _, _, .cons h r => .cons (Rep.mono e h) (Reps.mono e r)
theorem Repk.mono {K : PySem.W.Frag} {G G' : Hp} (e : Ex G G') : ∀ {d : List (Key × D)} {v : List (Key × V)}, Repk K G d v → Repk K G' d v
  | _, _, .nil => .nil
  | _, _, .cons h r => .cons (Rep.mono e h) (Repk.mono e r)
theorem RepF.mono {K : PySem.W.Frag} {G G' : Hp} (e : Ex G G') : ∀ {d : List (Str × D)} {v : List (Str × V)}, RepF K G d v → RepF K G' d v
  | _, _, .nil => .nil
  | _, _, .cons h r => .cons (Rep.mono e h) (RepF.mono e r)
end

/-! ### values of the walk, owned objects -/
inductive R where
  | dat (d : D) | own (a : Addr)
inductive O where
  | lst (rs : List R) | dk (kvs : List (Key × R)) | any (o : HO) | dn (P : Program) (w : World) (a : Addr) (kvs : List (NestedKey × R)) | vw (v a : Addr) (xs : List (Key × D)) | ins (C dx : Addr) (fs : List (Str × R))
abbrev Mem := List (Addr × O)
abbrev Sl := List (Str × Option R)

inductive RelR (K : PySem.W.Frag) (G : Hp) : R → V → Prop
  | dat {d v} : Rep K G d v → RelR K G (.dat d) v
  | own {a} : RelR K G (.own a) (.ref a)
inductive RelRs (K : PySem.W.Frag) (G : Hp) : List R → List V → Prop
  | nil : RelRs K G [] []
  | cons {r v rs vs} : RelR K G r v → RelRs K G rs vs → RelRs K G (r :: rs) (v :: vs)
inductive RelK (K : PySem.W.Frag) (G : Hp) : List (Key × R) → List (Key × V) → Prop
  | nil : RelK K G [] []
  | cons {k r v rs vs} : RelR K G r v → RelK K G rs vs → RelK K G ((k, r) :: rs) ((k, v) :: vs)
inductive RelF (K : PySem.W.Frag) (G : Hp) : List (Str × R) → List (Str × V) → Prop
  | nil : RelF K G [] []
  | cons {k r v rs vs} : RelR K G r v → RelF K G rs vs → RelF K G ((k, r) :: rs) ((k, v) :: vs)
/-! a dict with nested keys -/
mutual
def nD : NestedKey → D
  | .none => .non
  | .num i => .int i
  | .text x => .str (lit x)
  | .tup ks => .tup (nDs ks)
def nDs : List NestedKey → List D
  | [] => []
  | k :: ks => nD k :: nDs ks
end
/-- its object: the keys' places are known, the keys themselves are data -/
def dnO (P : Program) (w : World) (a : Addr) (xs : List (NestedKey × Addr × V)) : HO := .ext fun h => (a == sysModules) = false ∧ ∃ (ys : List (NestedKey × Addr × Value)) (o : Obj) (es : Array DictEntry) (ep : Nat),
  Paired (fun (p : NestedKey × Addr × V) (q : NestedKey × Addr × Value) => p.1 = q.1 ∧ p.2.1 = q.2.1 ∧ RelV p.2.2 q.2.2) xs ys ∧ h.get? a = some o ∧ o.ExactDict ∧ o.data = .dict es ep ∧ es.toList = ys.map (entryOfKey (nestedKind P w)) ∧ (ys.map (·.1)).Nodup
def KeyAt (K : PySem.W.Frag) (G : Hp) (k : NestedKey) (b : Addr) : Prop := Rep K G (nD k) (.ref b) ∧ k.depth ≤ 8
inductive RelN (K : PySem.W.Frag) (G : Hp) : List (NestedKey × R) → List (NestedKey × Addr × V) → Prop
  | nil : RelN K G [] []
  | cons {k r b v kvs xs} : KeyAt K G k b → RelR K G r v → RelN K G kvs xs → RelN K G ((k, r) :: kvs) ((k, b, v) :: xs)
/-- d.values() of the dict at a -/
def vwO (v a : Addr) : HO := .ext fun h => ∃ sl : Array (Option Value), h.get? v = some { cls := .type "dict_values", dict := none, data := .fields #[.ref a], slots := sl }
inductive RelO (K : PySem.W.Frag) (G : Hp) : O → HO → Prop
  | lst {rs vs} : RelRs K G rs vs → RelO K G (.lst rs) (.lst vs)
  | dk {rs vs} : RelK K G rs vs → RelO K G (.dk rs) (.dK vs)
  | any {o} : RelO K G (.any o) o
  | dn {P w a kvs xs} : RelN K G kvs xs → RelO K G (.dn P w a kvs) (dnO P w a xs)
  | vw {v a xs} : Rep K G (.dk xs) (.ref a) → RelO K G (.vw v a xs) (vwO v a)
  | ins {C dx rs vs} : RelF K G rs vs → RelO K G (.ins C dx rs) (.ins C dx vs)
section
variable {K : PySem.W.Frag} {G G' : Hp}
theorem RelR.mono (e : Ex G G') {r : R} {v : V} (h : RelR K G r v) : RelR K G' r v := by
  cases h with
  | dat h => exact .dat (h.mono e)
  | own => exact .own
theorem RelRs.mono (e : Ex G G') : ∀ {r : List R} {v : List V}, RelRs K G r v → RelRs K G' r v
  | _, _, .nil => .nil
  | _, _, .cons h t => .cons (h.mono e) (RelRs.mono e t)
theorem RelK.mono (e : Ex G G') : ∀ {r : List (Key × R)} {v : List (Key × V)}, RelK K G r v → RelK K G' r v
  | _, _, .nil => .nil
  | _, _, .cons h t => .cons (h.mono e) (RelK.mono e t)
theorem RelF.mono (e : Ex G G') : ∀ {r : List (Str × R)} {v : List (Str × V)}, RelF K G r v → RelF K G' r v
  | _, _, .nil => .nil
  | _, _, .cons h t => .cons (h.mono e) (RelF.mono e t)
theorem RelN.mono (e : Ex G G') {kvs : List (NestedKey × R)} {xs : List (NestedKey × Addr × V)} (h : RelN K G kvs xs) : RelN K G' kvs xs := by
  induction h with
  | nil => exact .nil
  | cons a b _ ih => exact .cons ⟨a.1.mono e, a.2⟩ (b.mono e) ih
theorem RelO.mono (e : Ex G G') {o : O} {h : HO} (x : RelO K G o h) : RelO K G' o h := by
  cases x with
  | lst h => exact .lst (h.mono e)
  | dk h => exact .dk (h.mono e)
  | any => exact .any
  | dn h => exact .dn (h.mono e)
  | vw h => exact .vw (h.mono e)
  | ins h => exact .ins (h.mono e)
theorem RelRs.length : ∀ {r : List R} {v : List V}, RelRs K G r v → r.length = v.length
  | _, _, .nil => rfl
  | _, _, .cons _ t => by simp [RelRs.length t]
theorem Reps.length : ∀ {r : List D} {v : List V}, Reps K G r v → r.length = v.length
  | _, _, .nil => rfl
  | _, _, .cons _ t => by simp [Reps.length t]
theorem Reps.rel : ∀ {r : List D} {v : List V}, Reps K G r v → RelRs K G (r.map .dat) v
  | _, _, .nil => .nil
  | _, _, .cons h t => .cons (.dat h) t.rel
theorem RelRs.reps : ∀ {r : List D} {v : List V}, RelRs K G (r.map .dat) v → Reps K G r v
  | [], _, .nil => .nil
  | _ :: _, _, .cons (.dat h) t => .cons h t.reps
theorem RelRs.get : ∀ {r : List R} {v : List V} {i : Nat} {x : R}, RelRs K G r v → r[i]? = some x → ∃ u, v[i]? = some u ∧ RelR K G x u
  | _, _, _, _, .nil, e => by simp at e
  | _, _, 0, _, .cons h _, e => by simp at e; subst e; exact ⟨_, rfl, h⟩
  | _, _, i + 1, x, .cons _ t, e => by
    obtain ⟨u, h1, h2⟩ := RelRs.get (i := i) (x := x) t (by simpa using e)
    exact ⟨u, by simpa using h1, h2⟩
theorem RelRs.get' : ∀ {r : List R} {v : List V} {i : Nat} {u : V}, RelRs K G r v → v[i]? = some u → ∃ x, r[i]? = some x ∧ RelR K G x u
  | _, _, _, _, .nil, e => by simp at e
  | _, _, 0, _, .cons h _, e => by simp at e; subst e; exact ⟨_, rfl, h⟩
  | _, _, i + 1, u, .cons _ t, e => by
    obtain ⟨x, h1, h2⟩ := RelRs.get' (i := i) (u := u) t (by simpa using e)
    exact ⟨x, by simpa using h1, h2⟩
theorem RelRs.append : ∀ {r r' : List R} {v v' : List V}, RelRs K G r v → RelRs K G r' v' → RelRs K G (r ++ r') (v ++ v')
  | _, _, _, _, .nil, h => h
  | _, _, _, _, .cons h t, h' => .cons h (t.append h')
theorem RelRs.set : ∀ {r : List R} {v : List V} {x : R} {u : V} (i : Nat), RelRs K G r v → RelR K G x u → RelRs K G (r.set i x) (v.set i u)
  | _, _, _, _, _, .nil, _ => .nil
  | _, _, _, _, 0, .cons _ t, h => .cons h t
  | _, _, _, _, i + 1, .cons h' t, h => .cons h' (t.set i h)
theorem RelRs.drop : ∀ {r : List R} {v : List V} (i : Nat), RelRs K G r v → RelRs K G (r.drop i) (v.drop i)
  | _, _, 0, h => h
  | _, _, _ + 1, .nil => .nil
  | _, _, i + 1, .cons _ t => t.drop i
theorem RelRs.take : ∀ {r : List R} {v : List V} (i : Nat), RelRs K G r v → RelRs K G (r.take i) (v.take i)
  | _, _, 0, _ => .nil
  | _, _, _ + 1, .nil => .nil
  | _, _, i + 1, .cons h t => .cons h (t.take i)
end

/-! ### slots by name -/
inductive Lk : Sl → Str → R → Prop
  | here {x r σ} : Lk ((x, some r) :: σ) x r
  | there {p x r σ} : Lk σ x r → Lk (p :: σ) x r
theorem Lk.ix {σ : Sl} {x : Str} {r : R} (h : Lk σ x r) : ∃ i : Nat, σ[i]? = some (x, some r) := by
  induction h with
  | here => exact ⟨0, rfl⟩
  | there _ ih => obtain ⟨i, e⟩ := ih; exact ⟨i + 1, by simpa using e⟩
inductive Put : Sl → Str → R → Sl → Prop
  | here {x r o σ} : Put ((x, o) :: σ) x r ((x, some r) :: σ)
  | there {p x r σ σ'} : Put σ x r σ' → Put (p :: σ) x r (p :: σ')
theorem Put.ix {σ σ' : Sl} {x : Str} {r : R} (h : Put σ x r σ') : ∃ (i : Nat) (o : Option R), σ[i]? = some (x, o) ∧ σ' = σ.set i (x, some r) := by
  induction h with
  | @here x r o σ => exact ⟨0, o, rfl, rfl⟩
  | there _ ih => obtain ⟨i, o, e, q⟩ := ih; exact ⟨i + 1, o, by simpa using e, by rw [q]; rfl⟩
/-! ### owned objects by address -/
inductive Has : Mem → Addr → O → Mem → Prop
  | here {a o m} : Has ((a, o) :: m) a o m
  | there {p a o m m'} : Has m a o m' → Has (p :: m) a o (p :: m')
inductive Chg : Mem → Addr → O → O → Mem → Prop
  | here {a o o' m} : Chg ((a, o) :: m) a o o' ((a, o') :: m)
  | there {p a o o' m m'} : Chg m a o o' m' → Chg (p :: m) a o o' (p :: m')
theorem Has.mem {m m' : Mem} {a : Addr} {o : O} (h : Has m a o m') : (a, o) ∈ m := by
  induction h with
  | here => exact List.mem_cons_self
  | there _ ih => exact List.mem_cons_of_mem _ ih
theorem Has.sub {m m' : Mem} {a : Addr} {o : O} (h : Has m a o m') : m'.Sublist m := by
  induction h with
  | here => exact List.sublist_cons_self _ _
  | there _ ih => exact ih.cons_cons _
theorem Has.notIn {m m' : Mem} {a : Addr} {o : O} (h : Has m a o m') (nd : (m.map (·.1)).Nodup) : ∀ p ∈ m', p.1 ≠ a := by
  induction h with
  | @here a o m => 
    intro p hp e
    exact (List.nodup_cons.mp nd).1 (List.mem_map.mpr ⟨p, hp, e⟩)
  | @there q a o m m' h ih =>
    intro p hp
    rcases List.mem_cons.mp hp with rfl | hp
    · intro e
      exact (List.nodup_cons.mp nd).1 (List.mem_map.mpr ⟨(a, o), h.mem, e.symm⟩)
    · exact ih (List.nodup_cons.mp nd).2 p hp
theorem Chg.mem {m m' : Mem} {a : Addr} {o o' : O} (h : Chg m a o o' m') : (a, o) ∈ m := by
  induction h with
  | here => exact List.mem_cons_self
  | there _ ih => exact List.mem_cons_of_mem _ ih
theorem Chg.keys {m m' : Mem} {a : Addr} {o o' : O} (h : Chg m a o o' m') : m'.map (·.1) = m.map (·.1) := by
  induction h with
  | here => rfl
  | there _ ih => simp [ih]
theorem Chg.of {m m' : Mem} {a : Addr} {o o' : O} (h : Chg m a o o' m') (nd : (m.map (·.1)).Nodup) : ∀ p ∈ m', p = (a, o') ∨ (p ∈ m ∧ p.1 ≠ a) := by
  induction h with
  | @here a o o' m =>
    intro p hp
    rcases List.mem_cons.mp hp with rfl | hp
    · exact .inl rfl
    · refine .inr ⟨List.mem_cons_of_mem _ hp, fun e => ?_⟩
      exact (List.nodup_cons.mp nd).1 (List.mem_map.mpr ⟨p, hp, e⟩)
  | @there q a o o' m m' h ih =>
    intro p hp
    rcases List.mem_cons.mp hp with rfl | hp
    · refine .inr ⟨List.mem_cons_self, fun e => ?_⟩
      exact (List.nodup_cons.mp nd).1 (List.mem_map.mpr ⟨(a, o), h.mem, e.symm⟩)
    · rcases ih (List.nodup_cons.mp nd).2 p hp with z | z
      · exact .inl z
      · exact .inr ⟨List.mem_cons_of_mem _ z.1, z.2⟩

/-! ### the state of a walk -/
/-- the walk's own context: the heap at the def's entry, what it may change, what it wishes of exceptions (slots, owned, class, fields) -/
structure Ct where
  H0 : Hp
  G0 : Hp
  mu : List Addr
  ex : Sl → Mem → Addr → List (Str × D) → Prop

/-- the names are all seen; they may be stored -/
structure NmOk (X : Cx) : Prop where
  nd : X.N.Nodup
  dbg : ∀ x ∈ X.N, (x == ("__debug__" : Str)) = false ∧ (x == ("__classdict__" : Str)) = false

def MemOk (K : PySem.W.Frag) (m : Mem) (G H : Hp) : Prop := ∀ p ∈ m, G p.1 = none ∧ ∃ ho, H p.1 = some ho ∧ RelO K G p.2 ho
structure EnvOk (X : Cx) (c : Ct) (σ : Sl) (m : Mem) (G : Hp) (τ : L2.St) (H : Hp) : Prop where
  nm : NmOk X
  names : X.N = σ.map (·.1)
  len : τ.length = σ.length
  sub : Ex G H
  nd : (m.map (·.1)).Nodup
  mem : MemOk X.K m G H
  fr : ∀ a o, c.H0 a = some o → a ∉ c.mu → H a = some o
  th : ∀ a ∈ c.mu, H a ≠ none
  ok : ∀ p ∈ m, p.1 ∈ c.mu ∨ c.H0 p.1 = none
  gn : ∀ a o, G a = some o → c.G0 a = some o ∨ a ∈ c.mu ∨ c.H0 a = none
  g0 : Ex c.G0 G
  vis : ∀ p ∈ σ, p.2.isSome = true → Vis X.env.scope p.1
  sl : ∀ (i : Nat) (x : Str) (r : R), σ[i]? = some (x, some r) → ∃ v, τ[i]? = some (some v) ∧ RelR X.K G r v
section
variable {X : Cx} {c : Ct} {σ σ' : Sl} {m m' : Mem} {G G' : Hp} {τ : L2.St} {H : Hp} {p a : Addr} {o o' : O} {ho : HO} {r : R} {v : V} {x : Str}
theorem EnvOk.h0 (e : EnvOk X c σ m G τ H) (h : H p = none) : c.H0 p = none ∨ p ∈ c.mu := by
  cases q : c.H0 p with
  | none => exact .inl rfl
  | some u =>
    by_cases hp : p ∈ c.mu
    · exact .inr hp
    · rw [e.fr p u q hp] at h; cases h
theorem EnvOk.notIn (e : EnvOk X c σ m G τ H) (h : H p = none) : ∀ q ∈ m, q.1 ≠ p := fun q hq z => by
  obtain ⟨_, ho, hh, _⟩ := e.mem q hq
  rw [z, h] at hh; cases hh
/-- a new owned object -/
theorem EnvOk.new (e : EnvOk X c σ m G τ H) (h : H p = none) (ro : RelO X.K G o ho) : EnvOk X c σ ((p, o) :: m) G τ (upd H p ho) where
  nm := e.nm
  names := e.names
  len := e.len
  sub := e.sub.upd (e.sub.back h)
  nd := by
    show (p :: m.map (·.1)).Nodup
    refine List.nodup_cons.mpr ⟨fun hp => ?_, e.nd⟩
    obtain ⟨q, hq, eq⟩ := List.mem_map.mp hp
    exact e.notIn h q hq eq
  mem := fun q hq => by
    rcases List.mem_cons.mp hq with rfl | hq
    · exact ⟨e.sub.back h, ho, upd_same, ro⟩
    · obtain ⟨g, u, hu, ru⟩ := e.mem q hq
      exact ⟨g, u, by rw [upd_ne (e.notIn h q hq)]; exact hu, ru⟩
  fr := fun a u q hm => by
    have z := e.fr a u q hm
    rw [upd_ne (ne_of_none z h)]; exact z
  th := fun a hm => by
    by_cases ea : a = p
    · subst ea; exact absurd h (e.th a hm)
    · rw [upd_ne ea]; exact e.th a hm
  ok := fun q hq => by
    rcases List.mem_cons.mp hq with rfl | hq
    · rcases e.h0 h with z | z
      · exact .inr z
      · exact .inl z
    · exact e.ok q hq
  gn := e.gn
  g0 := e.g0
  vis := e.vis
  sl := e.sl
/-- more frozen -/
theorem EnvOk.newG (e : EnvOk X c σ m G τ H) (h : H p = none) : EnvOk X c σ m (upd G p ho) τ (upd H p ho) where
  nm := e.nm
  names := e.names
  len := e.len
  sub := e.sub.both
  nd := e.nd
  mem := fun q hq => by
    obtain ⟨g, u, hu, ru⟩ := e.mem q hq
    have n := e.notIn h q hq
    exact ⟨by rw [upd_ne n]; exact g, u, by rw [upd_ne n]; exact hu, ru.mono (Ex.new (e.sub.back h))⟩
  fr := fun a u q hm => by
    have z := e.fr a u q hm
    rw [upd_ne (ne_of_none z h)]; exact z
  th := fun a hm => by
    by_cases ea : a = p
    · subst ea; exact absurd h (e.th a hm)
    · rw [upd_ne ea]; exact e.th a hm
  ok := e.ok
  gn := fun a u ha => by
    by_cases ea : a = p
    · subst ea
      rcases e.h0 h with z | z
      · exact .inr (.inr z)
      · exact .inr (.inl z)
    · rw [upd_ne ea] at ha; exact e.gn a u ha
  g0 := e.g0.trans (Ex.new (e.sub.back h))
  vis := e.vis
  sl := fun i x r q => by
    obtain ⟨v, h1, h2⟩ := e.sl i x r q
    exact ⟨v, h1, h2.mono (Ex.new (e.sub.back h))⟩
/-- an owned object is written -/
theorem EnvOk.chg (e : EnvOk X c σ m G τ H) (h : Chg m p o o' m') (ro : RelO X.K G o' ho) : EnvOk X c σ m' G τ (upd H p ho) where
  nm := e.nm
  names := e.names
  len := e.len
  sub := e.sub.upd (e.mem _ h.mem).1
  nd := by rw [h.keys]; exact e.nd
  mem := fun q hq => by
    rcases h.of e.nd q hq with rfl | ⟨hq, hn⟩
    · exact ⟨(e.mem _ h.mem).1, ho, upd_same, ro⟩
    · obtain ⟨g, u, hu, ru⟩ := e.mem q hq
      exact ⟨g, u, by rw [upd_ne hn]; exact hu, ru⟩
  fr := fun a u q hm => by
    have z := e.fr a u q hm
    by_cases ea : a = p
    · subst ea
      rcases e.ok _ h.mem with y | y
      · exact absurd y hm
      · rw [y] at q; cases q
    · rw [upd_ne ea]; exact z
  th := fun a hm => by
    by_cases ea : a = p
    · subst ea; rw [upd_same]; exact fun z => by cases z
    · rw [upd_ne ea]; exact e.th a hm
  ok := fun q hq => by
    rcases h.of e.nd q hq with rfl | ⟨hq, _⟩
    · exact e.ok (p, o) h.mem
    · exact e.ok q hq
  gn := e.gn
  g0 := e.g0
  vis := e.vis
  sl := e.sl
/-- owned objects are let go -/
theorem EnvOk.drop (e : EnvOk X c σ m G τ H) (hs : ∀ q ∈ m', q ∈ m) (nd : (m'.map (·.1)).Nodup) : EnvOk X c σ m' G τ H :=
  ⟨e.nm, e.names, e.len, e.sub, nd, fun q hq => e.mem q (hs q hq), e.fr, e.th, fun q hq => e.ok q (hs q hq), e.gn, e.g0, e.vis, e.sl⟩
theorem EnvOk.rest (e : EnvOk X c σ m G τ H) (h : Has m a o m') : EnvOk X c σ m' G τ H :=
  e.drop (fun q hq => h.sub.subset hq) ((h.sub.map _).nodup e.nd)
/-- an owned object is frozen as it stands -/
theorem EnvOk.frz (e : EnvOk X c σ m G τ H) (h : Has m a o m') : ∃ u, H a = some u ∧ RelO X.K G o u ∧ G a = none ∧ EnvOk X c σ m' (upd G a u) τ H := by
  obtain ⟨g, u, hu, ru⟩ := e.mem _ h.mem
  refine ⟨u, hu, ru, g, e.nm, e.names, e.len, fun b w q => ?_, (h.sub.map _).nodup e.nd, fun q hq => ?_, e.fr, e.th, fun q hq => e.ok q (h.sub.subset hq), fun b w hb => ?_, e.g0.trans (Ex.new g), e.vis, fun i x r q => ?_⟩
  · by_cases eb : b = a
    · subst eb; rw [upd_same] at q; cases q; exact hu
    · rw [upd_ne eb] at q; exact e.sub b w q
  · obtain ⟨g', u', hu', ru'⟩ := e.mem q (h.sub.subset hq)
    exact ⟨by rw [upd_ne (h.notIn e.nd q hq)]; exact g', u', hu', ru'.mono (Ex.new g)⟩
  · by_cases eb : b = a
    · subst eb; exact .inr (e.ok _ h.mem)
    · rw [upd_ne eb] at hb; exact e.gn b w hb
  · obtain ⟨v, h1, h2⟩ := e.sl i x r q
    exact ⟨v, h1, h2.mono (Ex.new g)⟩
/-- a slot is stored -/
theorem EnvOk.put (e : EnvOk X c σ m G τ H) (h : Put σ x r σ') (hv : Vis X.env.scope x) (rv : RelR X.K G r v) : ∃ i : Nat, X.N[i]? = some x ∧ EnvOk X c σ' m G (τ.set i (some v)) H := by
  obtain ⟨i, ox, e1, rfl⟩ := h.ix
  have hi : i < σ.length := (List.getElem?_eq_some_iff.mp e1).1
  refine ⟨i, by rw [e.names, List.getElem?_map, e1]; rfl, e.nm, ?_, ?_, e.sub, e.nd, e.mem, e.fr, e.th, e.ok, e.gn, e.g0, fun p hp hs => ?_, fun j y q hj => ?_⟩
  · rw [e.names, List.map_set]
    refine (List.ext_getElem? fun j => ?_)
    by_cases hj : i = j
    · subst hj
      rw [List.getElem?_set_self (by rw [List.length_map]; exact hi), List.getElem?_map, e1] <;> rfl
    · rw [List.getElem?_set_ne hj]
  · rw [List.length_set, List.length_set]; exact e.len
  · rcases List.mem_or_eq_of_mem_set hp with hp | rfl
    · exact e.vis p hp hs
    · exact hv
  · by_cases hij : i = j
    · subst hij
      rw [List.getElem?_set_self hi] at hj
      cases hj
      exact ⟨v, List.getElem?_set_self (by rw [e.len]; exact hi), rv⟩
    · rw [List.getElem?_set_ne hij] at hj
      obtain ⟨u, h1, h2⟩ := e.sl j y q hj
      exact ⟨u, by rw [List.getElem?_set_ne hij]; exact h1, h2⟩
theorem EnvOk.get (e : EnvOk X c σ m G τ H) (h : Lk σ x r) : ∃ (i : Nat) (v : V), X.N[i]? = some x ∧ τ[i]? = some (some v) ∧ RelR X.K G r v ∧ Vis X.env.scope x := by
  obtain ⟨i, e1⟩ := h.ix
  obtain ⟨v, h1, h2⟩ := e.sl i x r e1
  exact ⟨i, v, by rw [e.names, List.getElem?_map, e1]; rfl, h1, h2, e.vis _ (List.mem_of_getElem? e1) rfl⟩
end

/-! ### freezing a value -/
mutual
inductive Frz : Mem → R → D → Mem → Prop
  | dat {m d} : Frz m (.dat d) d m
  | lst {m a rs m1 ds m2} : Has m a (.lst rs) m1 → Frzs m1 rs ds m2 → Frz m (.own a) (.lst ds) m2
  | ins {m a C dx rs m1 ds m2} : Has m a (.ins C dx rs) m1 → Frzf m1 rs ds m2 → Frz m (.own a) (.ins C ds) m2
inductive Frzs : Mem → List R → List D → Mem → Prop
  | nil {m} : Frzs m [] [] m
  | cons {m r d m1 rs ds m2} : Frz m r d m1 → Frzs m1 rs ds m2 → Frzs m (r :: rs) (d :: ds) m2
inductive Frzf : Mem → List (Str × R) → List (Str × D) → Mem → Prop
  | nil {m} : Frzf m [] [] m
  | cons {m k r d m1 rs ds m2} : Frz m r d m1 → Frzf m1 rs ds m2 → Frzf m ((k, r) :: rs) ((k, d) :: ds) m2
end
section
variable {X : Cx} {c : Ct} {σ : Sl} {τ : L2.St} {H : Hp}
mutual
theorem Frz.env {m m' : Mem} {r : R} {d : D} (f : Frz m r d m') {G : Hp} {v : V} (e : EnvOk X c σ m G τ H) (rv : RelR X.K G r v) : ∃ G', Ex G G' ∧ EnvOk X c σ m' G' τ H ∧ Rep X.K G' d v :=
  match f, rv with
  | .dat, .dat h => ⟨G, Ex.refl G, e, h⟩
  | .lst h hs, .own => by
    obtain ⟨u, hu, ru, ga, e1⟩ := e.frz h
    cases ru with
    | @lst rs vs rr =>
      obtain ⟨G2, x2, e2, r2⟩ := Frzs.env hs e1 (rr.mono (Ex.new ga))
      exact ⟨G2, (Ex.new ga).trans x2, e2, .lst (.inl (.inl (x2 _ _ upd_same))) r2⟩
  | .ins h hs, .own => by
    obtain ⟨u, hu, ru, ga, e1⟩ := e.frz h
    cases ru with
    | ins rr =>
      obtain ⟨G2, x2, e2, r2⟩ := Frzf.env hs e1 (rr.mono (Ex.new ga))
      exact ⟨G2, (Ex.new ga).trans x2, e2, .ins (x2 _ _ upd_same) r2⟩
theorem Frzs.env {m m' : Mem} {rs : List R} {ds : List D} (f : Frzs m rs ds m') {G : Hp} {vs : List V} (e : EnvOk X c σ m G τ H) (rv : RelRs X.K G rs vs) : ∃ G', Ex G G' ∧ EnvOk X c σ m' G' τ H ∧ Reps X.K G' ds vs :=
  match f, rv with
  | .nil, .nil => ⟨G, Ex.refl G, e, .nil⟩
  | .cons h hs, .cons q qs => by
    obtain ⟨G1, x1, e1, r1⟩ := Frz.env h e q
    obtain ⟨G2, x2, e2, r2⟩ := Frzs.env hs e1 (qs.mono x1)
    exact ⟨G2, x1.trans x2, e2, .cons (r1.mono x2) r2⟩
theorem Frzf.env {m m' : Mem} {rs : List (Str × R)} {ds : List (Str × D)} (f : Frzf m rs ds m') {G : Hp} {vs : List (Str × V)} (e : EnvOk X c σ m G τ H) (rv : RelF X.K G rs vs) : ∃ G', Ex G G' ∧ EnvOk X c σ m' G' τ H ∧ RepF X.K G' ds vs :=
  match f, rv with
  | .nil, .nil => ⟨G, Ex.refl G, e, .nil⟩
  | .cons h hs, .cons q qs => by
    obtain ⟨G1, x1, e1, r1⟩ := Frz.env h e q
    obtain ⟨G2, x2, e2, r2⟩ := Frzf.env hs e1 (qs.mono x1)
    exact ⟨G2, x1.trans x2, e2, .cons (r1.mono x2) r2⟩
end
end
theorem Frzs.map (m : Mem) : ∀ ds : List D, Frzs m (ds.map .dat) ds m
  | [] => .nil
  | _ :: ds => .cons .dat (Frzs.map m ds)

/-! ### the judgements -/
/-- what follows an expression -/
def CK (X : Cx) (c : Ct) (σ : Sl) (τ : L2.St) (G : Hp) (K : R → Mem → Prop) (Q : VK) : Prop :=
  ∀ r m' G' H' v, K r m' → Ex G G' → EnvOk X c σ m' G' τ H' → RelR X.K G' r v → Q v H'
def DE (X : Cx) (c : Ct) (σ : Sl) (m : Mem) (e : Expr) (K : R → Mem → Prop) : Prop :=
  ∀ (pins : List (Addr × Obj)) (s : Shared) (τ : L2.St) (H G : Hp) (Q : VK), Inv X pins τ H s → EnvOk X c σ m G τ H → CK X c σ τ G K Q →
    wpAny (model X.prog X.w) X.A (eval e X.env) (EP X pins τ Q) X.xe s
def CT (X : Cx) (c : Ct) (σ : Sl) (τ : L2.St) (G : Hp) (K : Bool → Mem → Prop) (Q : Bool → Hp → Prop) : Prop :=
  ∀ b m' G' H', K b m' → Ex G G' → EnvOk X c σ m' G' τ H' → Q b H'
def DT (X : Cx) (c : Ct) (σ : Sl) (m : Mem) (e : Expr) (K : Bool → Mem → Prop) : Prop :=
  ∀ (wh : Sem Value) (pins : List (Addr × Obj)) (s : Shared) (τ : L2.St) (H G : Hp) (Q : Bool → Hp → Prop), wh = eval e X.env → Inv X pins τ H s → EnvOk X c σ m G τ H → CT X c σ τ G K Q →
    wpAny (model X.prog X.w) X.A (isTrue e X.env wh) (TP X pins τ Q) X.xe s
def CA (X : Cx) (c : Ct) (σ : Sl) (τ : L2.St) (G : Hp) (K : List R → Mem → Prop) (Q : List V → Hp → Prop) : Prop :=
  ∀ rs m' G' H' vs, K rs m' → Ex G G' → EnvOk X c σ m' G' τ H' → RelRs X.K G' rs vs → Q vs H'
/-- arguments, a display's items -/
def DA (X : Cx) (c : Ct) (σ : Sl) (m : Mem) (es : List Expr) (K : List R → Mem → Prop) : Prop :=
  ∀ (pos : Pos) (pins : List (Addr × Obj)) (s : Shared) (τ : L2.St) (H G : Hp) (Q : List V → Hp → Prop), Inv X pins τ H s → EnvOk X c σ m G τ H → CA X c σ τ G K Q →
    wpAny (model X.prog X.w) X.A (spliced (backTo pos (starEach es X.env))) (AP X pins τ Q) X.xe s
structure En where
  nx : Sl → Mem → Prop
  rt : R → Mem → Prop
  bk : Sl → Mem → Prop := fun _ _ => False
  ct : Sl → Mem → Prop := fun _ _ => False
abbrev nxTo (en : En) (f : Sl → Mem → Prop) : En := ⟨f, en.rt, en.bk, en.ct⟩
structure Fit (X : Cx) (c : Ct) (F : Hp) (D : Ends) (en : En) : Prop where
  nx : ∀ σ m G τ H, en.nx σ m → Ex F G → EnvOk X c σ m G τ H → D.nx τ H
  rt : ∀ r σ m G τ H v, en.rt r m → Ex F G → EnvOk X c σ m G τ H → RelR X.K G r v → D.rt v H
  bk : ∀ σ m G τ H, en.bk σ m → Ex F G → EnvOk X c σ m G τ H → D.bk τ H
  ct : ∀ σ m G τ H, en.ct σ m → Ex F G → EnvOk X c σ m G τ H → D.ct τ H
def DS (X : Cx) (c : Ct) (σ : Sl) (m : Mem) (st : Stmt) (en : En) : Prop :=
  ∀ (F : Hp) (pins : List (Addr × Obj)) (s : Shared) (τ : L2.St) (H G : Hp) (D : Ends), Inv X pins τ H s → EnvOk X c σ m G τ H → Ex F G → Fit X c F D en →
    wpAny (model X.prog X.w) X.A (exec st X.env) (SP X pins D) X.xe s
def DSs (X : Cx) (c : Ct) (σ : Sl) (m : Mem) (sts : List Stmt) (en : En) : Prop :=
  ∀ (F : Hp) (pins : List (Addr × Obj)) (s : Shared) (τ : L2.St) (H G : Hp) (D : Ends), Inv X pins τ H s → EnvOk X c σ m G τ H → Ex F G → Fit X c F D en →
    wpAny (model X.prog X.w) X.A (execs sts X.env) (SP X pins D) X.xe s

/-! ### to and from the hand layer's judgements -/
section
variable {X : Cx} {c : Ct} {σ : Sl} {m : Mem} {e : Expr} {K : R → Mem → Prop}
theorem de_of {t : TE} (h : PE X e t) (g : ∀ τ H G Q, EnvOk X c σ m G τ H → CK X c σ τ G K Q → t τ H Q) : DE X c σ m e K :=
  fun pins s τ H G Q I E k => h.run pins s τ H Q I (g τ H G Q E k)
/-- the reading of an expression that is walked -/
def tE (X : Cx) (c : Ct) (e : Expr) : TE := fun τ H Q => ∃ σ m G K, EnvOk X c σ m G τ H ∧ DE X c σ m e K ∧ CK X c σ τ G K Q
theorem pe_t : PE X e (tE X c e) := ⟨fun pins s τ H Q I ⟨σ, m, G, K, E, d, k⟩ => d pins s τ H G Q I E k⟩
def tT (X : Cx) (c : Ct) (e : Expr) : TT := fun τ H Q => ∃ σ m G K, EnvOk X c σ m G τ H ∧ DT X c σ m e K ∧ CT X c σ τ G K Q
theorem pt_t : PT X e (tT X c e) := ⟨fun pins s τ H Q I ⟨σ, m, G, K, E, d, k⟩ => d _ pins s τ H G Q rfl I E k⟩
def tA (X : Cx) (c : Ct) (es : List Expr) : TA := fun τ H Q => ∃ σ m G K, EnvOk X c σ m G τ H ∧ DA X c σ m es K ∧ CA X c σ τ G K Q
theorem pa_t {es : List Expr} : PA X es (tA X c es) := ⟨fun pos pins s τ H Q I ⟨σ, m, G, K, E, d, k⟩ => d pos pins s τ H G Q I E k⟩
def tS (X : Cx) (c : Ct) (st : Stmt) : TS := fun D τ H => ∃ F σ m G en, EnvOk X c σ m G τ H ∧ DS X c σ m st en ∧ Ex F G ∧ Fit X c F D en
theorem ps_t {st : Stmt} : PS X st (tS X c st) := ⟨fun pins s τ H D I ⟨F, σ, m, G, en, E, d, f, k⟩ => d F pins s τ H G D I E f k⟩
def tSs (X : Cx) (c : Ct) (sts : List Stmt) : TS := fun D τ H => ∃ F σ m G en, EnvOk X c σ m G τ H ∧ DSs X c σ m sts en ∧ Ex F G ∧ Fit X c F D en
theorem pss_t {sts : List Stmt} : PSs X sts (tSs X c sts) := ⟨fun pins s τ H D I ⟨F, σ, m, G, en, E, d, f, k⟩ => d F pins s τ H G D I E f k⟩
theorem CK.now {τ : L2.St} {G H : Hp} {Q : VK} {r : R} {v : V} (k : CK X c σ τ G K Q) (h : K r m) (E : EnvOk X c σ m G τ H) (rv : RelR X.K G r v) : Q v H := k r m G H v h (Ex.refl G) E rv
theorem CK.mono {τ : L2.St} {G G' : Hp} {Q : VK} (k : CK X c σ τ G K Q) (e : Ex G G') : CK X c σ τ G' K Q := fun r m' G2 H' v h x E rv => k r m' G2 H' v h (e.trans x) E rv
theorem CT.mono {τ : L2.St} {G G' : Hp} {K : Bool → Mem → Prop} {Q : Bool → Hp → Prop} (k : CT X c σ τ G K Q) (e : Ex G G') : CT X c σ τ G' K Q := fun r m' G2 H' h x E => k r m' G2 H' h (e.trans x) E
theorem CA.mono {τ : L2.St} {G G' : Hp} {K : List R → Mem → Prop} {Q : List V → Hp → Prop} (k : CA X c σ τ G K Q) (e : Ex G G') : CA X c σ τ G' K Q := fun r m' G2 H' v h x E rv => k r m' G2 H' v h (e.trans x) E rv
end

/-! ### names, constants, sequences -/
section
variable {X : Cx} {c : Ct} {σ σ' : Sl} {m m1 : Mem} {e e1 e2 : Expr} {es : List Expr} {K : R → Mem → Prop} {pos : Pos} {x : Str} {r : R}
theorem de_name (h : Lk σ x r) (k : K r m) : DE X c σ m (.Name x pos) K := fun pins s τ H G Q I E q => by
  obtain ⟨i, v, h1, h2, h3, hv⟩ := E.get h
  obtain ⟨hd, hcd⟩ := E.nm.dbg x (List.mem_of_getElem? h1)
  exact (pe_var h1 hv hd hcd).run pins s τ H Q I ⟨v, h2, q.now k E h3⟩
theorem de_int {i : Int} {j} (k : K (.dat (.int i)) m) : DE X c σ m (.Constant (.int i) j pos) K := de_of pe_int fun τ H G Q E q => q.now k E (.dat .int)
theorem de_bl {b : Bool} {j} (k : K (.dat (.bl b)) m) : DE X c σ m (.Constant (.bool b) j pos) K := de_of pe_bl fun τ H G Q E q => q.now k E (.dat .bl)
theorem de_non {j} (k : K (.dat .non) m) : DE X c σ m (.Constant .none j pos) K := de_of pe_non fun τ H G Q E q => q.now k E (.dat .non)
theorem rep_str {K : PySem.W.Frag} {G : Hp} {z : Str} : Rep K G (.str (lit z)) (.str z) := by
  have h : Rep K G (.str (lit z)) (.str (sOf (lit z))) := .str
  rw [sOf_lit] at h; exact h
theorem de_str {z : Str} {j} (k : K (.dat (.str (lit z))) m) : DE X c σ m (.Constant (.str z) j pos) K := de_of pe_str fun τ H G Q E q => q.now k E (.dat rep_str)
/-- weaken what follows -/
theorem DE.imp {K' : R → Mem → Prop} (h : DE X c σ m e K) (k : ∀ r m', K r m' → K' r m') : DE X c σ m e K' := fun pins s τ H G Q I E q =>
  h pins s τ H G Q I E fun r m' G' H' v z x E' rv => q r m' G' H' v (k r m' z) x E' rv
theorem da_nil {K : List R → Mem → Prop} (k : K [] m) : DA X c σ m [] K := fun pos pins s τ H G Q I E q => pa_nil.run pos pins s τ H Q I (q [] m G H [] k (Ex.refl G) E .nil)
theorem da_cons {K : List R → Mem → Prop} (h : DE X c σ m e (fun r m1 => DA X c σ m1 es (fun rs m2 => K (r :: rs) m2))) (hs : starEach (e :: es) X.env = (false, eval e X.env) :: starEach es X.env := by rfl) : DA X c σ m (e :: es) K := fun pos pins s τ H G Q I E q => by
  rw [hs]
  show wpAny _ _ (spliced ((false, eval e X.env) :: backTo pos (starEach es X.env))) _ _ s
  refine Calls.spliced_cons (thn (h pins s τ H G (fun v H1 => ∃ r m1 G1, Ex G G1 ∧ DA X c σ m1 es (fun rs m2 => K (r :: rs) m2) ∧ EnvOk X c σ m1 G1 τ H1 ∧ RelR X.K G1 r v) I E (fun r m1 G1 H1 v z x E1 rv => ⟨r, m1, G1, x, z, E1, rv⟩)) fun u s1 hu => ?_)
  obtain ⟨v, H1, I1, r1, r, m1, G1, x1, d, E1, rv⟩ := hu
  exact thn (d pos pins s1 τ H1 G1 (fun vs H2 => Q (v :: vs) H2) I1 E1 (fun rs m2 G2 H2 vs z x E2 rv2 => q (r :: rs) m2 G2 H2 (v :: vs) z (x1.trans x) E2 (.cons (rv.mono x) rv2))) fun us s2 ⟨xs, H2, I2, r2, q2⟩ => ⟨v :: xs, H2, I2, .cons r1 r2, q2⟩
end

/-! ### statements -/
section
variable {X : Cx} {c : Ct} {σ σ' : Sl} {m m1 : Mem} {e : Expr} {st : Stmt} {sts : List Stmt} {en : En} {pos px : Pos} {x : Str} {r : R}
theorem Fit.up {F G : Hp} {D : Ends} (f : Fit X c F D en) (e : Ex F G) : Fit X c G D en :=
  ⟨fun σ m G' τ H h x E => f.nx σ m G' τ H h (e.trans x) E, fun r σ m G' τ H v h x E rv => f.rt r σ m G' τ H v h (e.trans x) E rv, fun σ m G' τ H h x E => f.bk σ m G' τ H h (e.trans x) E, fun σ m G' τ H h x E => f.ct σ m G' τ H h (e.trans x) E⟩
theorem dss_nil (k : en.nx σ m) : DSs X c σ m [] en := fun F pins s τ H G D I E x f => wpAny_execs_nil ⟨τ, H, I, f.nx σ m G τ H k x E⟩
theorem dss_cons (h : DS X c σ m st (nxTo en fun σ' m' => DSs X c σ' m' sts en)) : DSs X c σ m (st :: sts) en := fun F pins s τ H G D I E x f => by
  refine wpAny_execs_cons (thn (h F pins s τ H G { D with nx := fun τ' H' => ∃ σ' m' G', DSs X c σ' m' sts en ∧ Ex F G' ∧ EnvOk X c σ' m' G' τ' H' } I E x ⟨fun σ' m' G' τ' H' z y E' => ⟨σ', m', G', z, y, E'⟩, f.rt, f.bk, f.ct⟩) fun fl s1 q => ?_)
  cases fl with
  | next =>
    obtain ⟨τ', H', I', σ', m', G', z, y, E'⟩ := q
    exact z F pins s1 τ' H' G' D I' E' y f
  | ret v => exact q
  | brk => exact q
  | cont => exact q
theorem ds_pass (k : en.nx σ m) : DS X c σ m (.Pass pos) en := fun F pins s τ H G D I E x f => ps_pass.run pins s τ H D I (f.nx σ m G τ H k x E)
theorem ds_brk (k : en.bk σ m) : DS X c σ m (.Break pos) en := fun F pins s τ H G D I E x f => ps_break.run pins s τ H D I (f.bk σ m G τ H k x E)
theorem ds_cont (k : en.ct σ m) : DS X c σ m (.Continue pos) en := fun F pins s τ H G D I E x f => ps_continue.run pins s τ H D I (f.ct σ m G τ H k x E)
theorem ds_ret (h : DE X c σ m e en.rt) : DS X c σ m (.Return (some e) pos) en := fun F pins s τ H G D I E x f =>
  (ps_ret (pe_t (c := c))).run pins s τ H D I ⟨σ, m, G, en.rt, E, h, fun r m' G' H' v z y E' rv => f.rt r σ m' G' τ H' v z (x.trans y) E' rv⟩
theorem ds_retN (k : en.rt (.dat .non) m) : DS X c σ m (.Return none pos) en := fun F pins s τ H G D I E x f =>
  ps_retN.run pins s τ H D I (f.rt (.dat .non) σ m G τ H .non k x E (.dat .non))
theorem ds_expr (h : DE X c σ m e (fun _ m' => en.nx σ m')) (hs : swapsWith e none pos.line X.env = pure false := by rfl) : DS X c σ m (.Expr e pos) en := fun F pins s τ H G D I E x f =>
  (ps_expr (pe_t (c := c)) hs).run pins s τ H D I ⟨σ, m, G, _, E, h, fun r m' G' H' v z y E' rv => f.nx σ m' G' τ H' z (x.trans y) E'⟩
theorem ds_doc {z : Str} {j} {p : Pos} (k : en.nx σ m) : DS X c σ m (.Expr (.Constant (.str z) j p) pos) en := fun F pins s τ H G D I E x f => ps_doc.run pins s τ H D I (f.nx σ m G τ H k x E)
/-- the stores of a name: f says the slots behind -/
inductive PutF : Sl → Str → (R → Sl) → Prop
  | here {x o σ} : PutF ((x, o) :: σ) x (fun r => (x, some r) :: σ)
  | there {p x σ f} : PutF σ x f → PutF (p :: σ) x (fun r => p :: f r)
theorem PutF.put {x : Str} {f : R → Sl} (h : PutF σ x f) (r : R) : Put σ x r (f r) := by
  induction h with
  | here => exact .here
  | there _ ih => exact .there ih
theorem PutF.at {x : Str} {f : R → Sl} (h : PutF σ x f) : x ∈ σ.map (·.1) := by
  induction h with
  | here => exact List.mem_cons_self
  | there _ ih => exact List.mem_cons_of_mem _ ih
/-- a name is stored: it is the def's own -/
def Own (X : Cx) (x : Str) : Prop := Loc X.env.scope x ∧ (X.fn x = true ∨ X.env.scope.names.lookup x = some .local)
theorem ds_asg {f : R → Sl} (hx : Own X x) (hp : PutF σ x f) (h : DE X c σ m e (fun r m1 => en.nx (f r) m1)) (hs : swapsWithSole [.Name x px] e pos.line X.env = pure false := by rfl) (hw : swappedStores [.Name x px] e X.env = pure none := by rfl)
    (h1 : (assignEach [.Name x px] X.env).map (·.2) = [assign (.Name x px) X.env] := by rfl) : DS X c σ m (.Assign [.Name x px] e pos) en := fun F pins s τ H G D I E fx ft => by
  have hm : x ∈ X.N := by rw [E.names]; exact hp.at
  obtain ⟨i, hi⟩ := List.mem_iff_getElem?.mp hm
  refine (ps_asg (pe_t (c := c)) (pg_name (i := i) E.nm.nd hi hx.1 hx.2) hs hw h1).run pins s τ H D I ⟨σ, m, G, _, E, h, fun r m' G' H' v z y E' rv => ?_⟩
  obtain ⟨j, hj, E2⟩ := E'.put (hp.put r) (hx.1.elim .inl fun z => .inr (.inl z)) rv
  have ij : i = j := nodup_ix E.nm.nd hi hj
  subst ij
  exact ft.nx _ m' G' _ H' z (fx.trans y) E2
end
end D2
/-! ## D2Ops -/
set_option Elab.async false
set_option linter.all false
set_option maxRecDepth 100000
set_option maxHeartbeats 2000000
namespace D2
open PySem PySem.Spec PyProof.Rows L2
abbrev rI (i : Int) : R := .dat (.int i)
abbrev rB (b : Bool) : R := .dat (.bl b)
abbrev rS (s : List Nat) : R := .dat (.str s)

/-! ### an operation on two values -/
def OP (X : Cx) (c : Ct) (σ : Sl) (m : Mem) (f : Value → Value → Sem Value) (r1 r2 : R) (K : R → Mem → Prop) : Prop :=
  ∀ (pins : List (Addr × Obj)) (s : Shared) (τ : L2.St) (H G : Hp) (v1 v2 : V) (u1 u2 : Value) (Q : VK), Inv X pins τ H s → EnvOk X c σ m G τ H → RelR X.K G r1 v1 → RelR X.K G r2 v2 → RelV v1 u1 → RelV v2 u2 →
    CK X c σ τ G K Q → wpAny (model X.prog X.w) X.A (f u1 u2) (EP X pins τ Q) X.xe s
def UP (X : Cx) (c : Ct) (σ : Sl) (m : Mem) (f : Value → Sem Value) (r1 : R) (K : R → Mem → Prop) : Prop :=
  ∀ (pins : List (Addr × Obj)) (s : Shared) (τ : L2.St) (H G : Hp) (v1 : V) (u1 : Value) (Q : VK), Inv X pins τ H s → EnvOk X c σ m G τ H → RelR X.K G r1 v1 → RelV v1 u1 →
    CK X c σ τ G K Q → wpAny (model X.prog X.w) X.A (f u1) (EP X pins τ Q) X.xe s
section
variable {X : Cx} {c : Ct} {σ : Sl} {m : Mem} {a b : Expr} {K : R → Mem → Prop} {pos : Pos} {f : Value → Value → Sem Value} {g1 : Value → Sem Value} {r1 r2 : R}
theorem op_of {r : R2} (h : OpR X f r) (g : ∀ τ H G v1 v2 Q, EnvOk X c σ m G τ H → RelR X.K G r1 v1 → RelR X.K G r2 v2 → CK X c σ τ G K Q → r v1 v2 H Q) : OP X c σ m f r1 r2 K :=
  fun pins s τ H G v1 v2 u1 u2 Q I E h1 h2 q1 q2 k => h pins s τ H v1 v2 u1 u2 Q I q1 q2 (g τ H G v1 v2 Q E h1 h2 k)
theorem up_of {r : V → Hp → VK → Prop} (h : UnR X g1 r) (g : ∀ τ H G v1 Q, EnvOk X c σ m G τ H → RelR X.K G r1 v1 → CK X c σ τ G K Q → r v1 H Q) : UP X c σ m g1 r1 K :=
  fun pins s τ H G v1 u1 Q I E h1 q1 k => h pins s τ H v1 u1 Q I q1 (g τ H G v1 Q E h1 k)
theorem two {pins : List (Addr × Obj)} {s : Shared} {τ : L2.St} {H G : Hp} {Q : VK} (h : DE X c σ m a (fun r1 m1 => DE X c σ m1 b (fun r2 m2 => OP X c σ m2 f r1 r2 K)))
    (I : Inv X pins τ H s) (E : EnvOk X c σ m G τ H) (k : CK X c σ τ G K Q) :
    wpAny (model X.prog X.w) X.A (eval a X.env) (fun v s₁ => wpAny (model X.prog X.w) X.A (eval b X.env) (fun u s₂ => wpAny (model X.prog X.w) X.A (f v u) (EP X pins τ Q) X.xe s₂) X.xe s₁) X.xe s := by
  refine thn (h pins s τ H G (fun v H1 => ∃ r m1 G1, Ex G G1 ∧ DE X c σ m1 b (fun r2 m2 => OP X c σ m2 f r r2 K) ∧ EnvOk X c σ m1 G1 τ H1 ∧ RelR X.K G1 r v) I E (fun r m1 G1 H1 v z x E1 rv => ⟨r, m1, G1, x, z, E1, rv⟩)) fun u s1 hu => ?_
  obtain ⟨v, H1, I1, q1, r, m1, G1, x1, d, E1, rv⟩ := hu
  refine thn (d pins s1 τ H1 G1 (fun w H2 => ∃ r2 m2 G2, Ex G1 G2 ∧ OP X c σ m2 f r r2 K ∧ EnvOk X c σ m2 G2 τ H2 ∧ RelR X.K G2 r2 w) I1 E1 (fun r m1 G1 H1 v z x E1 rv => ⟨r, m1, G1, x, z, E1, rv⟩)) fun u2 s2 hu2 => ?_
  obtain ⟨w, H2, I2, q2, r2, m2, G2, x2, d2, E2, rw2⟩ := hu2
  exact d2 pins s2 τ H2 G2 v w u u2 Q I2 E2 (rv.mono x2) rw2 q1 q2 (k.mono (x1.trans x2))
theorem de_bin {op : Operator} (h : DE X c σ m a (fun r1 m1 => DE X c σ m1 b (fun r2 m2 => OP X c σ m2 (binaryOp op) r1 r2 K))) : DE X c σ m (.BinOp a op b pos) K :=
  fun pins s τ H G Q I E k => wpAny_BinOp (two h I E k)
theorem de_cmp {op : CmpOp} (h : DE X c σ m a (fun r1 m1 => DE X c σ m1 b (fun r2 m2 => OP X c σ m2 (compareOp op) r1 r2 K))) (hm : behindInMarks op b = false := by first | exact nomark _ (by decide) (by decide) | rfl | with_unfolding_all rfl) : DE X c σ m (.Compare a [op] [b] pos) K :=
  fun pins s τ H G Q I E k => wpAny_Compare1 (two h I E k) hm
theorem de_un {op : UnaryOp} (h : DE X c σ m a (fun r1 m1 => UP X c σ m1 (unaryOp op) r1 K)) : DE X c σ m (.UnaryOp op a pos) K :=
  fun pins s τ H G Q I E k => UnaryOp_ (thn (h pins s τ H G (fun v H1 => ∃ r m1 G1, Ex G G1 ∧ UP X c σ m1 (unaryOp op) r K ∧ EnvOk X c σ m1 G1 τ H1 ∧ RelR X.K G1 r v) I E (fun r m1 G1 H1 v z x E1 rv => ⟨r, m1, G1, x, z, E1, rv⟩)) fun u s1 hu => by
    obtain ⟨v, H1, I1, q1, r, m1, G1, x1, d, E1, rv⟩ := hu
    exact d pins s1 τ H1 G1 v u Q I1 E1 rv q1 (k.mono x1))

/-! ### ints -/
theorem opI {C : Int → Int → Prop} {g : Int → Int → Int} {i j : Int} (h : OpR X f (L2.rI C fun i j => .int (g i j))) (hc : C i j) (k : K (rI (g i j)) m) : OP X c σ m f (rI i) (rI j) K :=
  op_of h fun τ H G v1 v2 Q E h1 h2 q => by
    cases h1 with | dat h1 => cases h2 with | dat h2 =>
    cases h1; cases h2
    exact ⟨i, j, rfl, rfl, hc, q.now k E (.dat .int)⟩
theorem opI0 {g : Int → Int → Int} {i j : Int} (h : OpR X f (L2.rI0 fun i j => .int (g i j))) (k : K (rI (g i j)) m) : OP X c σ m f (rI i) (rI j) K :=
  op_of h fun τ H G v1 v2 Q E h1 h2 q => by
    cases h1 with | dat h1 => cases h2 with | dat h2 =>
    cases h1; cases h2
    exact ⟨i, j, rfl, rfl, q.now k E (.dat .int)⟩
theorem opB0 {g : Int → Int → Bool} {i j : Int} (h : OpR X f (L2.rI0 fun i j => .bl (g i j))) (k : K (rB (g i j)) m) : OP X c σ m f (rI i) (rI j) K :=
  op_of h fun τ H G v1 v2 Q E h1 h2 q => by
    cases h1 with | dat h1 => cases h2 with | dat h2 =>
    cases h1; cases h2
    exact ⟨i, j, rfl, rfl, q.now k E (.dat .bl)⟩
variable {i j : Int}
theorem o_add (k : K (rI (i + j)) m) : OP X c σ m (binaryOp .Add) (rI i) (rI j) K := opI0 L2.op_add k
theorem o_sub (k : K (rI (i - j)) m) : OP X c σ m (binaryOp .Sub) (rI i) (rI j) K := opI0 L2.op_sub k
theorem o_mul (hc : CMulW i j) (k : K (rI (i * j)) m) : OP X c σ m (binaryOp .Mult) (rI i) (rI j) K := opI L2.op_mulW hc k
theorem o_mulS (hc : CMul i j) (k : K (rI (i * j)) m) : OP X c σ m (binaryOp .Mult) (rI i) (rI j) K := opI L2.op_mul hc k
theorem o_div (hc : CDivW i j) (k : K (rI (i / j)) m) : OP X c σ m (binaryOp .FloorDiv) (rI i) (rI j) K := opI L2.op_fdivW hc k
theorem o_mod (hc : 0 < j) (k : K (rI (i % j)) m) : OP X c σ m (binaryOp .Mod) (rI i) (rI j) K := opI (C := fun _ j => 0 < j) L2.op_mod hc k
theorem o_pow (hc : CPow i j) (k : K (rI (i ^ j.toNat)) m) : OP X c σ m (binaryOp .Pow) (rI i) (rI j) K := opI L2.op_pow hc k
theorem o_shl (hc : CPow i j) (k : K (rI (i * 2 ^ j.toNat)) m) : OP X c σ m (binaryOp .LShift) (rI i) (rI j) K := opI L2.op_shl hc k
theorem o_lt (k : K (rB (decide (i < j))) m) : OP X c σ m (compareOp .Lt) (rI i) (rI j) K := opB0 L2.op_lt k
theorem o_le (k : K (rB (decide (i ≤ j))) m) : OP X c σ m (compareOp .LtE) (rI i) (rI j) K := opB0 L2.op_le k
theorem o_gt (k : K (rB (decide (j < i))) m) : OP X c σ m (compareOp .Gt) (rI i) (rI j) K := opB0 L2.op_gt k
theorem o_ge (k : K (rB (decide (j ≤ i))) m) : OP X c σ m (compareOp .GtE) (rI i) (rI j) K := opB0 L2.op_ge k
theorem u_neg (k : K (rI (-i)) m) : UP X c σ m (unaryOp .USub) (rI i) K := up_of un_neg fun τ H G v1 Q E h1 q => by
  cases h1 with | dat h1 =>
  cases h1
  exact ⟨i, rfl, q.now k E (.dat .int)⟩

/-! ### == and != of plain values -/
theorem dec_int' {i j : Int} : decide (V.int i = V.int j) = decide (i = j) := by
  by_cases h : i = j
  · subst h; simp
  · rw [decide_eq_false h]; exact decide_eq_false fun q => h (by cases q; rfl)
theorem dec_str' {a b : List Nat} : decide (V.str (sOf a) = V.str (sOf b)) = decide (a = b) := by
  by_cases h : a = b
  · subst h; simp
  · rw [decide_eq_false h]
    refine decide_eq_false fun q => h ?_
    have z : sOf a = sOf b := by cases q; rfl
    have z2 := congrArg lit z
    rwa [lit_sOf, lit_sOf] at z2
theorem dec_bl' {a b : Bool} : decide (V.bl a = V.bl b) = decide (a = b) := by
  cases a <;> cases b <;> rfl
section
variable {x y : List Nat} {p q : Bool}
theorem o_eqI (k : K (rB (decide (i = j))) m) : OP X c σ m (compareOp .Eq) (rI i) (rI j) K := op_of L2.op_eq fun τ H G v1 v2 Q E h1 h2 q => by
  cases h1 with | dat h1 => cases h2 with | dat h2 =>
  cases h1; cases h2
  refine ⟨rfl, ?_⟩
  rw [dec_int']
  exact q.now k E (.dat .bl)
theorem o_neI (k : K (rB (!decide (i = j))) m) : OP X c σ m (compareOp .NotEq) (rI i) (rI j) K := op_of L2.op_ne fun τ H G v1 v2 Q E h1 h2 q => by
  cases h1 with | dat h1 => cases h2 with | dat h2 =>
  cases h1; cases h2
  refine ⟨rfl, ?_⟩
  rw [dec_int']
  exact q.now k E (.dat .bl)
theorem o_eqS (k : K (rB (decide (x = y))) m) : OP X c σ m (compareOp .Eq) (rS x) (rS y) K := op_of L2.op_eq fun τ H G v1 v2 Q E h1 h2 q => by
  cases h1 with | dat h1 => cases h2 with | dat h2 =>
  cases h1; cases h2
  refine ⟨rfl, ?_⟩
  rw [dec_str']
  exact q.now k E (.dat .bl)
theorem o_neS (k : K (rB (!decide (x = y))) m) : OP X c σ m (compareOp .NotEq) (rS x) (rS y) K := op_of L2.op_ne fun τ H G v1 v2 Q E h1 h2 q => by
  cases h1 with | dat h1 => cases h2 with | dat h2 =>
  cases h1; cases h2
  refine ⟨rfl, ?_⟩
  rw [dec_str']
  exact q.now k E (.dat .bl)
theorem o_eqB (k : K (rB (decide (p = q))) m) : OP X c σ m (compareOp .Eq) (rB p) (rB q) K := op_of L2.op_eq fun τ H G v1 v2 Q E h1 h2 q => by
  cases h1 with | dat h1 => cases h2 with | dat h2 =>
  cases h1; cases h2
  refine ⟨rfl, ?_⟩
  rw [dec_bl']
  exact q.now k E (.dat .bl)
theorem o_isB (k : K (rB (decide (p = q))) m) : OP X c σ m (compareOp .Is) (rB p) (rB q) K := op_of L2.op_isBl fun τ H G v1 v2 Q E h1 h2 z => by
  cases h1 with | dat h1 => cases h2 with | dat h2 =>
  cases h1; cases h2
  exact ⟨p, q, rfl, rfl, z.now k E (.dat .bl)⟩
end

/-! ### texts -/
theorem sOf_app (a b : List Nat) : sOf a ++ sOf b = sOf (a ++ b) := by
  show (⟨_⟩ : Str) = _
  simp [sOf]
theorem sOf_len (a : List Nat) : (sOf a).length = a.length := by
  show (a.toArray).size = _
  simp
theorem o_addS {x y : List Nat} (hl : x.length + y.length ≤ 1000000) (k : K (rS (x ++ y)) m) : OP X c σ m (binaryOp .Add) (rS x) (rS y) K := op_of L2.op_add_str fun τ H G v1 v2 Q E h1 h2 q => by
  cases h1 with | dat h1 => cases h2 with | dat h2 =>
  cases h1; cases h2
  refine ⟨_, _, rfl, rfl, ?_, ?_⟩
  · rw [sOf_len, sOf_len]; exact Nat.le_trans hl (by decide)
  · rw [sOf_app]; exact q.now k E (.dat .str)

/-! ### lists, seen -/
inductive VL (m : Mem) : R → List R → Prop
  | dat {ds} : VL m (.dat (.lst ds)) (ds.map .dat)
  | own {a rs m'} : Has m a (.lst rs) m' → VL m (.own a) rs
section
variable {τ : L2.St} {H G : Hp} {v : V} {r : R} {rs : List R} {c : Ct}
theorem VL.at (h : VL m r rs) (E : EnvOk X c σ m G τ H) (rv : RelR X.K G r v) : ∃ a vs, v = .ref a ∧ SqL X.K H a vs ∧ RelRs X.K G rs vs := by
  cases h with
  | dat =>
    cases rv with | dat rv =>
    cases rv with | lst hs hr => exact ⟨_, _, rfl, ex_l E.sub hs, hr.rel⟩
  | own hm =>
    cases rv
    obtain ⟨_, ho, hh, ro⟩ := E.mem _ hm.mem
    cases ro with | lst ro => exact ⟨_, _, rfl, .inl (.inl hh), ro⟩
end
theorem VL.nat {ds : List D} : VL m (.dat (.lst ds)) (ds.map .dat) := .dat
/-- a list tracked and free to be joined to another -/
inductive VU (m : Mem) : R → List R → Prop
  | own {a rs m'} : Has m a (.lst rs) m' → VU m (.own a) rs
theorem VU.at {τ : L2.St} {H G : Hp} {v : V} {r : R} {rs : List R} {c : Ct} (h : VU m r rs) (E : EnvOk X c σ m G τ H) (rv : RelR X.K G r v) : ∃ a vs, v = .ref a ∧ H a = some (.lst vs) ∧ RelRs X.K G rs vs := by
  cases h with
  | own hm =>
    cases rv
    obtain ⟨_, ho, hh, ro⟩ := E.mem _ hm.mem
    cases ro with | lst ro => exact ⟨_, _, rfl, hh, ro⟩
theorem o_cat {rs1 rs2 : List R} (h1 : VU m r1 rs1) (h2 : VU m r2 rs2) (hl : rs1.length + rs2.length ≤ 1000000) (k : ∀ p, K (.own p) ((p, .lst (rs1 ++ rs2)) :: m)) : OP X c σ m (binaryOp .Add) r1 r2 K := op_of L2.op_cat fun τ H G v1 v2 Q E q1 q2 q => by
  obtain ⟨a, vs, rfl, ha, ra⟩ := h1.at E q1
  obtain ⟨b, us, rfl, hb, rb⟩ := h2.at E q2
  refine ⟨a, b, vs, us, rfl, rfl, ha, hb, by rw [← ra.length, ← rb.length]; exact Nat.le_trans hl (by decide), fun p hp => ?_⟩
  exact q _ _ G _ _ (k p) (Ex.refl G) (E.new hp (.lst (ra.append rb))) .own

/-! ### tests -/
abbrev KB (K : Bool → Mem → Prop) : R → Mem → Prop := fun r m => ∃ b, r = rB b ∧ K b m
theorem kb {K : Bool → Mem → Prop} {b : Bool} (k : K b m) : KB K (rB b) m := ⟨b, rfl, k⟩
theorem ck_b {K : Bool → Mem → Prop} {τ : L2.St} {G : Hp} {Q : Bool → Hp → Prop} (k : CT X c σ τ G K Q) : CK X c σ τ G (KB K) (fun v H => ∃ b, v = .bl b ∧ Q b H) := fun r m' G' H' v ⟨b, e, z⟩ x E rv => by
  subst e
  cases rv with | dat rv =>
  cases rv
  exact ⟨b, rfl, k b m' G' H' z x E⟩
theorem dt_cmp {K : Bool → Mem → Prop} {op : CmpOp} (h : DE X c σ m a (fun r1 m1 => DE X c σ m1 b (fun r2 m2 => OP X c σ m2 (compareOp op) r1 r2 (KB K)))) (hm : behindInMarks op b = false := by first | exact nomark _ (by decide) (by decide) | rfl | with_unfolding_all rfl) : DT X c σ m (.Compare a [op] [b] pos) K :=
  fun wh pins s τ H G Q hw I E k => by
    subst hw
    refine wpAny_isTrue_Compare1 (thn (two h I E (ck_b k)) fun v s1 h1 => thn h1 fun u s2 h2 => thn h2 fun w s3 ⟨z, H3, I3, r3, b, e, q⟩ => ?_) hm
    subst e
    cases r3
    exact wpAny_truthy_bool ⟨H3, I3, q⟩
/-- an expression that gives a bool -/
theorem dt_val {e : Expr} {K : Bool → Mem → Prop} (h : DE X c σ m e (KB K)) (he : ∀ whole, isTrue e X.env whole = (do let v ← whole; standAt e.pos; holding [v] (truthy v)) := by intro _; rfl) : DT X c σ m e K :=
  fun wh pins s τ H G Q hw I E k => by
    subst hw
    refine isTrue_plain (thn (h pins s τ H G _ I E (ck_b k)) fun v s1 ⟨x, H1, I1, r1, b, e, q⟩ => ?_) (he _)
    subst e
    cases r1
    exact wpAny_truthy_bool ⟨H1, I1, q⟩
theorem dt_not {K : Bool → Mem → Prop} (h : DT X c σ m a (fun b m' => K (!b) m')) : DT X c σ m (.UnaryOp .Not a pos) K :=
  fun wh pins s τ H G Q hw I E k => by
    subst hw
    exact isTrue_not (thn (h _ pins s τ H G (fun b H' => Q (!b) H') rfl I E fun b m' G' H' z x E' => k (!b) m' G' H' z x E') fun b s1 ⟨H1, I1, q⟩ => ⟨H1, I1, q⟩)
/-- and, or over the operands that are left -/
def DW (X : Cx) (c : Ct) (σ : Sl) (m : Mem) (e : Expr) (K : Bool → Mem → Prop) : Prop :=
  ∀ (wh : Sem Value) (pins : List (Addr × Obj)) (s : Shared) (τ : L2.St) (H G : Hp) (Q : Bool → Hp → Prop), Inv X pins τ H s → EnvOk X c σ m G τ H → CT X c σ τ G K Q →
    wpAny (model X.prog X.w) X.A (isTrue e X.env wh) (TP X pins τ Q) X.xe s
theorem dt_bool {K : Bool → Mem → Prop} {op : BoolOp} {es : List Expr} (h : DW X c σ m (.BoolOp op es pos) K) : DT X c σ m (.BoolOp op es pos) K := fun wh pins s τ H G Q _ I E k => h wh pins s τ H G Q I E k
theorem dw_and1 {K : Bool → Mem → Prop} (h : DT X c σ m a K) : DW X c σ m (.BoolOp .And [a] pos) K := fun wh pins s τ H G Q I E k =>
  (pw_and1 (pt_t (c := c))).run wh pins s τ H Q I ⟨σ, m, G, K, E, h, k⟩
theorem dw_or1 {K : Bool → Mem → Prop} (h : DT X c σ m a K) : DW X c σ m (.BoolOp .Or [a] pos) K := fun wh pins s τ H G Q I E k =>
  (pw_or1 (pt_t (c := c))).run wh pins s τ H Q I ⟨σ, m, G, K, E, h, k⟩
theorem dw_and {K : Bool → Mem → Prop} {rest : List Expr} (h : DT X c σ m a (fun d m1 => (d = true → DW X c σ m1 (.BoolOp .And (b :: rest) pos) K) ∧ (d = false → K false m1))) : DW X c σ m (.BoolOp .And (a :: b :: rest) pos) K := fun wh pins s τ H G Q I E k => by
  refine isTrue_and (thn (h _ pins s τ H G (fun d H1 => ∃ m1 G1, Ex G G1 ∧ EnvOk X c σ m1 G1 τ H1 ∧ ((d = true → DW X c σ m1 (.BoolOp .And (b :: rest) pos) K) ∧ (d = false → K false m1))) rfl I E fun d m1 G1 H1 z x E1 => ⟨m1, G1, x, E1, z⟩) fun d s1 ⟨H1, I1, m1, G1, x1, E1, z1, z2⟩ => ?_)
  cases d with
  | true => exact z1 rfl wh pins s1 τ H1 G1 Q I1 E1 (k.mono x1)
  | false => exact ⟨H1, I1, k false m1 G1 H1 (z2 rfl) x1 E1⟩
theorem dw_or {K : Bool → Mem → Prop} {rest : List Expr} (h : DT X c σ m a (fun d m1 => (d = false → DW X c σ m1 (.BoolOp .Or (b :: rest) pos) K) ∧ (d = true → K true m1))) : DW X c σ m (.BoolOp .Or (a :: b :: rest) pos) K := fun wh pins s τ H G Q I E k => by
  refine isTrue_or (thn (h _ pins s τ H G (fun d H1 => ∃ m1 G1, Ex G G1 ∧ EnvOk X c σ m1 G1 τ H1 ∧ ((d = false → DW X c σ m1 (.BoolOp .Or (b :: rest) pos) K) ∧ (d = true → K true m1))) rfl I E fun d m1 G1 H1 z x E1 => ⟨m1, G1, x, E1, z⟩) fun d s1 ⟨H1, I1, m1, G1, x1, E1, z1, z2⟩ => ?_)
  cases d with
  | false => exact z1 rfl wh pins s1 τ H1 G1 Q I1 E1 (k.mono x1)
  | true => exact ⟨H1, I1, k true m1 G1 H1 (z2 rfl) x1 E1⟩
/-- .. as values -/
theorem de_bo1 {op : BoolOp} (h : DE X c σ m a K) : DE X c σ m (.BoolOp op [a] pos) K := fun pins s τ H G Q I E k => BoolOp_one (h pins s τ H G Q I E k)
theorem de_and {rest : List Expr} (h : DE X c σ m a (fun r m1 => ∃ d, r = rB d ∧ (d = true → DE X c σ m1 (.BoolOp .And (b :: rest) pos) K) ∧ (d = false → K (rB false) m1))) : DE X c σ m (.BoolOp .And (a :: b :: rest) pos) K :=
  fun pins s τ H G Q I E k => (pe_and (pe_t (c := c)) (pe_t (c := c))).run pins s τ H Q I ⟨σ, m, G, _, E, h, fun r m1 G1 H1 v ⟨d, e, z1, z2⟩ x E1 rv => by
    subst e
    cases rv with | dat rv =>
    cases rv
    refine ⟨d, rfl, ?_⟩
    cases d with
    | true => exact ⟨σ, m1, G1, K, E1, z1 rfl, k.mono x⟩
    | false => exact k _ m1 G1 H1 _ (z2 rfl) x E1 (.dat .bl)⟩
theorem de_or {rest : List Expr} (h : DE X c σ m a (fun r m1 => ∃ d, r = rB d ∧ (d = false → DE X c σ m1 (.BoolOp .Or (b :: rest) pos) K) ∧ (d = true → K (rB true) m1))) : DE X c σ m (.BoolOp .Or (a :: b :: rest) pos) K :=
  fun pins s τ H G Q I E k => (pe_or (pe_t (c := c)) (pe_t (c := c))).run pins s τ H Q I ⟨σ, m, G, _, E, h, fun r m1 G1 H1 v ⟨d, e, z1, z2⟩ x E1 rv => by
    subst e
    cases rv with | dat rv =>
    cases rv
    refine ⟨d, rfl, ?_⟩
    cases d with
    | false => exact ⟨σ, m1, G1, K, E1, z1 rfl, k.mono x⟩
    | true => exact k _ m1 G1 H1 _ (z2 rfl) x E1 (.dat .bl)⟩
theorem de_not (h : DE X c σ m a (fun r m1 => ∃ d, r = rB d ∧ K (rB (!d)) m1)) : DE X c σ m (.UnaryOp .Not a pos) K :=
  fun pins s τ H G Q I E k => (pe_not (pe_t (c := c))).run pins s τ H Q I ⟨σ, m, G, _, E, h, fun r m1 G1 H1 v ⟨d, e, z⟩ x E1 rv => by
    subst e
    cases rv with | dat rv =>
    cases rv
    exact ⟨d, rfl, k _ m1 G1 H1 _ z x E1 (.dat .bl)⟩⟩
theorem de_if {e : Expr} (h : DT X c σ m e (fun d m1 => (d = true → DE X c σ m1 a K) ∧ (d = false → DE X c σ m1 b K))) : DE X c σ m (.IfExp e a b pos) K :=
  fun pins s τ H G Q I E k => wpAny_IfExp (thn (h _ pins s τ H G (fun d H1 => ∃ m1 G1, Ex G G1 ∧ EnvOk X c σ m1 G1 τ H1 ∧ ((d = true → DE X c σ m1 a K) ∧ (d = false → DE X c σ m1 b K))) rfl I E fun d m1 G1 H1 z x E1 => ⟨m1, G1, x, E1, z⟩) fun d s1 ⟨H1, I1, m1, G1, x1, E1, z1, z2⟩ => by
    cases d with
    | true => exact z1 rfl pins s1 τ H1 G1 Q I1 E1 (k.mono x1)
    | false => exact z2 rfl pins s1 τ H1 G1 Q I1 E1 (k.mono x1))
theorem ds_if {e : Expr} {A B : List Stmt} {en : En} (h : DT X c σ m e (fun d m1 => (d = true → DSs X c σ m1 A en) ∧ (d = false → DSs X c σ m1 B en))) : DS X c σ m (.If e A B pos) en := fun F pins s τ H G D I E x f =>
  wpAny_If (thn (h _ pins s τ H G (fun d H1 => ∃ m1 G1, Ex G G1 ∧ EnvOk X c σ m1 G1 τ H1 ∧ ((d = true → DSs X c σ m1 A en) ∧ (d = false → DSs X c σ m1 B en))) rfl I E fun d m1 G1 H1 z y E1 => ⟨m1, G1, y, E1, z⟩) fun d s1 ⟨H1, I1, m1, G1, x1, E1, z1, z2⟩ => by
    cases d with
    | true => exact z1 rfl F pins s1 τ H1 G1 D I1 E1 (x.trans x1) f
    | false => exact z2 rfl F pins s1 τ H1 G1 D I1 E1 (x.trans x1) f)

/-! ### a < b < c -/
theorem de_chain {e : Expr} {op op' : CmpOp} {r r' : R2} (ho : OpR X (compareOp op) r) (ho' : OpR X (compareOp op') r') {i j k : Int} {g g' : Int → Int → Bool} (er : r = L2.rI0 fun i j => .bl (g i j)) (er' : r' = L2.rI0 fun i j => .bl (g' i j))
    (h : DE X c σ m a (fun r1 m1 => r1 = rI i ∧ DE X c σ m1 b (fun r2 m2 => r2 = rI j ∧ (g i j = true → DE X c σ m2 e (fun r3 m3 => r3 = rI k ∧ K (rB (g' j k)) m3)) ∧ (g i j = false → K (rB false) m2))))
    (hm : lastMarks [op, op'] [b, e] = false := by with_unfolding_all rfl) : DE X c σ m (.Compare a [op, op'] [b, e] pos) K := fun pins s τ H G Q I E kk => by
  subst er er'
  refine (pe_chain ho ho' (pe_t (c := c)) (pe_t (c := c)) (pe_t (c := c)) hm).run pins s τ H Q I ?_
  refine ⟨σ, m, G, _, E, h, fun r1 m1 G1 H1 v1 ⟨e1, z1⟩ x1 E1 rv1 => ?_⟩
  refine ⟨σ, m1, G1, _, E1, z1, fun r2 m2 G2 H2 v2 ⟨e2, z2, z3⟩ x2 E2 rv2 => ?_⟩
  subst e1 e2
  cases rv1 with | dat rv1 => cases rv2 with | dat rv2 =>
  cases rv1; cases rv2
  refine ⟨i, j, rfl, rfl, g i j, rfl, ?_⟩
  cases hg : g i j with
  | true =>
    rw [if_pos rfl]
    refine ⟨σ, m2, G2, _, E2, z2 hg, fun r3 m3 G3 H3 v3 ⟨e3, z⟩ x3 E3 rv3 => ?_⟩
    subst e3
    cases rv3 with | dat rv3 =>
    cases rv3
    exact ⟨j, k, rfl, rfl, kk _ m3 G3 H3 _ z ((x1.trans x2).trans x3) E3 (.dat .bl)⟩
  | false =>
    rw [if_neg Bool.false_ne_true]
    exact kk _ m2 G2 H2 _ (z3 hg) (x1.trans x2) E2 (.dat .bl)
end
end D2
/-! ## D2Call -/
set_option Elab.async false
set_option linter.all false
set_option maxRecDepth 100000
set_option maxHeartbeats 2000000
namespace D2
open PySem PySem.Spec PyProof.Rows L2

/-! ### what a def promises, over data -/
/-- arguments, the owned objects that it is handed, what is wanted of the answer, of an exception -/
abbrev Sp2 := List R → Mem → (R → Mem → Prop) → (Addr → List (Str × D) → Mem → Prop) → Prop
/-- an exception's own dict -/
def ExcD (K : PySem.W.Frag) (G : Hp) (fs : List (Str × D)) (d : Option Addr) : Prop := (fs = [] ∧ d = none) ∨ ∃ dd vs, d = some dd ∧ G dd = some (.xd vs) ∧ RepF K G fs vs
structure OutOk (K : PySem.W.Frag) (m m' : Mem) (G H G' H' : Hp) : Prop where
  up : Ex G G'
  sub : Ex G' H'
  nd : (m'.map (·.1)).Nodup
  mem : MemOk K m' G' H'
  fr : ∀ a o, H a = some o → (∀ p ∈ m, p.1 ≠ a) → H' a = some o
  th : ∀ p ∈ m, H' p.1 ≠ none
  ok : ∀ p ∈ m', (∃ q ∈ m, q.1 = p.1) ∨ H p.1 = none
  gn : ∀ a o, G' a = some o → G a = some o ∨ (∃ q ∈ m, q.1 = a) ∨ H a = none
def spOf (K : PySem.W.Frag) (S : Sp2) : Sp := fun vs H Q E => ∃ rs m G Kr Ke, S rs m Kr Ke ∧ Ex G H ∧ (m.map (·.1)).Nodup ∧ MemOk K m G H ∧ RelRs K G rs vs ∧
  (∀ r m' G' H' v, Kr r m' → OutOk K m m' G H G' H' → RelR K G' r v → Q v H') ∧
  (∀ C fs m' G' H' d, Ke C fs m' → OutOk K m m' G H G' H' → ExcD K G' fs d → E (.ref C) d H')

/-- the context takes what is wished of exceptions -/
def Wx (X : Cx) (c : Ct) : WX := fun cls d τ H => ∃ σ m G C fs, cls = .ref C ∧ c.ex σ m C fs ∧ EnvOk X c σ m G τ H ∧ ExcD X.K G fs d
def Tk (X : Cx) (c : Ct) : Prop := L2N.Takes X (Wx X c)
theorem tk_none {X : Cx} {c : Ct} (h : ∀ σ m C fs, ¬ c.ex σ m C fs) : Tk X c := fun _ _ ⟨_, _, _, _, _, _, _, _, _, _, _, _, _, _, _, _, ⟨σ, m, _, C, fs, _, w, _⟩⟩ => (h σ m C fs w).elim
/-- the def behind a module's name keeps a promise -/
def CalleeG (P : Program) (w : World) (K : PySem.W.Frag) (mg : Str → Option Value) (base : Heap) (x : Str) (k : Nat) (S : Sp2) : Prop :=
  ∃ f fd ps, mg x = some (.ref f) ∧ PySem.W.keepIn K (.ref f) = true ∧ Binds K fd ps [] ∧ FnOk P w K mg base (L2N.CX P w) k f fd ps (spOf K S)
abbrev Callee (X : Cx) (x : Str) (k : Nat) (S : Sp2) : Prop := CalleeG X.prog X.w X.K X.mg X.base x k S
structure Live (X : Cx) (c : Ct) (k : Nat) : Prop where
  own : PassesOwn (model X.prog X.w) X.A X.env X.xe
  tk : Tk X c
  calm : X.calm = true
  room : Room k X.A

/-! ### parts of the owned objects -/
inductive Split : Mem → Mem → Mem → Prop
  | nil {m} : Split m [] m
  | cons {m a o m1 mf rest} : Has m a o m1 → Split m1 mf rest → Split m ((a, o) :: mf) rest
theorem Has.perm {m m' : Mem} {a : Addr} {o : O} (h : Has m a o m') : m.Perm ((a, o) :: m') := by
  induction h with
  | here => exact .refl _
  | there _ ih => exact (ih.cons _).trans (.swap _ _ _)
theorem Split.perm {m mf rest : Mem} (h : Split m mf rest) : m.Perm (mf ++ rest) := by
  induction h with
  | nil => exact .refl _
  | cons h _ ih => exact h.perm.trans (ih.cons _)
section
variable {X : Cx} {c : Ct} {σ : Sl} {m m1 mf rest m' : Mem} {G G' : Hp} {τ : L2.St} {H H' : Hp}
/-- behind a call -/
theorem EnvOk.after (E : EnvOk X c σ m G τ H) (h : Split m mf rest) (o : OutOk X.K mf m' G H G' H') : EnvOk X c σ (m' ++ rest) G' τ H' := by
  have pm := h.perm
  have inF : ∀ p ∈ mf, p ∈ m := fun p hp => pm.mem_iff.mpr (List.mem_append_left _ hp)
  have inR : ∀ p ∈ rest, p ∈ m := fun p hp => pm.mem_iff.mpr (List.mem_append_right _ hp)
  have nd : ((mf ++ rest).map (·.1)).Nodup := (pm.map _).nodup_iff.mp E.nd
  have apart : ∀ p ∈ mf, ∀ q ∈ rest, p.1 ≠ q.1 := fun p hp q hq e => by
    rw [List.map_append, List.nodup_append] at nd
    exact nd.2.2 p.1 (List.mem_map_of_mem (f := (·.1)) hp) q.1 (List.mem_map_of_mem (f := (·.1)) hq) e
  have keepR : ∀ q ∈ rest, H' q.1 = H q.1 := fun q hq => by
    obtain ⟨_, ho, hh, _⟩ := E.mem q (inR q hq)
    rw [hh]
    exact o.fr q.1 ho hh fun p hp => apart p hp q hq
  refine ⟨E.nm, E.names, E.len, o.sub, ?_, fun p hp => ?_, fun a w ha hm => ?_, fun a ha => ?_, fun p hp => ?_, fun a w ha => ?_, E.g0.trans o.up, E.vis, fun i x r hi => ?_⟩
  · rw [List.map_append, List.nodup_append]
    refine ⟨o.nd, ?_, fun a ha b hb e => ?_⟩
    · rw [List.map_append, List.nodup_append] at nd; exact nd.2.1
    · obtain ⟨p, hp, rfl⟩ := List.mem_map.mp ha
      obtain ⟨q, hq, rfl⟩ := List.mem_map.mp hb
      rcases o.ok p hp with ⟨z, hz, ez⟩ | hn
      · exact apart z hz q hq (ez.trans e)
      · obtain ⟨_, ho, hh, _⟩ := E.mem q (inR q hq)
        rw [e, hh] at hn; cases hn
  · rcases List.mem_append.mp hp with hp | hp
    · exact o.mem p hp
    · obtain ⟨g, ho, hh, ro⟩ := E.mem p (inR p hp)
      refine ⟨?_, ho, by rw [keepR p hp]; exact hh, ro.mono o.up⟩
      cases e : G' p.1 with
      | none => rfl
      | some w =>
        rcases o.gn p.1 w e with z | ⟨q, hq, z⟩ | z
        · rw [g] at z; cases z
        · exact absurd z (apart q hq p hp)
        · rw [hh] at z; cases z
  · have z := E.fr a w ha hm
    refine o.fr a w z fun p hp e => ?_
    rcases E.ok p (inF p hp) with y | y
    · rw [e] at y; exact hm y
    · rw [e, ha] at y; cases y
  · have z := E.th a ha
    by_cases hq : ∃ p ∈ mf, p.1 = a
    · obtain ⟨p, hp, e⟩ := hq
      rw [← e]; exact o.th p hp
    · cases e : H a with
      | none => exact absurd e z
      | some w =>
        rw [o.fr a w e fun p hp e' => hq ⟨p, hp, e'⟩]
        exact fun y => by cases y
  · rcases List.mem_append.mp hp with hp | hp
    · rcases o.ok p hp with ⟨q, hq, e⟩ | hn
      · rw [← e]; exact E.ok q (inF q hq)
      · rcases E.h0 hn with y | y
        · exact .inr y
        · exact .inl y
    · exact E.ok p (inR p hp)
  · rcases o.gn a w ha with z | ⟨q, hq, e⟩ | hn
    · exact E.gn a w z
    · rw [← e]; exact .inr (E.ok q (inF q hq))
    · rcases E.h0 hn with y | y
      · exact .inr (.inr y)
      · exact .inr (.inl y)
  · obtain ⟨v, h1, h2⟩ := E.sl i x r hi
    exact ⟨v, h1, h2.mono o.up⟩
theorem EnvOk.part (E : EnvOk X c σ m G τ H) (h : Split m mf rest) : (mf.map (·.1)).Nodup ∧ MemOk X.K mf G H := by
  have pm := h.perm
  refine ⟨?_, fun p hp => E.mem p (pm.mem_iff.mpr (List.mem_append_left _ hp))⟩
  have nd : ((mf ++ rest).map (·.1)).Nodup := (pm.map _).nodup_iff.mp E.nd
  rw [List.map_append, List.nodup_append] at nd
  exact nd.1
end

/-! ### a call by a module's name -/
section
variable {X : Cx} {c : Ct} {σ : Sl} {m : Mem} {x : Str} {S : Sp2} {k j : Nat} {e : Expr} {es : List Expr} {K : R → Mem → Prop} {p pos : Pos}
theorem callee_sp {mf rest : Mem} {rs : List R} {vs : List V} {G : Hp} {τ : L2.St} {H : Hp} {Q : VK} (E : EnvOk X c σ m G τ H) (hs : Split m mf rest) (rv : RelRs X.K G rs vs) (h : S rs mf (fun r m' => K r (m' ++ rest)) (fun C fs m' => c.ex σ (m' ++ rest) C fs))
    (q : CK X c σ τ G K Q) : spOf X.K S vs H Q (WE (Wx X c) τ) := by
  obtain ⟨h1, h2⟩ := E.part hs
  refine ⟨rs, mf, G, _, _, h, E.sub, h1, h2, rv, fun r m' G' H' v z o rv' => ?_, fun C fs m' G' H' d z o hd => ?_⟩
  · exact q r (m' ++ rest) G' H' v z o.up (E.after hs o) rv'
  · exact ⟨σ, m' ++ rest, G', C, fs, rfl, z, E.after hs o, hd⟩
theorem de_call (cl : Callee X x j S) (L : Live X c k) (hg : Gl X x) (h : DA X c σ m (e :: es) (fun rs m1 => ∃ mf rest, Split m1 mf rest ∧ S rs mf (fun r m' => K r (m' ++ rest)) (fun C fs m' => c.ex σ (m' ++ rest) C fs))) (hjk : j ≤ k := by decide)
    (hdb : (x == ("__debug__" : Str)) = false := by decide) (he : starEach (e :: es) X.env = (false, eval e X.env) :: starEach es X.env := by rfl) (hpl : (backTo pos (starEach es X.env)).any (·.1) = false := by rfl) : DE X c σ m (.Call (.Name x p) (e :: es) [] pos) K := fun pins s τ H G Q I E q => by
  obtain ⟨f, fd, ps, hm, hk, hb, F⟩ := cl
  refine (pe_callS (F.mono hjk) L.room hg hm hk hb (fun τ => L2N.passAt L.tk τ) (pa_t (c := c)) hdb he hpl).run pins s τ H Q I ?_
  exact ⟨σ, m, G, _, E, h, fun rs m1 G1 H1 vs ⟨mf, rest, hs, z⟩ x1 E1 rv => callee_sp E1 hs rv z (q.mono x1)⟩
end

/-! ### a def keeps its promise, by its body -/
section
variable {P : Program} {w : World} {K : PySem.W.Frag} {mg : Str → Option Value} {base : Heap} {x qual : Str} {params : Arguments} {body : List Stmt} {scope : Scope} {dvs : List V} {kws : List (Str × V)} {f : Addr} {fd : FuncData} {N ps : List Str} {k : Nat} {S : Sp2}
/-- what is told of a def's context -/
structure Def (X : Cx) (P : Program) (w : World) (K : PySem.W.Frag) (mg : Str → Option Value) (base : Heap) (N : List Str) (sc : Scope) : Prop where
  prog : X.prog = P
  w : X.w = w
  K : X.K = K
  mg : X.mg = mg
  base : X.base = base
  N : X.N = N
  sc : X.env.scope = sc
  fn : ∀ x, X.fn x = true
  stk : X.stack = X.env :: X.outer
  fra : X.env.frame = some X.env.locals
theorem start_len {N : List Str} {vs : List V} (h : vs.length ≤ N.length) : (L2.start N vs).length = N.length := by
  unfold L2.start
  rw [List.length_append, List.length_map, List.length_replicate]
  omega
def slots (N : List Str) (rs : List R) : Sl := N.zip (rs.map some ++ List.replicate (N.length - rs.length) none)
theorem slots_names {N : List Str} {rs : List R} (h : rs.length ≤ N.length) : (slots N rs).map (·.1) = N := by
  unfold slots
  rw [List.map_fst_zip]
  rw [List.length_append, List.length_map, List.length_replicate]
  omega
theorem fn2 (F : FunD K x qual params body scope dvs kws f fd) (Sc : FnScope N ps scope) (dbg : ∀ x ∈ N, (x == ("__debug__" : Str)) = false ∧ (x == ("__classdict__" : Str)) = false) (len : ∀ rs m Kr Ke, S rs m Kr Ke → rs.length = ps.length)
    (hb : ∀ (X : Cx) (c : Ct) (rs : List R) (m : Mem) (Kr : R → Mem → Prop) (Ke : Addr → List (Str × D) → Mem → Prop), Def X P w K mg base N scope → Live X c k → (∀ σ m' C fs, Ke C fs m' → c.ex σ m' C fs) → S rs m Kr Ke →
      DSs X c (slots N rs) m body { nx := fun _ m' => Kr (.dat .non) m', rt := Kr }) : FnOk P w K mg base (L2N.CX P w) (k + 1) f fd ps (spOf K S) := by
  refine F.ok Sc (fun vs H Q E ⟨rs, m, G, Kr, Ke, h, _, _, _, rv, _⟩ => by rw [← rv.length]; exact len _ _ _ _ h) fun cdv A outer s H vs Q E hr ⟨rs, m, G, Kr, Ke, h, sub, nd, mem, rv, hQ, hE⟩ => ?_
  have hrl : rs.length = ps.length := len _ _ _ _ h
  have hpl : ps.length ≤ N.length := by have := congrArg List.length Sc.pre; rw [List.length_take] at this; omega
  let X : Cx := cxOf (L2N.CX P w) P w K mg base N qual scope f cdv A outer s H E
  let c : Ct := ⟨H, G, m.map (·.1), fun _ m' C fs => Ke C fs m'⟩
  have out : ∀ {σ : Sl} {m' : Mem} {G' : Hp} {τ : L2.St} {H' : Hp}, Ex G G' → EnvOk X c σ m' G' τ H' → OutOk K m m' G H G' H' := fun {σ m' G' τ H'} up E' => by
    refine ⟨up, E'.sub, E'.nd, E'.mem, fun a o ha hn => E'.fr a o ha fun hm => ?_, fun p hp => E'.th p.1 (List.mem_map_of_mem (f := (·.1)) hp), fun p hp => ?_, fun a o ha => ?_⟩
    · obtain ⟨p, hp, e⟩ := List.mem_map.mp hm
      exact hn p hp e
    · rcases E'.ok p hp with z | z
      · obtain ⟨q, hq, e⟩ := List.mem_map.mp z
        exact .inl ⟨q, hq, e⟩
      · exact .inr z
    · rcases E'.gn a o ha with z | z | z
      · exact .inl z
      · obtain ⟨q, hq, e⟩ := List.mem_map.mp z
        exact .inr (.inl ⟨q, hq, e⟩)
      · exact .inr (.inr z)
  have D : Def X P w K mg base N scope := ⟨rfl, rfl, rfl, rfl, rfl, rfl, rfl, fun _ => rfl, rfl, rfl⟩
  have G0 : ∀ {σ : Sl} {m' : Mem} {G' : Hp} {τ : L2.St} {H' : Hp}, EnvOk X c σ m' G' τ H' → True := fun _ => trivial
  have tk : L2N.Takes X (fun cls d _ H' => E cls d H') := L2N.takes_of rfl rfl rfl rfl
  refine ⟨tSs X c body, pss_t, G, slots N rs, m, G, _, ?_, hb X c rs m Kr (fun C fs m' => Ke C fs m') D ⟨passes_of rfl, ?_, rfl, hr⟩ (fun _ _ _ _ z => z) h, Ex.refl G, ?_⟩
  · refine ⟨⟨Sc.nd, dbg⟩, (slots_names (by rw [hrl]; exact hpl)).symm, ?_, sub, nd, mem, fun a o ha _ => ha, fun a ha => ?_, fun p hp => .inl (List.mem_map_of_mem (f := (·.1)) hp), fun a o ha => .inl ha, Ex.refl G, fun p hp hs => ?_, fun i y r hi => ?_⟩
    · rw [start_len (by rw [← rv.length, hrl]; exact hpl)]
      have e := congrArg List.length (slots_names (N := N) (rs := rs) (by rw [hrl]; exact hpl))
      rw [List.length_map] at e
      exact e.symm
    · obtain ⟨p, hp, rfl⟩ := List.mem_map.mp ha
      obtain ⟨_, ho, hh, _⟩ := mem p hp
      rw [hh]; exact fun z => by cases z
    · -- a slot with a value is a parameter
      obtain ⟨i, hi⟩ := List.mem_iff_getElem?.mp hp
      unfold slots at hi
      rw [List.getElem?_zip_eq_some] at hi
      obtain ⟨h1, h2⟩ := hi
      have lt : i < rs.length := by
        by_cases lt : i < rs.length
        · exact lt
        · rw [List.getElem?_append_right (by simpa using Nat.le_of_not_lt lt), List.getElem?_replicate] at h2
          split at h2
          · cases h2' : p.2 with
            | none => rw [h2'] at hs; cases hs
            | some z => rw [h2'] at h2; cases h2
          · cases h2
      have hp1 : p.1 ∈ ps := by
        rw [← Sc.pre]
        exact List.mem_of_getElem? (by rw [List.getElem?_take_of_lt (by rw [← hrl]; exact lt)]; exact h1)
      rcases Sc.par _ hp1 with k | k
      · exact .inl k
      · exact .inr (.inl k)
    · unfold slots at hi
      rw [List.getElem?_zip_eq_some] at hi
      obtain ⟨h1, h2⟩ := hi
      have lt : i < rs.length := by
        by_cases lt : i < rs.length
        · exact lt
        · rw [List.getElem?_append_right (by simpa using Nat.le_of_not_lt lt), List.getElem?_replicate] at h2
          split at h2 <;> cases h2
      rw [List.getElem?_append_left (by simpa using lt), List.getElem?_map] at h2
      have hr' : rs[i]? = some r := by
        cases e : rs[i]? with
        | none => rw [e] at h2; cases h2
        | some z => rw [e] at h2; cases h2; rfl
      obtain ⟨v, hv, rv'⟩ := rv.get hr'
      refine ⟨v, ?_, rv'⟩
      unfold L2.start
      rw [List.getElem?_append_left (by rw [List.length_map, ← rv.length]; exact lt), List.getElem?_map, hv] <;> rfl
  · refine L2N.Takes.imp tk fun cls d τ H' ⟨σ, m', G', C, fs, e, z, E', hd⟩ => ?_
    subst e
    exact hE C fs m' G' H' d z (out E'.g0 E') hd
  · refine ⟨fun σ m' G' τ H' z up E' => hQ _ m' G' H' .non z (out up E') (.dat .non), fun r σ m' G' τ H' v z up E' rv' => hQ r m' G' H' v z (out up E') rv', fun _ _ _ _ _ z => z.elim, fun _ _ _ _ _ z => z.elim⟩
end
end D2
/-! ## D2Bi -/
set_option Elab.async false
set_option linter.all false
set_option maxRecDepth 100000
set_option maxHeartbeats 2000000
namespace D2
open PySem PySem.Spec PyProof.Rows L2
section
variable {X : Cx} {c : Ct} {σ : Sl} {m m' m1 : Mem} {x : Str} {k j : Nat} {e o a b : Expr} {es : List Expr} {K : R → Mem → Prop} {p pos apos : Pos} {id T : String} {name : Str}

/-! ### built-in functions, classes -/
def BK (X : Cx) (c : Ct) (σ : Sl) (m : Mem) (r : List V → Hp → VK → Prop) (rs : List R) (K : R → Mem → Prop) : Prop :=
  ∀ (τ : L2.St) (H G : Hp) (vs : List V) (Q : VK), EnvOk X c σ m G τ H → RelRs X.K G rs vs → CK X c σ τ G K Q → r vs H Q
theorem de_callB {r : List V → Hp → VK → Prop} (hc : CallR X (.builtin id) r) (hg : Gl X x) (hm : X.mg x = none) (hv : bootBuiltins x = some (.builtin id)) (h : DA X c σ m (e :: es) (fun rs m1 => BK X c σ m1 r rs K)) (hn : x ≠ "__name__" := by decide) (hdb : (x == ("__debug__" : Str)) = false := by decide)
    (he : starEach (e :: es) X.env = (false, eval e X.env) :: starEach es X.env := by rfl) (hpl : (backTo pos (starEach es X.env)).any (·.1) = false := by rfl) : DE X c σ m (.Call (.Name x p) (e :: es) [] pos) K :=
  de_of (pe_callB hc hg hm hv (pa_t (c := c)) hn hdb he hpl) fun τ H G Q E q => ⟨σ, m, G, _, E, h, fun rs m1 G1 H1 vs z x1 E1 rv => z τ H1 G1 vs Q E1 rv (q.mono x1)⟩
theorem de_callT {r : List V → Hp → VK → Prop} (hc : CallR X (.type T) r) (hg : Gl X x) (hm : X.mg x = none) (hv : bootBuiltins x = some (.type T)) (h : DA X c σ m (e :: es) (fun rs m1 => BK X c σ m1 r rs K)) (hn : x ≠ "__name__" := by decide) (hdb : (x == ("__debug__" : Str)) = false := by decide)
    (he : starEach (e :: es) X.env = (false, eval e X.env) :: starEach es X.env := by rfl) (hpl : (backTo pos (starEach es X.env)).any (·.1) = false := by rfl) : DE X c σ m (.Call (.Name x p) (e :: es) [] pos) K :=
  de_of (pe_callTy hc hg hm hv (pa_t (c := c)) hn hdb he hpl) fun τ H G Q E q => ⟨σ, m, G, _, E, h, fun rs m1 G1 H1 vs z x1 E1 rv => z τ H1 G1 vs Q E1 rv (q.mono x1)⟩
theorem one_of {G : Hp} {r : R} {vs : List V} {Kf : PySem.W.Frag} (h : RelRs Kf G [r] vs) : ∃ v, vs = [v] ∧ RelR Kf G r v := by
  cases h with | cons h t => cases t; exact ⟨_, rfl, h⟩
theorem two_of {G : Hp} {r q : R} {vs : List V} {Kf : PySem.W.Frag} (h : RelRs Kf G [r, q] vs) : ∃ v u, vs = [v, u] ∧ RelR Kf G r v ∧ RelR Kf G q u := by
  cases h with | cons h t => cases t with | cons h' t => cases t; exact ⟨_, _, rfl, h, h'⟩
theorem int_of {G : Hp} {i : Int} {v : V} {Kf : PySem.W.Frag} (h : RelR Kf G (rI i) v) : v = .int i := by
  cases h with | dat h => cases h; rfl
theorem str_of {G : Hp} {s : List Nat} {v : V} {Kf : PySem.W.Frag} (h : RelR Kf G (rS s) v) : v = .str (sOf s) := by
  cases h with | dat h => cases h; rfl
theorem bl_of {G : Hp} {s : Bool} {v : V} {Kf : PySem.W.Frag} (h : RelR Kf G (rB s) v) : v = .bl s := by
  cases h with | dat h => cases h; rfl

/-- a value's length -/
inductive Ln (m : Mem) : R → Nat → Prop
  | str {s} (h : s.length ≤ 10000000) : Ln m (rS s) s.length
  | lst {r rs} (h : VL m r rs) : Ln m r rs.length
  | tup {ds} : Ln m (.dat (.tup ds)) ds.length
abbrev rLen (K : PySem.W.Frag) : List V → Hp → VK → Prop := fun xs H Q => ∃ x n, xs = [x] ∧ LenV K x H n ∧ Q (.int n) H
theorem b_len {r : R} {n : Nat} (h : Ln m r n) (k : K (rI n) m) : BK X c σ m (rLen X.K) [r] K := fun τ H G vs Q E rv q => by
  obtain ⟨v, rfl, r1⟩ := one_of rv
  clear rv
  refine ⟨v, n, rfl, ?_, q.now k E (.dat .int)⟩
  cases h with
  | str h => cases str_of r1; exact ⟨by rw [sOf_len]; exact Nat.le_trans h (by decide), (sOf_len _).symm⟩
  | lst h =>
    obtain ⟨a, vs, rfl, hs, rr⟩ := h.at E r1
    exact .inl ⟨vs, hs, rr.length⟩
  | tup =>
    cases r1 with | dat r1 =>
    cases r1 with | tup hs rr => exact .inr ⟨_, ex_t E.sub hs, rr.length⟩
theorem d_len (hg : Gl X "len") (hm : X.mg "len" = none) (h : DE X c σ m e (fun r m1 => ∃ n, Ln m1 r n ∧ K (rI n) m1)) (hst : starEach [e] X.env = (false, eval e X.env) :: starEach [] X.env := by rfl) : DE X c σ m (.Call (.Name "len" p) [e] [] pos) K :=
  de_callB call_len hg hm boot_len (da_cons (h.imp fun r m1 ⟨n, z, k⟩ => da_nil (b_len z k)) hst) (he := hst)
theorem d_int (hg : Gl X "int") (hm : X.mg "int" = none) (h : DE X c σ m e (fun r m1 => ∃ i, r = rI i ∧ K (rI i) m1)) (hst : starEach [e] X.env = (false, eval e X.env) :: starEach [] X.env := by rfl) : DE X c σ m (.Call (.Name "int" p) [e] [] pos) K :=
  de_callT call_int1 hg hm boot_int (da_cons (h.imp fun r m1 ⟨i, z, k⟩ => da_nil fun τ H G vs Q E rv q => by
    subst z
    obtain ⟨v, rfl, r1⟩ := one_of rv
    cases int_of r1
    exact .inl ⟨i, rfl, q.now k E (.dat .int)⟩) hst) (he := hst)
theorem d_abs (hg : Gl X "abs") (hm : X.mg "abs" = none) (h : DE X c σ m e (fun r m1 => ∃ i, r = rI i ∧ K (rI (if i < 0 then -i else i)) m1)) (hst : starEach [e] X.env = (false, eval e X.env) :: starEach [] X.env := by rfl) : DE X c σ m (.Call (.Name "abs" p) [e] [] pos) K :=
  de_callB call_abs hg hm (by decide +kernel) (da_cons (h.imp fun r m1 ⟨i, z, k⟩ => da_nil fun τ H G vs Q E rv q => by
    subst z
    obtain ⟨v, rfl, r1⟩ := one_of rv
    cases int_of r1
    exact ⟨i, rfl, q.now k E (.dat .int)⟩) hst) (he := hst)

/-! ### methods of built-in types -/
/-- of which built-in type the receiver is -/
inductive TyM (m : Mem) : String → R → Prop
  | str {s} : TyM m "str" (rS s)
  | int {i} : TyM m "int" (rI i)
  | lst {r rs} (h : VL m r rs) : TyM m "list" r
  | dk {a kvs m'} (h : Has m a (.dk kvs) m') : TyM m "dict" (.own a)
theorem TyM.at {τ : L2.St} {H G : Hp} {r : R} {v : V} (h : TyM m T r) (E : EnvOk X c σ m G τ H) (rv : RelR X.K G r v) : tyV X.K T v H := by
  cases h with
  | str => cases str_of rv; rfl
  | int => cases int_of rv; rfl
  | lst h => obtain ⟨a, vs, rfl, hs, rr⟩ := h.at E rv; exact .inl ⟨rfl, vs, hs⟩
  | dk h =>
    cases rv
    obtain ⟨_, ho, hh, ro⟩ := E.mem _ h.mem
    cases ro with | dk ro => exact .inr (.inr (.inl ⟨rfl, .inl ⟨_, hh⟩⟩))
def MK (X : Cx) (c : Ct) (σ : Sl) (m : Mem) (r : V → List V → Hp → VK → Prop) (ro : R) (rs : List R) (K : R → Mem → Prop) : Prop :=
  ∀ (τ : L2.St) (H G : Hp) (v : V) (vs : List V) (Q : VK), EnvOk X c σ m G τ H → RelR X.K G ro v → RelRs X.K G rs vs → CK X c σ τ G K Q → r v vs H Q
theorem de_bm {r : V → List V → Hp → VK → Prop} (pa : PlainAttrs T) (slot : Slot T name id) (hty : typeOf (.builtin id) = pure (.type "method_descriptor")) (hm : MtR X id r)
    (h : DE X c σ m o (fun ro m1 => TyM m1 T ro ∧ DA X c σ m1 (e :: es) (fun rs m2 => MK X c σ m2 r ro rs K))) (hbase : attributeBase o name X.env (eval o X.env) = eval o X.env := by rfl)
    (hfew : ((backTo pos (starEach (e :: es) X.env)).all (fun x => !x.1) && (backToKw pos (keywordEach [] X.env)).all (fun x => x.1.isSome)
      && decide ((e :: es).length + ([] : List Keyword).length + (if ([] : List Keyword).isEmpty then 0 else 1) < 30)) = true := by rfl)
    (hline : (apos.endLine == pos.line) = true := by rfl) (hs : starEach (e :: es) X.env = (false, eval e X.env) :: starEach es X.env := by rfl) (hplain : (backTo pos (starEach es X.env)).any (·.1) = false := by rfl) :
    DE X c σ m (.Call (.Attribute o name apos) (e :: es) [] pos) K :=
  de_of (pe_bm pa slot hty hm (pe_t (c := c)) (pa_t (c := c)) hbase hfew hline hs hplain) fun τ H G Q E q => ⟨σ, m, G, _, E, h, fun ro m1 G1 H1 v ⟨t, d⟩ x1 E1 rv =>
    ⟨t.at E1 rv, σ, m1, G1, _, E1, d, fun rs m2 G2 H2 vs z x2 E2 rvs => z τ H2 G2 v vs Q E2 (rv.mono x2) rvs (q.mono (x1.trans x2))⟩⟩
theorem de_bm0 {r : V → List V → Hp → VK → Prop} (pa : PlainAttrs T) (slot : Slot T name id) (hty : typeOf (.builtin id) = pure (.type "method_descriptor")) (hm : MtR X id r)
    (h : DE X c σ m o (fun ro m1 => TyM m1 T ro ∧ MK X c σ m1 r ro [] K)) (hbase : attributeBase o name X.env (eval o X.env) = eval o X.env := by rfl) (hline : (apos.endLine == pos.line) = true := by rfl) :
    DE X c σ m (.Call (.Attribute o name apos) [] [] pos) K :=
  de_of (pe_bm0 pa slot hty hm (pe_t (c := c)) hbase hline) fun τ H G Q E q => ⟨σ, m, G, _, E, h, fun ro m1 G1 H1 v ⟨t, z⟩ x1 E1 rv => ⟨t.at E1 rv, z τ H1 G1 v [] Q E1 rv .nil (q.mono x1)⟩⟩
theorem k_append {a : Addr} {rs : List R} {r : R} (h : Chg m a (.lst rs) (.lst (rs ++ [r])) m') (hl : rs.length < 1000000) (k : K (.dat .non) m') : MK X c σ m rAppend (.own a) [r] K := fun τ H G v vs Q E ro rv q => by
  cases ro
  obtain ⟨u, rfl, ru⟩ := one_of rv
  obtain ⟨_, ho, hh, rr⟩ := E.mem _ h.mem
  cases rr with | lst rr =>
  exact ⟨a, _, u, rfl, rfl, hh, by rw [← rr.length]; exact Nat.lt_of_lt_of_le hl (by decide), q _ _ G _ _ k (Ex.refl G) (E.chg h (.lst (rr.append (.cons ru .nil)))) (.dat .non)⟩
theorem k_extend {a : Addr} {b : R} {rs qs : List R} (h : Chg m a (.lst rs) (.lst (rs ++ qs)) m') (hb : VU m b qs) (hl : rs.length + qs.length ≤ 1000000) (k : K (.dat .non) m') : MK X c σ m rExtend (.own a) [b] K := fun τ H G v vs Q E ro rv q => by
  cases ro
  obtain ⟨u, rfl, ru⟩ := one_of rv
  obtain ⟨b', us, rfl, hbb, rb⟩ := hb.at E ru
  obtain ⟨_, ho, hh, rr⟩ := E.mem _ h.mem
  cases rr with | lst rr =>
  exact ⟨a, b', _, us, rfl, rfl, hh, hbb, by rw [← rr.length, ← rb.length]; exact Nat.le_trans hl (by decide), q _ _ G _ _ k (Ex.refl G) (E.chg h (.lst (rr.append rb))) (.dat .non)⟩
theorem reps_strs {G : Hp} {Kf : PySem.W.Frag} : ∀ {ss : List (List Nat)} {vs : List V}, RelRs Kf G (ss.map rS) vs → vs = (ss.map sOf).map V.str
  | [], _, .nil => rfl
  | s :: ss, _, .cons h t => by rw [str_of h, reps_strs t]; rfl
theorem lens_sum (ss : List (List Nat)) : ((ss.map sOf).map (·.length)).sum = (ss.map (·.length)).sum := by
  rw [List.map_map]
  refine congrArg List.sum (List.map_congr_left fun s _ => ?_)
  exact sOf_len s
abbrev rJoin (K : PySem.W.Frag) : V → List V → Hp → VK → Prop := fun x xs H Q => ∃ a p, ∃ ys : List Str, x = .str a ∧ xs = [.ref p] ∧ (SqL K H p (ys.map V.str) ∨ SqT K H p (ys.map V.str)) ∧
    (ys.map (·.length)).sum + ys.length * a.length ≤ 16777216 ∧ Q (.str (Txt.join a ys)) H
theorem tl_sOf (l : List Nat) : TL.tl (sOf l) = l := by
  unfold TL.tl
  simp [sOf]
theorem join_flat : ∀ ss : List (List Nat), TL.joinL [] ss = ss.flatten
  | [] => rfl
  | [s] => by simp [TL.joinL]
  | s :: t :: r => by
    show s ++ ([] ++ TL.joinL [] (t :: r)) = _
    rw [List.nil_append, join_flat (t :: r)]; rfl
theorem k_joinE {r : R} {ss : List (List Nat)} (h : VL m r (ss.map rS)) (hl : (ss.map (·.length)).sum ≤ 1000000) (k : K (rS ss.flatten) m) : MK X c σ m (rJoin X.K) (rS []) [r] K := fun τ H G v vs Q E ro rv q => by
  cases str_of ro
  obtain ⟨u, rfl, ru⟩ := one_of rv
  obtain ⟨a, us, rfl, hs, rr⟩ := h.at E ru
  cases reps_strs rr
  refine ⟨_, a, ss.map sOf, rfl, rfl, .inl hs, ?_, ?_⟩
  · rw [lens_sum]
    have e : (sOf []).length = 0 := rfl
    rw [e, Nat.mul_zero]
    exact Nat.le_trans hl (by decide)
  · have e : Txt.join (sOf []) (ss.map sOf) = sOf ss.flatten := by
      have h2 := TL.tl_join (sOf []) (ss.map sOf)
      rw [tl_sOf, List.map_map, show (TL.tl ∘ sOf) = id from funext tl_sOf, List.map_id, join_flat] at h2
      rw [TL.join_eq, ← h2]
    rw [e]
    exact q.now k E (.dat .str)

/-! ### subscripts -/
def IX (X : Cx) (c : Ct) (σ : Sl) (m : Mem) (a b : Expr) (r1 r2 : R) (K : R → Mem → Prop) : Prop :=
  ∀ (pins : List (Addr × Obj)) (s : Shared) (τ : L2.St) (H G : Hp) (v1 v2 : V) (u1 u2 : Value) (Q : VK), Inv X pins τ H s → EnvOk X c σ m G τ H → RelR X.K G r1 v1 → RelR X.K G r2 v2 → RelV v1 u1 → RelV v2 u2 →
    CK X c σ τ G K Q → subscripted b false u1 u2 = operate [u1, u2] (getItem u1 u2) → wpAny (model X.prog X.w) X.A (subscriptTail a b u1 u2) (EP X pins τ Q) X.xe s
theorem de_ix (h : DE X c σ m a (fun r1 m1 => DE X c σ m1 b (fun r2 m2 => IX X c σ m2 a b r1 r2 K))) (hs : PlainIx b := by intro _ _; rfl) : DE X c σ m (.Subscript a b pos) K := fun pins s τ H G Q I E k => by
  refine Subscript_ (two (f := fun v u => subscriptTail a b v u) (h.imp fun r1 m1 z => z.imp fun r2 m2 z => fun pins s τ H G v1 v2 u1 u2 Q I E q1 q2 p1 p2 k => z pins s τ H G v1 v2 u1 u2 Q I E q1 q2 p1 p2 k (hs _ _)) I E k)
theorem ix_of {r : R2} {r1 r2 : R} (h : IxR X r) (g : ∀ τ H G v1 v2 Q, EnvOk X c σ m G τ H → RelR X.K G r1 v1 → RelR X.K G r2 v2 → CK X c σ τ G K Q → r v1 v2 H Q) : IX X c σ m a b r1 r2 K :=
  fun pins s τ H G v1 v2 u1 u2 Q I E q1 q2 p1 p2 k hs => h a b pins s τ H v1 v2 u1 u2 Q I p1 p2 (g τ H G v1 v2 Q E q1 q2 k) hs
theorem at_rel {Kf : PySem.W.Frag} {G : Hp} {rs : List R} {vs : List V} {i : Int} {r : R} (h : RelRs Kf G rs vs) (e : atI rs i = some r) : ∃ v, atI vs i = some v ∧ RelR Kf G r v := by
  unfold atI at e ⊢
  rw [← h.length]
  cases q : ixN rs.length i with
  | none => rw [q] at e; cases e
  | some j =>
    rw [q] at e
    exact h.get e
theorem x_lst {r1 : R} {rs : List R} {i : Int} {r : R} (h : VL m r1 rs) (e : atI rs i = some r) (k : K r m) : IX X c σ m a b r1 (rI i) K := ix_of ix_list fun τ H G v1 v2 Q E q1 q2 q => by
  obtain ⟨p, vs, rfl, hs, rr⟩ := h.at E q1
  cases int_of q2
  obtain ⟨v, hv, rv⟩ := at_rel rr e
  exact ⟨p, vs, i, v, rfl, rfl, hs, hv, q.now k E rv⟩
theorem x_tup {ds : List D} {i : Int} {d : D} (e : atI ds i = some d) (k : K (.dat d) m) : IX X c σ m a b (.dat (.tup ds)) (rI i) K := ix_of ix_tup fun τ H G v1 v2 Q E q1 q2 q => by
  cases int_of q2
  cases q1 with | dat q1 =>
  cases q1 with | tup hs rr =>
  have e' : atI (ds.map R.dat) i = some (.dat d) := by
    unfold atI at e ⊢
    rw [List.length_map]
    cases q : ixN ds.length i with
    | none => rw [q] at e; cases e
    | some j => rw [q] at e; show (ds.map R.dat)[j]? = _; rw [List.getElem?_map, show ds[j]? = some d from e] <;> rfl
  obtain ⟨v, hv, rv⟩ := at_rel rr.rel e'
  exact ⟨_, _, i, v, rfl, rfl, ex_t E.sub hs, hv, q.now k E rv⟩
theorem x_str {s : List Nat} {i : Int} {ch : Nat} (hl : s.length ≤ 1000000) (e : atI s i = some ch) (k : K (rS [ch]) m) : IX X c σ m a b (rS s) (rI i) K := ix_of ix_str fun τ H G v1 v2 Q E q1 q2 q => by
  cases str_of q1
  cases int_of q2
  refine ⟨_, i, ch, rfl, rfl, by rw [sOf_len]; exact Nat.le_trans hl (by decide), by rw [show (sOf s).cps.toList = s from lit_sOf s]; exact e, q.now k E (.dat (Rep.str (s := [ch])))⟩

/-! ### slices -/
def DO (X : Cx) (c : Ct) (σ : Sl) (m : Mem) (e : Option Expr) (K : Option Int → Mem → Prop) : Prop :=
  match e with
  | none => K none m
  | some e => DE X c σ m e (fun r m1 => ∃ i, r = rI i ∧ K (some i) m1)
def tO (X : Cx) (c : Ct) (e : Option Expr) : TO := match e with
  | none => tNoPart
  | some e => tPart (tE X c e)
theorem po_t {e : Option Expr} : PO X e (tO X c e) := by
  cases e with
  | none => exact po_none
  | some e => exact po_some pe_t
theorem do_run {e : Option Expr} {Ko : Option Int → Mem → Prop} {τ : L2.St} {H G : Hp} {Q : Option Int → Hp → Prop} (h : DO X c σ m e Ko) (E : EnvOk X c σ m G τ H) (q : ∀ o m' G' H', Ko o m' → Ex G G' → EnvOk X c σ m' G' τ H' → Q o H') : tO X c e τ H Q := by
  cases e with
  | none => exact q none m G H h (Ex.refl G) E
  | some e => exact ⟨σ, m, G, _, E, h, fun r m1 G1 H1 v ⟨i, ei, z⟩ x E1 rv => by
      subst ei
      cases int_of rv
      exact ⟨i, rfl, q _ m1 G1 H1 z x E1⟩⟩
def SL (X : Cx) (c : Ct) (σ : Sl) (m : Mem) (r : R) (lo hi : Option Int) (K : R → Mem → Prop) : Prop :=
  ∃ rr : V → Option Int → Option Int → Hp → VK → Prop, SlR X rr ∧ ∀ (τ : L2.St) (H G : Hp) (v : V) (Q : VK), EnvOk X c σ m G τ H → RelR X.K G r v → CK X c σ τ G K Q → rr v lo hi H Q
/-- the reading of a slice picks its rule by the receiver: the receiver's kind is told ahead -/
theorem de_slice {lo hi : Option Expr} {p2 : Pos} {rr : V → Option Int → Option Int → Hp → VK → Prop} (hr : SlR X rr)
    (h : DE X c σ m a (fun r m1 => DO X c σ m1 lo (fun l m2 => DO X c σ m2 hi (fun u m3 => ∀ (τ : L2.St) (H G : Hp) (v : V) (Q : VK), EnvOk X c σ m3 G τ H → RelR X.K G r v → CK X c σ τ G K Q → rr v l u H Q)))) :
    DE X c σ m (.Subscript a (.Slice lo hi none p2) pos) K :=
  de_of (pe_slice hr (pe_t (c := c)) (po_t (c := c)) (po_t (c := c))) fun τ H G Q E q => ⟨σ, m, G, _, E, h, fun r m1 G1 H1 v d1 x1 E1 rv =>
    do_run d1 E1 fun l m2 G2 H2 d2 x2 E2 => do_run d2 E2 fun u m3 G3 H3 d3 x3 E3 => d3 τ H3 G3 v Q E3 (rv.mono (x2.trans x3)) (q.mono ((x1.trans x2).trans x3))⟩
/-- any of the three kinds of slices -/
def rSlAny (K : PySem.W.Frag) : V → Option Int → Option Int → Hp → VK → Prop := fun x lo hi H Q => rSlL K x lo hi H Q ∨ rSlS x lo hi H Q
theorem sl_any : SlR X (rSlAny X.K) := SlR.or sl_list sl_str
def cutL {α : Type} (xs : List α) (lo hi : Option Int) : List α := (xs.drop (HT.sIx xs.length 0 lo)).take (HT.sIx xs.length xs.length hi - HT.sIx xs.length 0 lo)
theorem cut_rel {Kf : PySem.W.Frag} {G : Hp} {rs : List R} {vs : List V} {lo hi : Option Int} (h : RelRs Kf G rs vs) : RelRs Kf G (cutL rs lo hi) (cutV vs lo hi) := by
  unfold cutL cutV
  rw [h.length]
  exact (h.drop _).take _
/-- what a slice of a value is -/
def SlK (X : Cx) (c : Ct) (σ : Sl) (m : Mem) (r : R) (lo hi : Option Int) (K : R → Mem → Prop) : Prop := ∀ (τ : L2.St) (H G : Hp) (v : V) (Q : VK), EnvOk X c σ m G τ H → RelR X.K G r v → CK X c σ τ G K Q → rSlAny X.K v lo hi H Q
theorem d_slice {lo hi : Option Expr} {p2 : Pos} (h : DE X c σ m a (fun r m1 => DO X c σ m1 lo (fun l m2 => DO X c σ m2 hi (fun u m3 => SlK X c σ m3 r l u K)))) : DE X c σ m (.Subscript a (.Slice lo hi none p2) pos) K := de_slice sl_any h
theorem s_lst {r : R} {rs : List R} {lo hi : Option Int} (h : VL m r rs) (k : ∀ p, K (.own p) ((p, .lst (cutL rs lo hi)) :: m)) : SlK X c σ m r lo hi K := fun τ H G v Q E rv q => by
  obtain ⟨a, vs, rfl, hs, rr⟩ := h.at E rv
  exact .inl ⟨a, vs, rfl, hs, fun p hp => q _ _ G _ _ (k p) (Ex.refl G) (E.new hp (.lst (cut_rel rr))) .own⟩
theorem s_str {s : List Nat} {lo hi : Option Int} (hl : s.length ≤ 1000000) (k : K (rS (cutL s lo hi)) m) : SlK X c σ m (rS s) lo hi K := fun τ H G v Q E rv q => by
  cases str_of rv
  refine .inr ⟨_, rfl, by rw [sOf_len]; exact Nat.le_trans hl (by decide), ?_⟩
  have e : cutS (sOf s) lo hi = sOf (cutL s lo hi) := by
    unfold cutS cutL
    rw [sOf_len, show (sOf s).cps.toList = s from lit_sOf s]
  rw [e]
  exact q.now k E (.dat .str)

/-! ### displays -/
theorem de_lst (h : DA X c σ m es (fun rs m1 => rs.length ≤ 1000000 ∧ ∀ p, K (.own p) ((p, .lst rs) :: m1))) : DE X c σ m (.List es pos) K :=
  de_of (pe_lst (pa_t (c := c))) fun τ H G Q E q => ⟨σ, m, G, _, E, h, fun rs m1 G1 H1 vs ⟨hl, z⟩ x1 E1 rv =>
    ⟨by rw [← rv.length]; exact Nat.le_trans hl (by decide), fun p hp => q _ _ G1 _ _ (z p) x1 (E1.new hp (.lst rv)) .own⟩⟩
theorem de_tup {x1 : Nat} (h : DA X c σ m es (fun rs m1 => rs.length ≤ 1000000 ∧ ∃ ds m2, Frzs m1 rs ds m2 ∧ K (.dat (.tup ds)) m2)) : DE X c σ m (.Tuple es x1 pos) K :=
  de_of (pe_tup (pa_t (c := c))) fun τ H G Q E q => ⟨σ, m, G, _, E, h, fun rs m1 G1 H1 vs ⟨hl, ds, m2, f, z⟩ x1 E1 rv => by
    refine ⟨by rw [← rv.length]; exact Nat.le_trans hl (by decide), fun p hp => ?_⟩
    obtain ⟨G2, x2, E2, r2⟩ := f.env E1 rv
    have g2 : G2 p = none := E2.sub.back hp
    exact q _ m2 (upd G2 p (.tup vs)) _ _ z ((x1.trans x2).trans (Ex.new g2)) (E2.newG hp) (.dat (.tup (.inl (.inl upd_same)) (r2.mono (Ex.new g2))))⟩
/-! ### a value frozen on the way -/
theorem de_frz (h : DE X c σ m e (fun r m1 => ∃ d m2, Frz m1 r d m2 ∧ K (.dat d) m2)) : DE X c σ m e K := fun pins s τ H G Q I E q =>
  h pins s τ H G Q I E fun r m1 G1 H1 v ⟨d, m2, f, z⟩ x1 E1 rv => by
    obtain ⟨G2, x2, E2, r2⟩ := f.env E1 rv
    exact q _ m2 G2 H1 v z (x1.trans x2) E2 (.dat r2)
/-- owned objects let go -/
theorem de_drop (h : DE X c σ m e (fun r m1 => ∃ m2, (∀ q ∈ m2, q ∈ m1) ∧ (m2.map (·.1)).Nodup ∧ K r m2)) : DE X c σ m e K := fun pins s τ H G Q I E q =>
  h pins s τ H G Q I E fun r m1 G1 H1 v ⟨m2, hs, nd, z⟩ x1 E1 rv => q r m2 G1 H1 v z x1 (E1.drop hs nd) rv
theorem de_sub (h : DE X c σ m e (fun r m1 => ∃ m2, m2.Sublist m1 ∧ K r m2)) : DE X c σ m e K := fun pins s τ H G Q I E q =>
  h pins s τ H G Q I E fun r m1 G1 H1 v ⟨m2, hs, z⟩ x1 E1 rv => q r m2 G1 H1 v z x1 (E1.drop (fun p hp => hs.subset hp) ((hs.map _).nodup E1.nd)) rv

/-! ### a store into a list -/
theorem ds_setL {en : En} {px : Pos} (h : DE X c σ m e (fun rv m1 => DE X c σ m1 a (fun ro m2 => DE X c σ m2 b (fun ri m3 => ∃ q rs i j m4, ro = .own q ∧ ri = rI i ∧ Chg m3 q (.lst rs) (.lst (rs.set j rv)) m4 ∧ ixN rs.length i = some j ∧ en.nx σ m4))))
    (hs : swapsWithSole [.Subscript a b px] e pos.line X.env = pure false := by rfl) (hw : swappedStores [.Subscript a b px] e X.env = pure none := by rfl) (h1 : (assignEach [.Subscript a b px] X.env).map (·.2) = [assign (.Subscript a b px) X.env] := by rfl)
    (ha : ∀ v, assign (.Subscript a b px) X.env v = (do
      let ov ← holding [v] (eval a X.env)
      let iv ← holding [v, ov] (eval b X.env)
      standAt px
      holding [v, ov, iv] (setItem ov iv v)
      release [v, ov, iv] []) := by intro _; rfl) :
    DS X c σ m (.Assign [.Subscript a b px] e pos) en := fun F pins s τ H G D I E fx ft => by
  refine (ps_asg (pe_t (c := c)) (pg_sub (pe_t (c := c)) (pe_t (c := c)) set_list ha) hs hw h1).run pins s τ H D I ?_
  refine ⟨σ, m, G, _, E, h, fun rv m1 G1 H1 v d1 x1 E1 r1 => ?_⟩
  refine ⟨σ, m1, G1, _, E1, d1, fun ro m2 G2 H2 vo d2 x2 E2 r2 => ?_⟩
  refine ⟨σ, m2, G2, _, E2, d2, fun ri m3 G3 H3 vi ⟨q, rs, i, j, m4, e1, e2, hc, hj, z⟩ x3 E3 r3 => ?_⟩
  subst e1 e2
  have r2' := r2.mono x3
  cases r2'
  cases int_of r3
  obtain ⟨_, ho, hh, rr⟩ := E3.mem _ hc.mem
  cases rr with | lst rr =>
  refine ⟨q, _, i, j, rfl, rfl, hh, by rw [← rr.length]; exact hj, ?_⟩
  exact ft.nx σ m4 G3 τ _ z (((fx.trans x1).trans x2).trans x3) (E3.chg hc (.lst (rr.set j (r1.mono (x2.trans x3)))))
end
end D2
/-! ## D2Loop -/
set_option Elab.async false
set_option linter.all false
set_option maxRecDepth 100000
set_option maxHeartbeats 2000000
namespace D2
open PySem PySem.Spec PyProof.Rows L2

/-! ### the frame: what a part of the owned objects does not hold stays -/
section
variable {X : Cx} {c c' : Ct} {σ : Sl} {m m' mf rest : Mem} {G G' : Hp} {τ τ' : L2.St} {H H' : Hp}
/-- the context of a part -/
def ctSub (c : Ct) (H G : Hp) (mf : Mem) (ex : Sl → Mem → Addr → List (Str × D) → Prop) : Ct := ⟨H, G, mf.map (·.1), ex⟩
theorem EnvOk.into (E : EnvOk X c σ m G τ H) (h : Split m mf rest) {ex : Sl → Mem → Addr → List (Str × D) → Prop} : EnvOk X (ctSub c H G mf ex) σ mf G τ H := by
  obtain ⟨h1, h2⟩ := E.part h
  refine ⟨E.nm, E.names, E.len, E.sub, h1, h2, fun a o ha _ => ha, fun a ha => ?_, fun p hp => .inl (List.mem_map_of_mem (f := (·.1)) hp), fun a o ha => .inl ha, Ex.refl G, E.vis, E.sl⟩
  obtain ⟨p, hp, rfl⟩ := List.mem_map.mp ha
  obtain ⟨_, ho, hh, _⟩ := h2 p hp
  rw [hh]; exact fun z => by cases z
theorem EnvOk.outK {ex : Sl → Mem → Addr → List (Str × D) → Prop} {σ' : Sl} {X' : Cx} (E' : EnvOk X' (ctSub c H G mf ex) σ' m' G' τ' H') : OutOk X'.K mf m' G H G' H' := by
  refine ⟨E'.g0, E'.sub, E'.nd, E'.mem, fun a o ha hn => E'.fr a o ha fun hm => ?_, fun p hp => E'.th p.1 (List.mem_map_of_mem (f := (·.1)) hp), fun p hp => ?_, fun a o ha => ?_⟩
  · obtain ⟨p, hp, e⟩ := List.mem_map.mp hm
    exact hn p hp e
  · rcases E'.ok p hp with z | z
    · obtain ⟨q, hq, e⟩ := List.mem_map.mp z
      exact .inl ⟨q, hq, e⟩
    · exact .inr z
  · rcases E'.gn a o ha with z | z | z
    · exact .inl z
    · obtain ⟨q, hq, e⟩ := List.mem_map.mp z
      exact .inr (.inl ⟨q, hq, e⟩)
    · exact .inr (.inr z)
/-- back from the part, the slots as they are behind it -/
theorem EnvOk.back {ex : Sl → Mem → Addr → List (Str × D) → Prop} {σ' : Sl} (E : EnvOk X c σ m G τ H) (h : Split m mf rest) (E' : EnvOk X (ctSub c H G mf ex) σ' m' G' τ' H') : EnvOk X c σ' (m' ++ rest) G' τ' H' := by
  have A := E.after h E'.outK
  exact ⟨E'.nm, E'.names, E'.len, A.sub, A.nd, A.mem, A.fr, A.th, A.ok, A.gn, A.g0, E'.vis, E'.sl⟩
theorem split_app (mf rest : Mem) : Split (mf ++ rest) mf rest := by
  induction mf with
  | nil => exact .nil
  | cons p mf ih => exact .cons (a := p.1) (o := p.2) .here ih
end

/-! ### what a for walks -/
/-- the walked items are these data -/
def Walks (K : PySem.W.Frag) (J : It) (ds : List D) (G : Hp) : Prop := ∀ i H, Ex G H →
  (∀ d, ds[i]? = some d → J.go i H ∧ ∀ x H', J.yld i H x H' → (H' = H ∧ Rep K G d x) ∨ ∃ p ho, H p = none ∧ H' = L2.upd H p ho ∧ Rep K (L2.upd G p ho) d x) ∧ (ds.length ≤ i → J.stop i H)
def DIt (X : Cx) (c : Ct) (σ : Sl) (m : Mem) (tg iter : Expr) (K : List D → Mem → Prop) : Prop :=
  ∃ wi : TI, PI X tg iter wi ∧ ∀ (τ : L2.St) (H G : Hp) (R' : It → Hp → Prop), EnvOk X c σ m G τ H →
    (∀ ds m' G' H' J, K ds m' → Ex G G' → EnvOk X c σ m' G' τ H' → Walks X.K J ds G' → R' J H') → wi τ H R'
section
variable {X : Cx} {c : Ct} {σ : Sl} {m m' : Mem} {x : Str} {k j : Nat} {e o a b tg iter : Expr} {es : List Expr} {p pos : Pos} {K : List D → Mem → Prop}
theorem walks_list {Kf : PySem.W.Frag} {G : Hp} {q : Addr} {vs : List V} {ds : List D} (hs : SqL Kf G q vs) (r : Reps Kf G ds vs) (inj : ∀ H, Ex G H → ∀ ys, SqL Kf H q ys → True) : Walks Kf (Itl Kf q) ds G := fun i H ex => by
  have hs' := ex_l ex hs
  refine ⟨fun d hd => ?_, fun hl => ⟨vs, hs', by rw [← r.length]; exact hl⟩⟩
  obtain ⟨u, hu, ru⟩ := r.rel.get (show (ds.map R.dat)[i]? = some (.dat d) by rw [List.getElem?_map, hd]; rfl)
  refine ⟨⟨vs, u, hs', hu⟩, fun x H' ⟨e, y⟩ => .inl ⟨e, ?_⟩⟩
  have z := y vs hs'
  rw [hu] at z; cases z
  cases ru with | dat ru => exact ru
theorem it_list (h : DE X c σ m iter (fun r m1 => ∃ ds m2, Frz m1 r (.lst ds) m2 ∧ K ds m2)) : DIt X c σ m tg iter K := by
  refine ⟨_, pi_list (pe_t (c := c)), fun τ H G R' E q => ⟨σ, m, G, _, E, h, fun r m1 G1 H1 v ⟨ds, m2, f, z⟩ x1 E1 rv => ?_⟩⟩
  obtain ⟨G2, x2, E2, r2⟩ := f.env E1 rv
  cases r2 with | lst hs rr =>
  exact ⟨_, rfl, ⟨_, ex_l E2.sub hs⟩, q ds m2 G2 H1 _ z (x1.trans x2) E2 (walks_list hs rr fun _ _ _ _ => trivial)⟩
theorem it_tup (h : DE X c σ m iter (fun r m1 => ∃ ds, r = .dat (.tup ds) ∧ K ds m1)) : DIt X c σ m tg iter K := by
  refine ⟨_, pi_tup (pe_t (c := c)), fun τ H G R' E q => ⟨σ, m, G, _, E, h, fun r m1 G1 H1 v ⟨ds, er, z⟩ x1 E1 rv => ?_⟩⟩
  subst er
  cases rv with | dat rv =>
  cases rv with | tup hs rr =>
  refine ⟨_, rfl, ⟨_, ex_t E1.sub hs⟩, q ds m1 G1 H1 _ z x1 E1 fun i H2 ex => ?_⟩
  have hs' := ex_t ex hs
  refine ⟨fun d hd => ?_, fun hl => ⟨_, hs', by rw [← rr.length]; exact hl⟩⟩
  obtain ⟨u, hu, ru⟩ := rr.rel.get (show (ds.map R.dat)[i]? = some (.dat d) by rw [List.getElem?_map, hd]; rfl)
  refine ⟨⟨_, u, hs', hu⟩, fun x H' ⟨e, y⟩ => .inl ⟨e, ?_⟩⟩
  have z := y _ hs'
  rw [hu] at z; cases z
  cases ru with | dat ru => exact ru
theorem it_str (h : DE X c σ m iter (fun r m1 => ∃ s, r = rS s ∧ K (s.map fun ch => .str [ch]) m1)) : DIt X c σ m tg iter K := by
  refine ⟨_, pi_str (pe_t (c := c)), fun τ H G R' E q => ⟨σ, m, G, _, E, h, fun r m1 G1 H1 v ⟨s, er, z⟩ x1 E1 rv => ?_⟩⟩
  subst er
  cases str_of rv
  refine ⟨_, rfl, q _ m1 G1 H1 _ z x1 E1 fun i H2 ex => ⟨fun d hd => ?_, fun hl => ?_⟩⟩
  · rw [List.getElem?_map] at hd
    cases e : s[i]? with
    | none => rw [e] at hd; cases hd
    | some ch =>
      rw [e] at hd
      cases hd
      have hi : i < s.length := (List.getElem?_eq_some_iff.mp e).1
      refine ⟨by show i < (sOf s).cps.size; simpa [sOf] using hi, fun x H' ⟨eH, c', hc, ex'⟩ => .inl ⟨eH, ?_⟩⟩
      have hc' : s[i]? = some c' := by simpa [sOf] using hc
      rw [e] at hc'; cases hc'
      rw [ex']
      exact Rep.str (s := [ch])
  · show (sOf s).cps.size ≤ i
    simpa [sOf] using hl
def ups (lo : Int) (n : Nat) : List D := (List.range n).map fun (i : Nat) => D.int (lo + (i : Int))
theorem ups_at {lo : Int} {n i : Nat} {d : D} (h : (ups lo n)[i]? = some d) : i < n ∧ d = .int (lo + i) := by
  unfold ups at h
  rw [List.getElem?_map] at h
  by_cases hi : i < n
  · rw [List.getElem?_range hi] at h
    cases h
    exact ⟨hi, rfl⟩
  · rw [List.getElem?_eq_none (by simpa using Nat.le_of_not_lt hi)] at h
    cases h
theorem ups_len (lo : Int) (n : Nat) : (ups lo n).length = n := by simp [ups]
theorem walks_rng {Kf : PySem.W.Frag} {G : Hp} {lo : Int} {n : Nat} : Walks Kf (Itr lo n) (ups lo n) G := fun i H ex =>
  ⟨fun d hd => by
    obtain ⟨hi, ed⟩ := ups_at hd
    subst ed
    exact ⟨hi, fun x H' ⟨e, y⟩ => .inl ⟨e, by rw [y]; exact .int⟩⟩, fun hl => by rw [ups_len] at hl; exact hl⟩
theorem it_rng1 (hg : Gl X "range") (hm : X.mg "range" = none) (h : DE X c σ m a (fun r m1 => ∃ n, r = rI n ∧ -(2 ^ 62) ≤ n ∧ n < 2 ^ 62 ∧ K (ups 0 n.toNat) m1)) (hs : starEach [a] X.env = [(false, eval a X.env)] := by rfl) :
    DIt X c σ m tg (.Call (.Name "range" p) [a] [] pos) K := by
  refine ⟨_, pi_range1 hg hm (pa_t (c := c)) hs, fun τ H G R' E q => ⟨σ, m, G, fun rs m1 => ∃ n, rs = [rI n] ∧ -(2 ^ 62) ≤ n ∧ n < 2 ^ 62 ∧ K (ups 0 n.toNat) m1, E, ?_, ?_⟩⟩
  · exact da_cons (h.imp fun r m1 ⟨n, e, z⟩ => da_nil ⟨n, by rw [e], z⟩) hs
  · intro rs m1 G1 H1 vs ⟨n, e, l1, l2, z⟩ x1 E1 rv
    subst e
    obtain ⟨v, rfl, r1⟩ := one_of rv
    cases int_of r1
    exact ⟨n, rfl, l1, l2, q _ m1 G1 H1 _ z x1 E1 walks_rng⟩
theorem it_rng2 (hg : Gl X "range") (hm : X.mg "range" = none) (h : DE X c σ m a (fun r m1 => ∃ i, r = rI i ∧ DE X c σ m1 b (fun r2 m2 => ∃ n, r2 = rI n ∧ (-(2 ^ 62) ≤ i ∧ i < 2 ^ 62 ∧ -(2 ^ 62) ≤ n ∧ n < 2 ^ 62) ∧ K (ups i (n - i).toNat) m2)))
    (hs : starEach [a, b] X.env = [(false, eval a X.env), (false, eval b X.env)] := by rfl) (hs0 : starEach [a, b] X.env = (false, eval a X.env) :: starEach [b] X.env := by rfl) (hs2 : starEach [b] X.env = (false, eval b X.env) :: starEach [] X.env := by rfl) (hpl : (backTo pos (starEach [b] X.env)).any (·.1) = false := by rfl) : DIt X c σ m tg (.Call (.Name "range" p) [a, b] [] pos) K := by
  refine ⟨_, pi_range2 hg hm (pa_t (c := c)) hs hs2, fun τ H G R' E q => ⟨σ, m, G, fun rs m1 => ∃ i n, rs = [rI i, rI n] ∧ (-(2 ^ 62) ≤ i ∧ i < 2 ^ 62 ∧ -(2 ^ 62) ≤ n ∧ n < 2 ^ 62) ∧ K (ups i (n - i).toNat) m1, E, ?_, ?_⟩⟩
  · exact da_cons (h.imp fun r m1 ⟨i, e, z⟩ => da_cons (z.imp fun r2 m2 ⟨n, e2, z2⟩ => da_nil ⟨i, n, by rw [e, e2], z2⟩) hs2) hs0
  · intro rs m1 G1 H1 vs ⟨i, n, e, l1, z⟩ x1 E1 rv
    subst e
    obtain ⟨v, u, rfl, r1, r2⟩ := two_of rv
    cases int_of r1
    cases int_of r2
    exact ⟨i, n, rfl, l1, q _ m1 G1 H1 _ z x1 E1 walks_rng⟩
def dns (lo c : Int) (n : Nat) : List D := (List.range n).map fun (i : Nat) => D.int (lo + (i : Int) * c)
theorem it_rng3 {l u cc : Expr} (hg : Gl X "range") (hm : X.mg "range" = none) (h : DA X c σ m [l, u, cc] (fun rs m1 => ∃ (i j s : Int) (n : Nat), rs = [rI i, rI j, rI s] ∧ RgC i j s n ∧ K (dns i s n) m1))
    (hs : starEach [l, u, cc] X.env = (false, eval l X.env) :: starEach [u, cc] X.env := by rfl) (hpl : (backTo pos (starEach [u, cc] X.env)).any (·.1) = false := by rfl) : DIt X c σ m tg (.Call (.Name "range" p) [l, u, cc] [] pos) K := by
  refine ⟨_, pi_range3 hg hm (pa_t (c := c)) hs hpl, fun τ H G R' E q => ⟨σ, m, G, _, E, h, ?_⟩⟩
  intro rs m1 G1 H1 vs ⟨i, j, s, n, e, l1, z⟩ x1 E1 rv
  subst e
  cases rv with | cons r1 rv => cases rv with | cons r2 rv => cases rv with | cons r3 rv =>
  cases rv
  cases int_of r1
  cases int_of r2
  cases int_of r3
  refine ⟨i, j, s, n, rfl, l1, q _ m1 G1 H1 _ z x1 E1 fun t H2 ex => ⟨fun d hd => ?_, fun hl => ?_⟩⟩
  · unfold dns at hd
    rw [List.getElem?_map] at hd
    by_cases ht : t < n
    · rw [List.getElem?_range ht] at hd
      cases hd
      exact ⟨ht, fun x H' ⟨e, y⟩ => .inl ⟨e, by rw [y]; exact .int⟩⟩
    · rw [List.getElem?_eq_none (by simpa using Nat.le_of_not_lt ht)] at hd
      cases hd
  · show n ≤ t
    simpa [dns] using hl

end

/-! ### targets -/
section
variable {X : Cx} {c : Ct} {σ : Sl} {m m' : Mem} {x : Str} {px pos : Pos} {r : R} {rs : List R} {K : Sl → Mem → Prop} {t : Expr} {ts : List Expr}
/-- what follows a store -/
def CG (X : Cx) (c : Ct) (G : Hp) (K : Sl → Mem → Prop) (Q : L2.St → Hp → Prop) : Prop := ∀ σ' m' G' τ' H', K σ' m' → Ex G G' → EnvOk X c σ' m' G' τ' H' → Q τ' H'
def gT (X : Cx) (t : Expr) : TG := fun v τ H Q => ∀ (pins : List (Addr × Obj)) (s : Shared) (u : Value), Inv X pins τ H s → RelV v u → wpAny (model X.prog X.w) X.A (assign t X.env u) (fun _ s' => ∃ τ' H', Inv X pins τ' H' s' ∧ Q τ' H') X.xe s
theorem pg_t : PG X t (gT X t) := ⟨fun pins s τ H v u Q I r h => h pins s u I r⟩
def gTs (X : Cx) (ts : List Expr) : TGs := fun vs τ H Q => ∀ (pins : List (Addr × Obj)) (s : Shared) (us : List Value), Inv X pins τ H s → Vals vs us → wpAny (model X.prog X.w) X.A (assignInOrder ((assignEach ts X.env).map (·.2)) us) (fun _ s' => ∃ τ' H', Inv X pins τ' H' s' ∧ Q τ' H') X.xe s
theorem pgs_t : PGs X ts (gTs X ts) := ⟨fun pins s τ H v u Q I r h => h pins s u I r⟩
def DG (X : Cx) (c : Ct) (σ : Sl) (m : Mem) (t : Expr) (r : R) (K : Sl → Mem → Prop) : Prop := ∀ (v : V) (τ : L2.St) (H G : Hp) (Q : L2.St → Hp → Prop), EnvOk X c σ m G τ H → RelR X.K G r v → CG X c G K Q → gT X t v τ H Q
def DGs (X : Cx) (c : Ct) (σ : Sl) (m : Mem) (ts : List Expr) (rs : List R) (K : Sl → Mem → Prop) : Prop := ∀ (vs : List V) (τ : L2.St) (H G : Hp) (Q : L2.St → Hp → Prop), EnvOk X c σ m G τ H → RelRs X.K G rs vs → CG X c G K Q → gTs X ts vs τ H Q
theorem dg_name {f : R → Sl} (hx : Own X x) (hp : PutF σ x f) (k : K (f r) m) : DG X c σ m (.Name x px) r K := fun v τ H G Q E rv q pins s u I r' => by
  have hm : x ∈ X.N := by rw [E.names]; exact hp.at
  obtain ⟨i, hi⟩ := List.mem_iff_getElem?.mp hm
  obtain ⟨j, hj, E2⟩ := E.put (hp.put r) (hx.1.elim .inl fun z => .inr (.inl z)) rv
  have ij : i = j := nodup_ix E.nm.nd hi hj
  subst ij
  exact (pg_name (i := i) E.nm.nd hi hx.1 hx.2).run pins s τ H v u Q I r' (q _ m G _ H k (Ex.refl G) E2)
theorem dgs_nil (k : K σ m) : DGs X c σ m [] [] K := fun vs τ H G Q E rv q pins s us I r' => by
  cases rv
  exact pgs_nil.run pins s τ H [] us Q I r' ⟨rfl, q σ m G τ H k (Ex.refl G) E⟩
theorem dgs_cons (h : DG X c σ m t r (fun σ1 m1 => DGs X c σ1 m1 ts rs K)) (hs : (assignEach (t :: ts) X.env).map (·.2) = assign t X.env :: (assignEach ts X.env).map (·.2) := by rfl) : DGs X c σ m (t :: ts) (r :: rs) K := fun vs τ H G Q E rv q pins s us I r' => by
  cases rv with | cons rv rvs =>
  refine (pgs_cons (X := X) (e := t) (es := ts) pg_t pgs_t hs).run pins s τ H _ us Q I r' ⟨_, _, rfl, ?_⟩
  exact h _ τ H G _ E rv fun σ1 m1 G1 τ1 H1 z x1 E1 => z _ τ1 H1 G1 Q E1 (rvs.mono x1) fun σ2 m2 G2 τ2 H2 z2 x2 E2 => q σ2 m2 G2 τ2 H2 z2 (x1.trans x2) E2
theorem dg_tup {ds : List D} {kk n : Nat} (hc : X.calm = true) (hl : ds.length = n) (h : DGs X c σ m ts (ds.map .dat) K) (hn : (assignEach ts X.env).length = n := by rfl) (hst : (assignEach ts X.env).findIdx? (·.1) = none := by rfl) : DG X c σ m (.Tuple ts kk pos) (.dat (.tup ds)) K := fun v τ H G Q E rv q pins s u I r' => by
  cases rv with | dat rv =>
  cases rv with | tup hs rr =>
  exact (pg_tup (X := X) (es := ts) hc pgs_t hn hst).run pins s τ H _ u Q I r' ⟨_, _, rfl, ex_t E.sub hs, by rw [← rr.length]; exact hl, h _ τ H G Q E rr.rel q⟩
end

/-! ### loops -/
section
variable {X : Cx} {c : Ct} {σ : Sl} {m : Mem} {k : Nat} {tg iter : Expr} {body : List Stmt} {pos : Pos} {en : En} {e : Expr}
theorem ds_for {ds : List D} (I : Nat → Sl → Mem → Prop) (L : Live X c k) (hit : DIt X c σ m tg iter (fun ds' m1 => ds' = ds ∧ I 0 σ m1))
    (hturn : ∀ i d σ' m', ds[i]? = some d → I i σ' m' → DG X c σ' m' tg (.dat d) (fun σ2 m2 => DSs X c σ2 m2 body { nx := I (i + 1), ct := I (i + 1), bk := en.nx, rt := en.rt }))
    (hend : ∀ σ' m', I ds.length σ' m' → en.nx σ' m') (hs : ∀ x, foldedSetIterable iter X.env x = pure x := by intro _; rfl) : DS X c σ m (.For tg iter body [] pos) en := fun F pins s τ H G D Iv E fx ft => by
  obtain ⟨wi, hpi, hw⟩ := hit
  refine (ps_for L.own L.calm hpi pg_t (pss_t (c := c)) hs).run pins s τ H D Iv (hw τ H G _ E fun ds' m1 G1 H1 J ⟨ed, z⟩ x1 E1 wk => ?_)
  subst ed
  refine ⟨fun i n τ' H' => n = ds'.length - i ∧ i ≤ ds'.length ∧ ∃ σ' m' G', I i σ' m' ∧ EnvOk X c σ' m' G' τ' H' ∧ Ex G1 G', ⟨_, rfl, Nat.zero_le _, σ, m1, G1, z, E1, Ex.refl G1⟩, ?_⟩
  rintro i n τ' H' ⟨rfl, hi, σ', m', G', hI, E', x'⟩
  obtain ⟨w1, w2⟩ := wk i H' (x'.trans E'.sub)
  by_cases hlt : i < ds'.length
  · obtain ⟨go, yl⟩ := w1 ds'[i] (List.getElem?_eq_getElem hlt)
    refine .inr ⟨go, fun τ2 H2 => ∃ σ2 m2 G2, I (i + 1) σ2 m2 ∧ EnvOk X c σ2 m2 G2 τ2 H2 ∧ Ex G1 G2, fun τ2 H2 ⟨σ2, m2, G2, h1, h2, h3⟩ => ⟨ds'.length - (i + 1), by omega, rfl, hlt, σ2, m2, G2, h1, h2, h3⟩, fun x H2 hy => ?_⟩
    have T := hturn i ds'[i] σ' m' (List.getElem?_eq_getElem hlt) hI
    have go2 : ∀ G3 H3, Ex G' G3 → EnvOk X c σ' m' G3 τ' H3 → RelR X.K G3 (.dat ds'[i]) x → gT X tg x τ' H3 fun τ4 H4 => tSs X c body { D with nx := fun τ2 H2 => ∃ σ2 m2 G2, I (i + 1) σ2 m2 ∧ EnvOk X c σ2 m2 G2 τ2 H2 ∧ Ex G1 G2, ct := fun τ2 H2 => ∃ σ2 m2 G2, I (i + 1) σ2 m2 ∧ EnvOk X c σ2 m2 G2 τ2 H2 ∧ Ex G1 G2, bk := D.nx } τ4 H4 := fun G3 H3 x3 E3 r3 =>
      T x τ' H3 G3 _ E3 r3 fun σ4 m4 G4 τ4 H4 z4 x4 E4 => by
        have up : Ex G1 G4 := (x'.trans x3).trans x4
        refine ⟨G4, σ4, m4, G4, _, E4, z4, Ex.refl G4, ?_⟩
        exact ⟨fun σ5 m5 G5 τ5 H5 q y E5 => ⟨σ5, m5, G5, q, E5, up.trans y⟩, fun r σ5 m5 G5 τ5 H5 v q y E5 rv => ft.rt r σ5 m5 G5 τ5 H5 v q (((fx.trans x1).trans up).trans y) E5 rv,
          fun σ5 m5 G5 τ5 H5 q y E5 => ft.nx σ5 m5 G5 τ5 H5 q (((fx.trans x1).trans up).trans y) E5, fun σ5 m5 G5 τ5 H5 q y E5 => ⟨σ5, m5, G5, q, E5, up.trans y⟩⟩
    rcases yl x H2 hy with ⟨eH, rx⟩ | ⟨p, ho, hp, eH, rx⟩
    · subst eH
      exact go2 G' _ (Ex.refl G') E' (.dat (rx.mono x'))
    · subst eH
      have g1 : G' p = none := E'.sub.back hp
      refine go2 (L2.upd G' p ho) _ (Ex.new g1) (E'.newG hp) (.dat (rx.mono ?_))
      exact Ex.both x'
  · have e : i = ds'.length := by omega
    subst e
    exact .inl ⟨w2 (Nat.le_refl _), ft.nx σ' m' G' τ' H' (hend σ' m' hI) ((fx.trans x1).trans x') E'⟩
/-- while: a word with a number that falls -/
theorem ds_while (I : Nat → Sl → Mem → Prop) {n0 : Nat} (L : Live X c k) (h0 : I n0 σ m)
    (hs : ∀ n σ' m', I n σ' m' → DT X c σ' m' e (fun b m2 => (b = true → DSs X c σ' m2 body { nx := fun σ2 m3 => ∃ n', n' < n ∧ I n' σ2 m3, ct := fun σ2 m3 => ∃ n', n' < n ∧ I n' σ2 m3, bk := en.nx, rt := en.rt }) ∧ (b = false → en.nx σ' m2))) :
    DS X c σ m (.While e body [] pos) en := fun F pins s τ H G D Iv E fx ft => by
  refine (ps_while L.own (pt_t (c := c)) (pss_t (c := c))).run pins s τ H D Iv ?_
  refine ⟨fun n τ' H' => ∃ σ' m' G', I n σ' m' ∧ EnvOk X c σ' m' G' τ' H' ∧ Ex G G', ⟨n0, σ, m, G, h0, E, Ex.refl G⟩, ?_⟩
  rintro n τ' H' ⟨σ', m', G', hI, E', x'⟩
  refine ⟨σ', m', G', _, E', hs n σ' m' hI, fun b m2 G2 H2 ⟨z1, z2⟩ x2 E2 => ?_⟩
  cases b with
  | true =>
    rw [if_pos rfl]
    refine ⟨fun τ3 H3 => ∃ n', n' < n ∧ ∃ σ3 m3 G3, I n' σ3 m3 ∧ EnvOk X c σ3 m3 G3 τ3 H3 ∧ Ex G G3, fun τ3 H3 ⟨n', hn, w⟩ => ⟨n', hn, w⟩, G2, σ', m2, G2, _, E2, z1 rfl, Ex.refl G2, ?_⟩
    have up : Ex G G2 := x'.trans x2
    exact ⟨fun σ5 m5 G5 τ5 H5 ⟨n', hn, q⟩ y E5 => ⟨n', hn, σ5, m5, G5, q, E5, up.trans y⟩, fun r σ5 m5 G5 τ5 H5 v q y E5 rv => ft.rt r σ5 m5 G5 τ5 H5 v q ((fx.trans up).trans y) E5 rv,
      fun σ5 m5 G5 τ5 H5 q y E5 => ft.nx σ5 m5 G5 τ5 H5 q ((fx.trans up).trans y) E5, fun σ5 m5 G5 τ5 H5 ⟨n', hn, q⟩ y E5 => ⟨n', hn, σ5, m5, G5, q, E5, up.trans y⟩⟩
  | false =>
    rw [if_neg Bool.false_ne_true]
    exact ft.nx σ' m2 G2 τ' H2 (z2 rfl) ((fx.trans x').trans x2) E2
/-- an assignment to any target -/
theorem ds_asgT {e : Expr} {tg : Expr} (h : DE X c σ m e (fun r m1 => DG X c σ m1 tg r (fun σ' m2 => en.nx σ' m2))) (hs : swapsWithSole [tg] e pos.line X.env = pure false := by rfl) (hw : swappedStores [tg] e X.env = pure none := by rfl)
    (h1 : (assignEach [tg] X.env).map (·.2) = [assign tg X.env] := by rfl) : DS X c σ m (.Assign [tg] e pos) en := fun F pins s τ H G D Iv E fx ft => by
  refine (ps_asg (pe_t (c := c)) (pg_t (t := tg)) hs hw h1).run pins s τ H D Iv ⟨σ, m, G, _, E, h, fun r m1 G1 H1 v z x1 E1 rv => ?_⟩
  exact z v τ H1 G1 _ E1 rv fun σ2 m2 G2 τ2 H2 q x2 E2 => ft.nx σ2 m2 G2 τ2 H2 q ((fx.trans x1).trans x2) E2
end
end D2
/-! ## D2Comp -/
set_option Elab.async false
set_option linter.all false
set_option maxRecDepth 100000
set_option maxHeartbeats 2000000
namespace D2
open PySem PySem.Spec PyProof.Rows L2

/-! ### slots of a comprehension's block -/
/-- the block sees the names that it captures -/
inductive Blk (scope : Scope) : Sl → Sl → Prop
  | nil : Blk scope [] []
  | keep {x o σ σb} (h : scope.names.lookup x = some .free) : Blk scope σ σb → Blk scope ((x, o) :: σ) ((x, o) :: σb)
  | drop {x o σ σb} : Blk scope σ σb → Blk scope ((x, o) :: σ) ((x, none) :: σb)
theorem Blk.names {scope : Scope} {σ σb : Sl} (h : Blk scope σ σb) : σb.map (·.1) = σ.map (·.1) := by
  induction h with
  | nil => rfl
  | keep _ _ ih => simp [ih]
  | drop _ ih => simp [ih]
theorem Blk.at {scope : Scope} {σ σb : Sl} (h : Blk scope σ σb) : ∀ {i : Nat} {x : Str} {r : R}, σb[i]? = some (x, some r) → σ[i]? = some (x, some r) ∧ scope.names.lookup x = some .free := by
  induction h with
  | nil => intro i x r e; simp at e
  | @keep y o σ σb hy _ ih =>
    intro i x r e
    cases i with
    | zero => simp at e ⊢; obtain ⟨rfl, rfl⟩ := e; exact ⟨⟨rfl, rfl⟩, hy⟩
    | succ i => simp at e ⊢; exact ih e
  | @drop y o σ σb _ ih =>
    intro i x r e
    cases i with
    | zero => simp at e
    | succ i => simp at e ⊢; exact ih e
theorem wipe_at (τ : L2.St) : ∀ (vs : List Nat) (i : Nat), i ∉ vs → (wipe τ vs)[i]? = τ[i]?
  | [], _, _ => rfl
  | v :: vs, i, h => by
    unfold wipe
    rw [List.getElem?_set_ne (fun e => h (by rw [e]; exact List.mem_cons_self))]
    exact wipe_at τ vs i fun z => h (List.mem_cons_of_mem _ z)
theorem wipe_in (τ : L2.St) : ∀ (vs : List Nat) (i : Nat), i ∈ vs → i < τ.length → (wipe τ vs)[i]? = some none
  | v :: vs, i, h, hl => by
    unfold wipe
    by_cases e : v = i
    · subst e
      exact List.getElem?_set_self (by rw [wipe_length]; exact hl)
    · rw [List.getElem?_set_ne e]
      rcases List.mem_cons.mp h with z | z
      · exact absurd z.symm e
      · exact wipe_in τ vs i z hl
theorem wipe_set {τ : L2.St} {vs : List Nat} {i : Nat} {o : Option V} (h : i ∈ vs) : wipe (τ.set i o) vs = wipe τ vs := by
  refine List.ext_getElem? fun j => ?_
  by_cases hj : j ∈ vs
  · by_cases hl : j < τ.length
    · rw [wipe_in _ _ _ hj (by rw [List.length_set]; exact hl), wipe_in _ _ _ hj hl]
    · rw [List.getElem?_eq_none (by rw [wipe_length, List.length_set]; omega), List.getElem?_eq_none (by rw [wipe_length]; omega)]
  · rw [wipe_at _ _ _ hj, wipe_at _ _ _ hj, List.getElem?_set_ne (fun e => hj (by rw [← e]; exact h))]
theorem wipe_wipe {τ : L2.St} {vs : List Nat} : wipe (wipe τ vs) vs = wipe τ vs := by
  refine List.ext_getElem? fun j => ?_
  by_cases hj : j ∈ vs
  · by_cases hl : j < τ.length
    · rw [wipe_in _ _ _ hj (by rw [wipe_length]; exact hl), wipe_in _ _ _ hj hl]
    · rw [List.getElem?_eq_none (by rw [wipe_length, wipe_length]; omega), List.getElem?_eq_none (by rw [wipe_length]; omega)]
  · rw [wipe_at _ _ _ hj]

/-! ### the block's context -/
abbrev bx (X : Cx) (scope : Scope) (s : Shared) (H : Hp) (C : Addr) (cl : List (Str × Addr)) (fp : List Addr) : Cx := X.blk s H scope (compEnvC scope cl C X.env) fp
def IsBlk (X : Cx) (scope : Scope) (Xb : Cx) : Prop := ∃ s H C cl fp, Xb = bx X scope s H C cl fp
section
variable {X Xb : Cx} {scope : Scope} {x : Str} {c : Ct} {k j : Nat} {S : Sp2}
theorem blk_keep {kd : NameKind} (hk : kd ≠ .free) (h : scope.names.lookup x = some kd) : (relabel scope X.env).names.lookup x = some kd := lookup_relS_keep hk h
theorem blk_free (h : scope.names.lookup x = some .free) : (relabel scope X.env).names.lookup x = some .free ∨ (relabel scope X.env).names.lookup x = some .cell := by
  have key : ∀ {sc : Scope} {names : List (Str × NameKind)}, names.lookup x = some NameKind.free →
      (names.map fun (n, k) => if (k == NameKind.free && sc.kind == .function && sc.names.lookup n == some .cell) then (n, NameKind.cell) else (n, k)).lookup x = some .free ∨
      (names.map fun (n, k) => if (k == NameKind.free && sc.kind == .function && sc.names.lookup n == some .cell) then (n, NameKind.cell) else (n, k)).lookup x = some .cell := by
    intro sc names
    induction names with
    | nil => intro h; simp at h
    | cons p r ih =>
      obtain ⟨n, kd⟩ := p
      intro h
      rw [List.lookup_cons] at h
      by_cases hx : (x == n) = true
      · rw [hx] at h
        cases h
        simp only [List.map_cons]
        split
        · right; rw [List.lookup_cons, hx]
        · left; rw [List.lookup_cons, hx]
      · have hx' : (x == n) = false := by simpa using hx
        rw [hx'] at h
        simp only [List.map_cons]
        split
        · rw [List.lookup_cons, hx']; exact ih h
        · rw [List.lookup_cons, hx']; exact ih h
  exact key h
theorem IsBlk.gl (h : IsBlk X scope Xb) (hx : scope.names.lookup x = some .globalImplicit) : Gl Xb x := by
  obtain ⟨s, H, C, cl, fp, rfl⟩ := h
  exact blk_keep (by decide) hx
theorem IsBlk.callee (h : IsBlk X scope Xb) (cl : Callee X x k S) : Callee Xb x k S := by
  obtain ⟨s, H, C, cl', fp, rfl⟩ := h
  exact cl
theorem IsBlk.mg (h : IsBlk X scope Xb) {o : Option Value} (e : X.mg x = o) : Xb.mg x = o := by
  obtain ⟨s, H, C, cl', fp, rfl⟩ := h
  exact e
theorem IsBlk.live (h : IsBlk X scope Xb) (L : Live X c k) {c' : Ct} (hx : ∀ σ m C fs, ¬ c'.ex σ m C fs) : Live Xb c' k := by
  obtain ⟨s, H, C, cl', fp, rfl⟩ := h
  exact ⟨PassesOwn.never, tk_none hx, L.calm, L.room⟩
end

/-! ### tests of a clause -/
def DTs (X : Cx) (c : Ct) (σ : Sl) (m : Mem) (ifs : List Expr) (K : Bool → Mem → Prop) : Prop :=
  match ifs with
  | [] => K true m
  | [e] => DT X c σ m e K
  | _ => False
/-! ### targets of a clause -/
inductive CTgt (X : Cx) (scope : Scope) (own : List (Str × Nat)) (σb : Sl) : Expr → TG → (R → (Sl → Prop) → Prop) → Prop
  | name {x : Str} {px : Pos} {j : Nat} {f : R → Sl} (hf : PutF σb x f) (hj : (x, j) ∈ own) : CTgt X scope own σb (.Name x px) (gName j) (fun r k => k (f r))
  | pair {x y : Str} {px py pt : Pos} {kk i j : Nat} {f : R → Sl} {f2 : R → R → Sl} (hf : PutF σb x f) (hi : (x, i) ∈ own) (hf2 : ∀ r, PutF (f r) y (f2 r)) (hj : (y, j) ∈ own) :
      CTgt X scope own σb (.Tuple [.Name x px, .Name y py] kk pt) (gTup X.K 2 (gCons (gName i) (gCons (gName j) gNil))) (fun r k => ∃ d e, r = .dat (.tup [d, e]) ∧ k (f2 (.dat d) (.dat e)))
section
variable {X : Cx} {c c1 : Ct} {σ σb σ2 : Sl} {m m' : Mem} {scope : Scope} {own : List (Str × Nat)} {tg iter elt : Expr} {ifs : List Expr} {g : TG} {A : R → (Sl → Prop) → Prop} {K : R → Mem → Prop} {k : Nat} {pos : Pos}
theorem own_z (hown : ∀ p ∈ own, scope.names.lookup p.1 = some .local) {x : Str} {j : Nat} (h : (x, j) ∈ own) : (relabel scope X.env).names.lookup x = some .local := blk_keep (by decide) (hown _ h)
theorem own_at (hown : ∀ p ∈ own, scope.names.lookup p.1 = some .local) {x : Str} {j : Nat} (h : (x, j) ∈ own) (s : Shared) (H : Hp) (C : Addr) (cl : List (Str × Addr)) (fp : List Addr) : Own (bx X scope s H C cl fp) x :=
  have z : (relabel scope X.env).names.lookup x = some .local := blk_keep (by decide) (hown _ h)
  ⟨.inl z, .inr z⟩
theorem CTgt.pg (t : CTgt X scope own σb tg g A) (ok : BlkOk X.N X.env.scope scope own) (hown : ∀ p ∈ own, scope.names.lookup p.1 = some .local) (nd : X.N.Nodup) (hc : X.calm = true) (s : Shared) (H : Hp) (C : Addr) (cl : List (Str × Addr)) (fp : List Addr) : PG (bx X scope s H C cl fp) tg g := by
  cases t with
  | name hf hj => exact pg_name nd (ok.ix _ hj) (own_at hown hj s H C cl fp).1 (own_at hown hj s H C cl fp).2
  | pair hf hi hf2 hj =>
    exact pg_tup hc (pgs_cons (pg_name nd (ok.ix _ hi) (own_at hown hi s H C cl fp).1 (own_at hown hi s H C cl fp).2) (pgs_cons (pg_name nd (ok.ix _ hj) (own_at hown hj s H C cl fp).1 (own_at hown hj s H C cl fp).2) pgs_nil))
/-- the same owned objects, heaps; the slots and the context of a block -/
abbrev zx (X : Cx) (scope : Scope) : Cx := { X with env := compEnvC scope [] 0 X.env }
abbrev EB (X : Cx) (scope : Scope) (c : Ct) (σ : Sl) (m : Mem) (G : Hp) (τ : L2.St) (H : Hp) : Prop := EnvOk (zx X scope) c σ m G τ H
theorem EB.of {s : Shared} {H0 : Hp} {C : Addr} {cl : List (Str × Addr)} {fp : List Addr} {G : Hp} {τ : L2.St} {H : Hp} (e : EnvOk (bx X scope s H0 C cl fp) c σ m G τ H) : EB X scope c σ m G τ H :=
  ⟨⟨e.nm.nd, e.nm.dbg⟩, e.names, e.len, e.sub, e.nd, e.mem, e.fr, e.th, e.ok, e.gn, e.g0, e.vis, e.sl⟩
theorem EB.to {s : Shared} {H0 : Hp} {C : Addr} {cl : List (Str × Addr)} {fp : List Addr} {G : Hp} {τ : L2.St} {H : Hp} (e : EB X scope c σ m G τ H) : EnvOk (bx X scope s H0 C cl fp) c σ m G τ H :=
  ⟨⟨e.nm.nd, e.nm.dbg⟩, e.names, e.len, e.sub, e.nd, e.mem, e.fr, e.th, e.ok, e.gn, e.g0, e.vis, e.sl⟩
theorem EnvOk.blk {G : Hp} {τ : L2.St} {H : Hp} (e : EnvOk X c σ m G τ H) (hb : Blk scope σ σb) (ok : BlkOk X.N X.env.scope scope own) (hown : ∀ p ∈ own, scope.names.lookup p.1 = some .local) : EB X scope c σb m G (wipe τ (own.map (·.2))) H := by
  refine ⟨⟨e.nm.nd, e.nm.dbg⟩, by rw [hb.names]; exact e.names, ?_, e.sub, e.nd, e.mem, e.fr, e.th, e.ok, e.gn, e.g0, fun p hp hs => ?_, fun i x r hi => ?_⟩
  · rw [wipe_length, e.len]
    have z := congrArg List.length hb.names
    rw [List.length_map, List.length_map] at z
    exact z.symm
  · obtain ⟨i, hi⟩ := List.mem_iff_getElem?.mp hp
    obtain ⟨x, o⟩ := p
    cases o with
    | none => cases hs
    | some r =>
      obtain ⟨_, h2⟩ := hb.at hi
      rcases blk_free (X := X) h2 with z | z
      · exact .inr (.inr z)
      · exact .inr (.inl z)
  · obtain ⟨h1, h2⟩ := hb.at hi
    obtain ⟨v, hv, rv⟩ := e.sl i x r h1
    refine ⟨v, ?_, rv⟩
    rw [wipe_at]
    · exact hv
    · intro hm
      obtain ⟨p, hp, ep⟩ := List.mem_map.mp hm
      have e1 := ok.ix p hp
      rw [ep, e.names, List.getElem?_map, h1] at e1
      have e2 : x = p.1 := by simpa using e1
      have e3 := hown p hp
      rw [← e2, h2] at e3
      cases e3
theorem CTgt.run (t : CTgt X scope own σb tg g A) (ok : BlkOk X.N X.env.scope scope own) (hown : ∀ p ∈ own, scope.names.lookup p.1 = some .local) (nd : X.N.Nodup) {r : R} {P : Sl → Prop} (a : A r P) {G : Hp} {τ : L2.St} {H : Hp} {v : V} {Q : L2.St → Hp → Prop}
    (E : EB X scope c σb m G τ H) (rv : RelR X.K G r v) (q : ∀ σ2 τ2, P σ2 → EB X scope c σ2 m G τ2 H → wipe τ2 (own.map (·.2)) = wipe τ (own.map (·.2)) → Q τ2 H) : g v τ H Q := by
  cases t with
  | @name x px j f hf hj =>
    have hm : j ∈ own.map (·.2) := List.mem_map_of_mem (f := (·.2)) hj
    refine q (f r) _ a ?_ (wipe_set hm)
    obtain ⟨i, hi, E2⟩ := E.put (hf.put r) (.inl (own_z hown hj)) rv
    have ij : j = i := nodup_ix nd (ok.ix _ hj) hi
    subst ij
    exact E2
  | @pair x y px py pt kk i j f f2 hf hi hf2 hj =>
    obtain ⟨d, e, er, a⟩ := a
    subst er
    cases rv with | dat rv =>
    cases rv with | @tup ad xs vs hs rr =>
    have hs' : SqT X.K H ad vs := by
      rcases hs with h | h
      · rcases h with h | ⟨o, h⟩
        · exact .inl (.inl (E.sub _ _ h))
        · exact .inl (.inr ⟨o, E.sub _ _ h⟩)
      · exact .inr h
    cases rr with | @cons _ v1 _ _ r1 rr => cases rr with | @cons _ v2 _ _ r2 rr =>
    cases rr
    have hmi : i ∈ own.map (·.2) := List.mem_map_of_mem (f := (·.2)) hi
    have hmj : j ∈ own.map (·.2) := List.mem_map_of_mem (f := (·.2)) hj
    refine ⟨ad, _, rfl, hs', rfl, v1, [v2], rfl, v2, [], rfl, rfl, ?_⟩
    refine q _ _ a ?_ (by rw [wipe_set hmj, wipe_set hmi])
    obtain ⟨i', hi', E2⟩ := E.put (hf.put (.dat d)) (.inl (own_z hown hi)) (.dat r1)
    have ij : i = i' := nodup_ix nd (ok.ix _ hi) hi'
    subst ij
    obtain ⟨j', hj', E3⟩ := E2.put ((hf2 (.dat d)).put (.dat e)) (.inl (own_z hown hj)) (.dat r2)
    have ij : j = j' := nodup_ix nd (ok.ix _ hj) hj'
    subst ij
    exact E3
theorem split_back (p : Addr × O) : ∀ m : Mem, Split (p :: m) m [p]
  | [] => .nil
  | q :: m => .cons (a := q.1) (o := q.2) (.there .here) (split_back p m)
/-- the readings of a block's parts: they hold whatever the block's own frame -/
def teU (X : Cx) (scope : Scope) (e : Expr) : TE := fun τ H Q => ∀ (s : Shared) (H0 : Hp) (C : Addr) (cl : List (Str × Addr)) (fp : List Addr) (pins : List (Addr × Obj)) (s1 : Shared), Inv (bx X scope s H0 C cl fp) pins τ H s1 →
  wpAny (model X.prog X.w) X.A (eval e (bx X scope s H0 C cl fp).env) (EP (bx X scope s H0 C cl fp) pins τ Q) (fun _ _ => False) s1
theorem pe_U {e : Expr} (s : Shared) (H0 : Hp) (C : Addr) (cl : List (Str × Addr)) (fp : List Addr) : PE (bx X scope s H0 C cl fp) e (teU X scope e) := ⟨fun pins s1 τ H Q I h => h s H0 C cl fp pins s1 I⟩
def ttU (X : Cx) (scope : Scope) (ifs : List Expr) : TT := fun τ H Q => ∀ (s : Shared) (H0 : Hp) (C : Addr) (cl : List (Str × Addr)) (fp : List Addr) (pins : List (Addr × Obj)) (s1 : Shared), Inv (bx X scope s H0 C cl fp) pins τ H s1 →
  wpAny (model X.prog X.w) X.A (forIn ifs true fun c r => if r = true then do let ok ← isTrue c (bx X scope s H0 C cl fp).env (eval c (bx X scope s H0 C cl fp).env); pure (ForInStep.yield ok) else pure (ForInStep.yield r)) (TP (bx X scope s H0 C cl fp) pins τ Q) (fun _ _ => False) s1
theorem pts_U (s : Shared) (H0 : Hp) (C : Addr) (cl : List (Str × Addr)) (fp : List Addr) : PTs (bx X scope s H0 C cl fp) ifs (ttU X scope ifs) := ⟨fun pins s1 τ H Q I h => h s H0 C cl fp pins s1 I⟩
/-- one turn of a clause whose item is at hand: tests, element -/
def Turn1 (X : Cx) (scope : Scope) (k : Nat) (σ2 : Sl) (m : Mem) (ifs : List Expr) (elt : Expr) (yes : R → Mem → Prop) (no : Mem → Prop) : Prop :=
  ∀ Xb c', IsBlk X scope Xb → Live Xb c' k → DTs Xb c' σ2 m ifs (fun b m2 => (b = true → ∀ Xe, IsBlk X scope Xe → Live Xe c' k → DE Xe c' σ2 m2 elt yes) ∧ (b = false → no m2))
theorem dts_run {Kb : Bool → Mem → Prop} {τ : L2.St} {G H : Hp} {Q : Bool → Hp → Prop} (h : ∀ Xb, IsBlk X scope Xb → DTs Xb c σ m ifs Kb) (E : EB X scope c σ m G τ H) (q : ∀ b m' G' H', Kb b m' → Ex G G' → EB X scope c σ m' G' τ H' → Q b H') : ttU X scope ifs τ H Q := by
  intro s H0 C cl fp pins s1 I
  have h1 := h _ ⟨s, H0, C, cl, fp, rfl⟩
  match ifs, h1 with
  | [], h1 => exact wpAny_tests_nil ⟨H, I, q true m G H h1 (Ex.refl G) E⟩
  | [e], h1 => exact wpAny_tests_one (h1 _ pins s1 τ H G Q rfl I E.to fun b m' G' H' z x E' => q b m' G' H' z x (EB.of E'))
theorem de_run {Ke : R → Mem → Prop} {τ : L2.St} {G H : Hp} {Q : VK} (h : ∀ Xb, IsBlk X scope Xb → DE Xb c σ m elt Ke) (E : EB X scope c σ m G τ H) (q : ∀ r m' G' H' v, Ke r m' → Ex G G' → EB X scope c σ m' G' τ H' → RelR X.K G' r v → Q v H') : teU X scope elt τ H Q := by
  intro s H0 C cl fp pins s1 I
  exact h _ ⟨s, H0, C, cl, fp, rfl⟩ pins s1 τ H G Q I E.to fun r m' G' H' v z x E' rv => q r m' G' H' v z x (EB.of E') rv
/-- objects that nothing of the walk touches -/
def KeepK (ks : List (Addr × HO)) (m : Mem) (G H : Hp) : Prop := ∀ p ∈ ks, H p.1 = some p.2 ∧ p.1 ∉ m.map (·.1) ∧ G p.1 = none
def WalksA (K : PySem.W.Frag) (J : It) (ds : List D) (G : Hp) (ks : List (Addr × HO)) : Prop := ∀ i H, Ex G H → (∀ p ∈ ks, H p.1 = some p.2) →
  (∀ d, ds[i]? = some d → J.go i H ∧ ∀ x H', J.yld i H x H' → (H' = H ∧ Rep K G d x) ∨ ∃ p ho, H p = none ∧ H' = L2.upd H p ho ∧ Rep K (L2.upd G p ho) d x) ∧ (ds.length ≤ i → J.stop i H)
theorem Walks.a {Kf : PySem.W.Frag} {J : It} {ds : List D} {G : Hp} (h : Walks Kf J ds G) : WalksA Kf J ds G [] := fun i H e _ => h i H e
theorem KeepK.nil {m : Mem} {G H : Hp} : KeepK [] m G H := fun p hp => by cases hp
theorem KeepK.new {ks : List (Addr × HO)} {m : Mem} {G H : Hp} {D : Addr} {o : O} {ho : HO} (h : KeepK ks m G H) (hD : H D = none) : KeepK ks ((D, o) :: m) G (L2.upd H D ho) := fun p hp => by
  obtain ⟨a1, a2, a3⟩ := h p hp
  have ne : p.1 ≠ D := ne_of_none a1 hD
  refine ⟨by rw [upd_ne ne]; exact a1, fun z => ?_, a3⟩
  rcases List.mem_cons.mp z with z | z
  · exact ne z
  · exact a2 z
theorem KeepK.newG {ks : List (Addr × HO)} {m : Mem} {G H : Hp} {D : Addr} {ho : HO} (h : KeepK ks m G H) (hD : H D = none) : KeepK ks m (L2.upd G D ho) (L2.upd H D ho) := fun p hp => by
  obtain ⟨a1, a2, a3⟩ := h p hp
  have ne : p.1 ≠ D := ne_of_none a1 hD
  exact ⟨by rw [upd_ne ne]; exact a1, a2, by rw [upd_ne ne]; exact a3⟩
theorem KeepK.put {ks : List (Addr × HO)} {m : Mem} {G H : Hp} {D : Addr} {o o' : O} {ho : HO} (h : KeepK ks ((D, o) :: m) G H) : KeepK ks ((D, o') :: m) G (L2.upd H D ho) := fun p hp => by
  obtain ⟨a1, a2, a3⟩ := h p hp
  have ne : p.1 ≠ D := fun z => a2 (by rw [z]; exact List.mem_cons_self)
  exact ⟨by rw [upd_ne ne]; exact a1, a2, a3⟩
theorem lc_read {ds : List D} {wi : TI} (ks : List (Addr × HO)) (P : Nat → List R → Mem → Prop) (L : Live X c k) (ok : BlkOk X.N X.env.scope scope own) (hown : ∀ p ∈ own, scope.names.lookup p.1 = some .local) (hb : Blk scope σ σb) (t : CTgt X scope own σb tg g A)
    (turn : ∀ i d rs m', ds[i]? = some d → P i rs m' → A (.dat d) (fun σ2 => Turn1 X scope k σ2 m' ifs elt (fun r m3 => P (i + 1) (rs ++ [r]) m3) (fun m2 => P (i + 1) rs m2))) (hl : ds.length ≤ 1000000)
    (hend : ∀ rs m' p, P ds.length rs m' → K (.own p) ((p, .lst rs) :: m')) {τ : L2.St} {H G : Hp} {Q : VK} (E : EnvOk X c σ m G τ H)
    (hw : ∀ R' : It → Hp → Prop, (∀ ds' m' G' H' J, ds' = ds ∧ P 0 [] m' → Ex G G' → EnvOk X c σ m' G' τ H' → WalksA X.K J ds' G' ks → KeepK ks m' G' H' → R' J H') → wi τ H R') (q : ∀ r m' G' H' v, K r m' → Ex G G' → EnvOk X c σ m' G' τ H' → RelR X.K G' r v → KeepK ks m' G' H' → Q v H') :
    tLc wi g (ttU X scope ifs) (teU X scope elt) (own.map (·.2)) τ H Q := by
  refine hw _ fun ds' m1 G1 H1 J ⟨ed, z⟩ x1 E1 wk kk => ?_
  subst ed
  intro D hD
  refine ⟨fun i n H' => n = ds'.length - i ∧ i ≤ ds'.length ∧ ∃ rs m' G', P i rs m' ∧ rs.length ≤ i ∧ EnvOk X c σ ((D, .lst rs) :: m') G' τ H' ∧ Ex G1 G' ∧ KeepK ks ((D, .lst rs) :: m') G' H', ⟨_, rfl, Nat.zero_le _, [], m1, G1, z, Nat.le_refl _, E1.new hD (.lst .nil), Ex.refl G1, kk.new hD⟩, ?_⟩
  rintro i n H' ⟨rfl, hi, rs, m', G', hP, hrs, E', x', kk'⟩
  obtain ⟨w1, w2⟩ := wk i H' (x'.trans E'.sub) fun p hp => (kk' p hp).1
  by_cases hlt : i < ds'.length
  · obtain ⟨go, yl⟩ := w1 ds'[i] (List.getElem?_eq_getElem hlt)
    refine .inr ⟨go, fun H2 => ∃ rs2 m2 G2, P (i + 1) rs2 m2 ∧ rs2.length ≤ i + 1 ∧ EnvOk X c σ ((D, .lst rs2) :: m2) G2 τ H2 ∧ Ex G1 G2 ∧ KeepK ks ((D, .lst rs2) :: m2) G2 H2, fun H2 ⟨rs2, m2, G2, h1, h2, h3, h4, h5⟩ => ⟨ds'.length - (i + 1), by omega, rfl, hlt, rs2, m2, G2, h1, h2, h3, h4, h5⟩, fun x H2 hy => ?_⟩
    have T := turn i ds'[i] rs m' (List.getElem?_eq_getElem hlt) hP
    -- the item at hand
    have go2 : ∀ G3 H3, Ex G' G3 → EnvOk X c σ ((D, .lst rs) :: m') G3 τ H3 → KeepK ks ((D, .lst rs) :: m') G3 H3 → RelR X.K G3 (.dat ds'[i]) x →
        g x (wipe τ (own.map (·.2))) H3 fun τ2 H4 => wipe τ2 (own.map (·.2)) = wipe τ (own.map (·.2)) ∧ ttU X scope ifs τ2 H4 fun b H5 =>
          if b = true then teU X scope elt τ2 H5 fun y H6 => ∃ acc, H6 D = some (.lst acc) ∧ acc.length < sizeLine ∧ ∃ rs2 m2 G2, P (i + 1) rs2 m2 ∧ rs2.length ≤ i + 1 ∧ EnvOk X c σ ((D, .lst rs2) :: m2) G2 τ (L2.upd H6 D (.lst (acc ++ [y]))) ∧ Ex G1 G2 ∧ KeepK ks ((D, .lst rs2) :: m2) G2 (L2.upd H6 D (.lst (acc ++ [y])))
          else ∃ rs2 m2 G2, P (i + 1) rs2 m2 ∧ rs2.length ≤ i + 1 ∧ EnvOk X c σ ((D, .lst rs2) :: m2) G2 τ H5 ∧ Ex G1 G2 ∧ KeepK ks ((D, .lst rs2) :: m2) G2 H5 := fun G3 H3 x3 E3 k3 r3 => by
      have sp : Split ((D, .lst rs) :: m') m' [(D, .lst rs)] := split_back _ _
      have Ei : EnvOk X (ctSub c H3 G3 m' fun _ _ _ _ => False) σ m' G3 τ H3 := E3.into sp
      have Eb := Ei.blk hb ok hown
      have nl : ∀ {Xb : Cx}, IsBlk X scope Xb → Live Xb (ctSub c H3 G3 m' fun _ _ _ _ => False) k := fun h => h.live L fun _ _ _ _ z => z
      obtain ⟨_, hoD, hhD, roD⟩ := E3.mem (D, .lst rs) List.mem_cons_self
      -- the list as it stands behind the block's parts
      have hDm : D ∉ (ctSub c H3 G3 m' fun _ _ _ _ => False).mu := by
        have nd := E3.nd
        exact (List.nodup_cons.mp nd).1
      -- back to the def's context
      have bk : ∀ {σ2 : Sl} {τ2 : L2.St} {m2 : Mem} {G2 H2 : Hp}, EB X scope (ctSub c H3 G3 m' fun _ _ _ _ => False) σ2 m2 G2 τ2 H2 → EnvOk X c σ ((D, .lst rs) :: m2) G2 τ H2 := fun {σ2 τ2 m2 G2 H2} e => by
        have A := E3.after sp (show OutOk X.K _ _ _ _ _ _ from e.outK)
        refine A.drop (fun p hp => ?_) ?_
        · rcases List.mem_cons.mp hp with rfl | hp
          · exact List.mem_append_right _ List.mem_cons_self
          · exact List.mem_append_left _ hp
        · have nd := A.nd
          have pm : (m2 ++ [(D, O.lst rs)]).Perm ((D, .lst rs) :: m2) := List.perm_append_comm
          exact (pm.map _).nodup_iff.mp nd
      have kp : ∀ {σ2 : Sl} {τ2 : L2.St} {m2 : Mem} {G2 H2 : Hp} {rs2 : List R}, EB X scope (ctSub c H3 G3 m' fun _ _ _ _ => False) σ2 m2 G2 τ2 H2 → KeepK ks ((D, .lst rs2) :: m2) G2 H2 := fun {σ2 τ2 m2 G2 H2 rs2} e p hp => by
        obtain ⟨a1, a2, a3⟩ := k3 p hp
        have nm' : p.1 ∉ m'.map (·.1) := fun z => a2 (List.mem_cons_of_mem _ z)
        refine ⟨e.fr p.1 p.2 a1 nm', fun z => ?_, ?_⟩
        · rcases List.mem_cons.mp z with z | z
          · exact a2 (by rw [z]; exact List.mem_cons_self)
          · obtain ⟨q, hq, eq⟩ := List.mem_map.mp z
            rcases e.ok q hq with y | y
            · rw [eq] at y; exact nm' y
            · rw [eq] at y; exact absurd (show H3 p.1 = none from y) (by rw [a1]; exact fun w => by cases w)
        · cases ge : G2 p.1 with
          | none => rfl
          | some o =>
            rcases e.gn p.1 o ge with y | y | y
            · exact absurd (show G3 p.1 = some o from y) (by rw [a3]; exact fun w => by cases w)
            · exact absurd y nm'
            · exact absurd (show H3 p.1 = none from y) (by rw [a1]; exact fun w => by cases w)
      refine t.run ok hown E.nm.nd T Eb r3 fun σ2 τ2 T2 E2 hw2 => ⟨by rw [hw2, wipe_wipe], ?_⟩
      refine dts_run (fun Xb hX => T2 Xb _ hX (nl hX)) E2 fun b m5 G5 H5 ⟨y1, y2⟩ x5 E5 => ?_
      cases b with
      | false =>
        rw [if_neg Bool.false_ne_true]
        exact ⟨rs, m5, G5, y2 rfl, by omega, bk E5, (x'.trans x3).trans x5, kp E5⟩
      | true =>
        rw [if_pos rfl]
        -- the element, under every block
        have d6 : ∀ Xb, IsBlk X scope Xb → DE Xb (ctSub c H3 G3 m' fun _ _ _ _ => False) σ2 m5 elt (fun r m3 => P (i + 1) (rs ++ [r]) m3) := fun Xb hX => by
          exact y1 rfl Xb hX (nl hX)
        refine de_run d6 E5 fun r m6 G6 H6 v y x6 E6 rv => ?_
        have E7 := bk E6
        obtain ⟨_, ho7, hh7, ro7⟩ := E7.mem (D, .lst rs) List.mem_cons_self
        cases ro7 with | @lst _ acc ro7 =>
        refine ⟨acc, hh7, ?_, rs ++ [r], m6, G6, y, by rw [List.length_append]; simp; omega, E7.chg .here (.lst (ro7.append (.cons rv .nil))), ((x'.trans x3).trans x5).trans x6, (kp (rs2 := rs) E6).put⟩
        rw [← ro7.length]
        exact Nat.lt_of_le_of_lt (by omega : rs.length ≤ 1000000) (by decide)
    rcases yl x H2 hy with ⟨eH, rx⟩ | ⟨p, ho, hp, eH, rx⟩
    · subst eH
      exact go2 G' _ (Ex.refl G') E' kk' (.dat (rx.mono x'))
    · subst eH
      have g1 : G' p = none := E'.sub.back hp
      exact go2 (L2.upd G' p ho) _ (Ex.new g1) (E'.newG hp) (kk'.newG hp) (.dat (rx.mono (Ex.both x')))
  · have e : i = ds'.length := by omega
    subst e
    exact .inl ⟨w2 (Nat.le_refl _), q _ _ G' _ _ (hend rs m' D hP) (x1.trans x') E' .own kk'⟩
theorem de_lc {ds : List D} (P : Nat → List R → Mem → Prop) (L : Live X c k) (nd : X.N.Nodup) (ok : BlkOk X.N X.env.scope scope own) (hown : ∀ p ∈ own, scope.names.lookup p.1 = some .local) (hb : Blk scope σ σb) (t : CTgt X scope own σb tg g A)
    (hit : DIt X c σ m tg iter (fun ds' m1 => ds' = ds ∧ P 0 [] m1))
    (turn : ∀ i d rs m', ds[i]? = some d → P i rs m' → A (.dat d) (fun σ2 => Turn1 X scope k σ2 m' ifs elt (fun r m3 => P (i + 1) (rs ++ [r]) m3) (fun m2 => P (i + 1) rs m2))) (hl : ds.length ≤ 1000000)
    (hend : ∀ rs m' p, P ds.length rs m' → K (.own p) ((p, .lst rs) :: m')) (hs : ∀ x, foldedSetIterable iter X.env x = pure x := by intro _; rfl) : DE X c σ m (.ListComp elt [⟨tg, iter, ifs, 0⟩] scope pos) K := by
  obtain ⟨wi, hpi, hw⟩ := hit
  exact de_of (pe_lc L.calm nd hpi ok (fun s H C cl fp => t.pg ok hown nd L.calm s H C cl fp) (fun s H C cl fp => pts_U s H C cl fp) (fun s H C cl fp => pe_U s H C cl fp) hs) fun τ H G Q E q =>
    lc_read [] P L ok hown hb t turn hl hend E (fun R' h => hw τ H G R' E fun ds m' G' H' J z x E' w => h ds m' G' H' J z x E' w.a .nil) fun r m' G' H' v z x E' rv _ => q r m' G' H' v z x E' rv
theorem ds_lc {ds : List D} {en : En} {y : Str} {py spos : Pos} {f : R → Sl} (P : Nat → List R → Mem → Prop) (L : Live X c k) (nd : X.N.Nodup) (hy : X.env.scope.names.lookup y = some .local) (hp : PutF σ y f) (ok : BlkOk X.N X.env.scope scope own) (hown : ∀ p ∈ own, scope.names.lookup p.1 = some .local) (hb : Blk scope σ σb) (t : CTgt X scope own σb tg g A)
    (hit : DIt X c σ m tg iter (fun ds' m1 => ds' = ds ∧ P 0 [] m1))
    (turn : ∀ i d rs m', ds[i]? = some d → P i rs m' → A (.dat d) (fun σ2 => Turn1 X scope k σ2 m' ifs elt (fun r m3 => P (i + 1) (rs ++ [r]) m3) (fun m2 => P (i + 1) rs m2))) (hl : ds.length ≤ 1000000)
    (hend : ∀ rs m' p, P ds.length rs m' → en.nx (f (.own p)) ((p, .lst rs) :: m'))
    (hsw : swapsWith (.ListComp elt [⟨tg, iter, ifs, 0⟩] scope pos) (some (.Name y py)) spos.line X.env = pure true) (hs : ∀ x, foldedSetIterable iter X.env x = pure x := by intro _; rfl) :
    DS X c σ m (.Assign [.Name y py] (.ListComp elt [⟨tg, iter, ifs, 0⟩] scope pos) spos) en := fun F pins s τ H G D I E fx ft => by
  obtain ⟨wi, hpi, hw⟩ := hit
  have hm : y ∈ X.N := by rw [E.names]; exact hp.at
  obtain ⟨i, hi⟩ := List.mem_iff_getElem?.mp hm
  refine (ps_setLc L.calm nd hi hy hsw hpi ok (fun s H C cl fp => t.pg ok hown nd L.calm s H C cl fp) (fun s H C cl fp => pts_U s H C cl fp) (fun s H C cl fp => pe_U s H C cl fp) hs).run pins s τ H D I ?_
  refine lc_read (K := fun r m' => en.nx (f r) m') [] P L ok hown hb t turn hl hend E (fun R' h => hw τ H G R' E fun ds m' G' H' J z x E' w => h ds m' G' H' J z x E' w.a .nil) fun r m' G' H' v z x1 E' rv _ => ?_
  obtain ⟨j, hj, E2⟩ := E'.put (hp.put r) (.inl hy) rv
  have ij : i = j := nodup_ix nd hi hj
  subst ij
  exact ft.nx _ m' G' _ H' z (fx.trans x1) E2
end
end D2
namespace D2
open PySem L2
theorem ati {α : Type} {xs : List α} {i : Int} {v : α} (j : Nat) (h : xs[j]? = some v) (e : i = (j : Int)) : atI xs i = some v := by
  subst e; exact atI_nat h
end D2
/-! ## D2Eq -/
set_option Elab.async false
set_option linter.all false
set_option maxRecDepth 100000
set_option maxHeartbeats 2000000
namespace D2
open PySem PySem.Spec PyProof.Rows L2

/-! ### == of data -/
mutual
inductive PV (m : Mem) : R → PyData → Prop
  | non : PV m (.dat .non) .none
  | bl {b} : PV m (rB b) (.bool b)
  | int {i} : PV m (rI i) (.int i)
  | str {s} : PV m (rS s) (.str (sOf s))
  | lst {r rs ps} : VL m r rs → PVs m rs ps → PV m r (.list ps)
  | tup {ds ps} : PVs m (ds.map .dat) ps → PV m (.dat (.tup ds)) (.tuple ps)
inductive PVs (m : Mem) : List R → List PyData → Prop
  | nil : PVs m [] []
  | cons {r p rs ps} : PV m r p → PVs m rs ps → PVs m (r :: rs) (p :: ps)
end
section
variable {X : Cx} {c : Ct} {σ : Sl} {m : Mem} {τ : L2.St} {H G : Hp} {K : R → Mem → Prop}
mutual
theorem PV.dp (E : EnvOk X c σ m G τ H) : ∀ {p : PyData} {r : R} {v : V}, PV m r p → RelR X.K G r v → Dp X.K H v p
  | _, _, _, .non, rv => by cases rv with | dat rv => cases rv; exact .non
  | _, _, _, .bl, rv => by cases bl_of rv; exact .bl _
  | _, _, _, .int, rv => by cases int_of rv; exact .int _
  | _, _, _, .str, rv => by cases str_of rv; exact .str _
  | _, _, _, .lst h t, rv => by
    obtain ⟨a, vs, rfl, hs, rr⟩ := h.at E rv
    exact .lst hs (PVs.dp E t rr)
  | _, _, _, .tup t, rv => by
    cases rv with | dat rv =>
    cases rv with | tup hs rr => exact .tup (ex_t E.sub hs) (PVs.dp E t rr.rel)
theorem PVs.dp (E : EnvOk X c σ m G τ H) : ∀ {ps : List PyData} {rs : List R} {vs : List V}, PVs m rs ps → RelRs X.K G rs vs → DpAll X.K H vs ps
  | _, _, _, .nil, rv => by cases rv; exact .nil
  | _, _, _, .cons h t, rv => by cases rv with | cons r1 rv => exact .cons (PV.dp E h r1) (PVs.dp E t rv)
end
/-- what == takes: no dict within, few floors -/
def EqOk (p : PyData) : Prop := p.plain = true ∧ p.depth ≤ 60
theorem o_eqD {r1 r2 : R} {p1 p2 : PyData} {k : Nat} (L : Live X c k) (h1 : PV m r1 p1) (h2 : PV m r2 p2) (s1 : EqOk p1) (s2 : EqOk p2) (kk : K (rB (PyData.eqv p1 p2)) m) : OP X c σ m (compareOp .Eq) r1 r2 K :=
  fun pins s τ H G v1 v2 u1 u2 Q I E q1 q2 rx ry q => by
    obtain ⟨as, a1⟩ := Dp.reads I p1 v1 u1 (h1.dp E q1) rx
    obtain ⟨bs, a2⟩ := Dp.reads I p2 v2 u2 (h2.dp E q2) ry
    exact SeqAt.eq_plain a1 a2 s1.1 s2.1 (by have := L.room.units; have := s1.2; omega) ⟨.bl _, H, I, rfl, q.now kk E (.dat .bl)⟩
theorem o_neD {r1 r2 : R} {p1 p2 : PyData} {k : Nat} (L : Live X c k) (h1 : PV m r1 p1) (h2 : PV m r2 p2) (s1 : EqOk p1) (s2 : EqOk p2) (kk : K (rB (!PyData.eqv p1 p2)) m) : OP X c σ m (compareOp .NotEq) r1 r2 K :=
  fun pins s τ H G v1 v2 u1 u2 Q I E q1 q2 rx ry q => by
    obtain ⟨as, a1⟩ := Dp.reads I p1 v1 u1 (h1.dp E q1) rx
    obtain ⟨bs, a2⟩ := Dp.reads I p2 v2 u2 (h2.dp E q2) ry
    exact SeqAt.ne_plain a1 a2 s1.1 s2.1 (by have := L.room.units; have := s1.2; omega) ⟨.bl _, H, I, rfl, q.now kk E (.dat .bl)⟩
end
theorem pvs_int (m : Mem) : ∀ xs : List Int, PVs m (xs.map rI) (xs.map .int)
  | [] => .nil
  | _ :: xs => .cons .int (pvs_int m xs)
theorem pvs_str (m : Mem) : ∀ xs : List (List Nat), PVs m (xs.map rS) (xs.map fun s => .str (sOf s))
  | [] => .nil
  | _ :: xs => .cons .str (pvs_str m xs)
def dI (xs : List Int) : List D := xs.map .int
def dS (xs : List (List Nat)) : List D := xs.map .str
theorem vl_I {m : Mem} {xs : List Int} : VL m (.dat (.lst (dI xs))) (xs.map rI) := by
  have h : VL m (.dat (.lst (dI xs))) ((dI xs).map .dat) := .dat
  unfold dI at h
  rw [List.map_map] at h
  exact h
theorem vl_S {m : Mem} {xs : List (List Nat)} : VL m (.dat (.lst (dS xs))) (xs.map rS) := by
  have h : VL m (.dat (.lst (dS xs))) ((dS xs).map .dat) := .dat
  unfold dS at h
  rw [List.map_map] at h
  exact h
theorem eqv_strs : ∀ xs ys : List (List Nat), PyData.eqvAll (xs.map fun s => .str (sOf s)) (ys.map fun s => .str (sOf s)) = decide (xs = ys)
  | [], [] => rfl
  | [], _ :: _ => rfl
  | _ :: _, [] => rfl
  | x :: xs, y :: ys => by
    rw [List.map_cons, List.map_cons, PyData.eqvAll, eqv_strs xs ys, PyData.eqv]
    by_cases h : x = y
    · subst h; simp
    · have z : sOf x ≠ sOf y := fun e => h (by have := congrArg lit e; rwa [lit_sOf, lit_sOf] at this)
      simp [h, z]
theorem eqv_ints : ∀ xs ys : List Int, PyData.eqvAll (xs.map .int) (ys.map .int) = decide (xs = ys)
  | [], [] => rfl
  | [], _ :: _ => rfl
  | _ :: _, [] => rfl
  | x :: xs, y :: ys => by
    rw [List.map_cons, List.map_cons, PyData.eqvAll, eqv_ints xs ys, PyData.eqv]
    by_cases h : x = y
    · subst h; simp
    · simp [h]
theorem plain_ints : ∀ xs : List Int, PyData.plainAll (xs.map .int) = true
  | [] => rfl
  | _ :: xs => by rw [List.map_cons, PyData.plainAll, plain_ints xs]; rfl
theorem plain_strs : ∀ xs : List (List Nat), PyData.plainAll (xs.map fun s => .str (sOf s)) = true
  | [] => rfl
  | _ :: xs => by rw [List.map_cons, PyData.plainAll, plain_strs xs]; rfl
theorem depth_ints : ∀ xs : List Int, PyData.depthAll (xs.map .int) ≤ 1
  | [] => by simp [PyData.depthAll]
  | _ :: xs => by have := depth_ints xs; simp only [List.map_cons, PyData.depthAll, PyData.depth]; omega
theorem depth_strs : ∀ xs : List (List Nat), PyData.depthAll (xs.map fun s => .str (sOf s)) ≤ 1
  | [] => by simp [PyData.depthAll]
  | _ :: xs => by have := depth_strs xs; simp only [List.map_cons, PyData.depthAll, PyData.depth]; omega
theorem eqok_ints (xs : List Int) : EqOk (.list (xs.map .int)) := ⟨by rw [PyData.plain]; exact plain_ints xs, by have := depth_ints xs; rw [PyData.depth]; omega⟩
theorem eqok_strs (xs : List (List Nat)) : EqOk (.list (xs.map fun s => .str (sOf s))) := ⟨by rw [PyData.plain]; exact plain_strs xs, by have := depth_strs xs; rw [PyData.depth]; omega⟩
theorem pv_dI {m : Mem} {xs : List Int} : PV m (.dat (.lst (dI xs))) (.list (xs.map .int)) := .lst vl_I (pvs_int m xs)
theorem pv_dS {m : Mem} {xs : List (List Nat)} : PV m (.dat (.lst (dS xs))) (.list (xs.map fun s => .str (sOf s))) := .lst vl_S (pvs_str m xs)
end D2
/-! ## D2More -/
set_option Elab.async false
set_option linter.all false
set_option maxRecDepth 100000
set_option maxHeartbeats 2000000
namespace D2
open PySem PySem.Spec PyProof.Rows L2

/-! ### fog: slots that are told no more -/
inductive Fog : Sl → Sl → Prop
  | nil : Fog [] []
  | keep {p σ σ'} : Fog σ σ' → Fog (p :: σ) (p :: σ')
  | drop {x o σ σ'} : Fog σ σ' → Fog ((x, o) :: σ) ((x, none) :: σ')
theorem Fog.refl : ∀ σ : Sl, Fog σ σ
  | [] => .nil
  | _ :: σ => .keep (Fog.refl σ)
theorem Fog.names {σ σ' : Sl} (h : Fog σ σ') : σ'.map (·.1) = σ.map (·.1) := by
  induction h with
  | nil => rfl
  | keep _ ih => simp [ih]
  | drop _ ih => simp [ih]
theorem Fog.at {σ σ' : Sl} (h : Fog σ σ') : ∀ {i : Nat} {x : Str} {r : R}, σ'[i]? = some (x, some r) → σ[i]? = some (x, some r) := by
  induction h with
  | nil => intro i x r e; simp at e
  | keep _ ih =>
    intro i x r e
    cases i with
    | zero => exact e
    | succ i => simp at e ⊢; exact ih e
  | drop _ ih =>
    intro i x r e
    cases i with
    | zero => simp at e
    | succ i => simp at e ⊢; exact ih e
section
variable {X : Cx} {c : Ct} {σ σ' : Sl} {m m' : Mem} {G : Hp} {τ : L2.St} {H : Hp} {st : Stmt} {sts : List Stmt} {en : En} {e : Expr} {K : R → Mem → Prop}
theorem EnvOk.fog (E : EnvOk X c σ m G τ H) (h : Fog σ σ') : EnvOk X c σ' m G τ H := by
  refine ⟨E.nm, by rw [h.names]; exact E.names, ?_, E.sub, E.nd, E.mem, E.fr, E.th, E.ok, E.gn, E.g0, fun p hp hs => ?_, fun i x r hi => E.sl i x r (h.at hi)⟩
  · have z := congrArg List.length h.names
    rw [List.length_map, List.length_map] at z
    rw [E.len, z]
  · obtain ⟨i, hi⟩ := List.mem_iff_getElem?.mp hp
    obtain ⟨x, o⟩ := p
    cases o with
    | none => cases hs
    | some r => exact E.vis (x, some r) (List.mem_of_getElem? (h.at hi)) rfl
theorem EnvOk.less (E : EnvOk X c σ m G τ H) (h : m'.Sublist m) : EnvOk X c σ m' G τ H := E.drop (fun p hp => h.subset hp) ((h.map _).nodup E.nd)
/-- told less: slots in fog, owned objects let go -/
abbrev Lo (P : Sl → Mem → Prop) : Sl → Mem → Prop := fun σ m => ∃ σ2 m2, Fog σ σ2 ∧ m2.Sublist m ∧ P σ2 m2
abbrev LoR (P : R → Mem → Prop) : R → Mem → Prop := fun r m => ∃ m2, m2.Sublist m ∧ P r m2
abbrev lo (en : En) : En := { nx := Lo en.nx, rt := LoR en.rt, bk := Lo en.bk, ct := Lo en.ct }
theorem Fit.lo {F : Hp} {D : Ends} (f : Fit X c F D en) : Fit X c F D (lo en) := by
  refine ⟨fun σ m G τ H ⟨σ2, m2, a, b, h⟩ x E => f.nx σ2 m2 G τ H h x ((E.fog a).less b), fun r σ m G τ H v ⟨m2, b, h⟩ x E rv => f.rt r σ m2 G τ H v h x (E.less b) rv,
    fun σ m G τ H ⟨σ2, m2, a, b, h⟩ x E => f.bk σ2 m2 G τ H h x ((E.fog a).less b), fun σ m G τ H ⟨σ2, m2, a, b, h⟩ x E => f.ct σ2 m2 G τ H h x ((E.fog a).less b)⟩
theorem dss_lo (h : DSs X c σ m sts (lo en)) : DSs X c σ m sts en := fun F pins s τ H G D I E x f => h F pins s τ H G D I E x f.lo
theorem ds_lo (h : DS X c σ m st (lo en)) : DS X c σ m st en := fun F pins s τ H G D I E x f => h F pins s τ H G D I E x f.lo
theorem lo_i {P : Sl → Mem → Prop} (h : P σ m) : Lo P σ m := ⟨σ, m, Fog.refl σ, List.Sublist.refl m, h⟩
theorem lor_i {P : R → Mem → Prop} {r : R} (h : P r m) : LoR P r m := ⟨m, List.Sublist.refl m, h⟩
theorem de_lo (h : DE X c σ m e (LoR K)) : DE X c σ m e K := de_sub h
/-- begin with less -/
theorem dss_in (h : DSs X c σ' m' sts en) (a : Fog σ σ') (b : m'.Sublist m) : DSs X c σ m sts en := fun F pins s τ H G D I E x f => h F pins s τ H G D I ((E.fog a).less b) x f
theorem ds_in (h : DS X c σ' m' st en) (a : Fog σ σ') (b : m'.Sublist m) : DS X c σ m st en := fun F pins s τ H G D I E x f => h F pins s τ H G D I ((E.fog a).less b) x f
/-- one statement, then the others from a told place -/
theorem dss_cut {σ1 : Sl} {m1 : Mem} (h : DS X c σ m st (nxTo en fun σ' m' => σ' = σ1 ∧ m' = m1)) (h2 : DSs X c σ1 m1 sts en) : DSs X c σ m (st :: sts) en := dss_cons (fun F pins s τ H G D I E x f => h F pins s τ H G D I E x ⟨fun σ m G τ H ⟨a, b⟩ y E' => f.nx σ m G τ H (by subst a b; exact h2) y E', f.rt, f.bk, f.ct⟩)
end
theorem ati_l {α : Type} {xs : List α} {n : Nat} {v : α} (h : xs[n]? = some v) : atI xs (Int.ofNat n) = some v := ati n h rfl
theorem nil_len {α : Type} (xs : List α) : (xs = []) = (xs.length = 0) := propext List.length_eq_zero_iff.symm
theorem sub_nil {m : Mem} : ([] : Mem).Sublist m := List.nil_sublist m

/-! ### ints -/
theorem cm_l {i j : Int} (h1 : -18446744073709551616 < i) (h2 : i < 18446744073709551616) : CMul i j := .inl ⟨h1, h2⟩
theorem cm_r {i j : Int} (h1 : -18446744073709551616 < j) (h2 : j < 18446744073709551616) : CMul i j := .inr ⟨h1, h2⟩
theorem cd_s {i j : Int} (h1 : 0 < j) (h2 : j < 18446744073709551616) : CDivW i j := ⟨h1, by
  have e : j.natAbs < 2 ^ 64 := by
    have : (2 : Nat) ^ 64 = 18446744073709551616 := by decide
    omega
  exact Nat.lt_trans (PySem.Flt.log2_lt_of (by decide) e) (by decide)⟩

section
variable {X : Cx} {c : Ct} {σ σ' : Sl} {m m' : Mem} {K : R → Mem → Prop} {a b : Expr} {k : Nat}
/-! ### lists of ints, of texts -/
theorem ati_map {α : Type} {f : α → R} {xs : List α} {i : Int} {d : α} (h : 0 ≤ i ∧ i < xs.length) : atI (xs.map f) i = some (f (xs.getD i.toNat d)) := by
  refine ati i.toNat ?_ (by omega)
  have hl : i.toNat < xs.length := by omega
  rw [List.getElem?_map, List.getElem?_eq_getElem hl, List.getD_eq_getElem?_getD, List.getElem?_eq_getElem hl]
  rfl
/-- seen as a list of ints -/
def VI (m : Mem) (r : R) (xs : List Int) : Prop := VL m r (xs.map rI)
def VS (m : Mem) (r : R) (xs : List (List Nat)) : Prop := VL m r (xs.map rS)
theorem vi_dat {xs : List Int} : VI m (.dat (.lst (dI xs))) xs := vl_I
theorem vs_dat {xs : List (List Nat)} : VS m (.dat (.lst (dS xs))) xs := vl_S
theorem vi_own {p : Addr} {xs : List Int} (h : Has m p (.lst (xs.map rI)) m') : VI m (.own p) xs := .own h
theorem vs_own {p : Addr} {xs : List (List Nat)} (h : Has m p (.lst (xs.map rS)) m') : VS m (.own p) xs := .own h
theorem vi_nil {r : R} (h : VL m r []) : VI m r [] := h
theorem vs_nil {r : R} (h : VL m r []) : VS m r [] := h
theorem ln_I {r : R} {xs : List Int} (h : VI m r xs) : Ln m r xs.length := by
  have z : Ln m r (xs.map rI).length := .lst h
  rw [List.length_map] at z; exact z
theorem ln_S {r : R} {xs : List (List Nat)} (h : VS m r xs) : Ln m r xs.length := by
  have z : Ln m r (xs.map rS).length := .lst h
  rw [List.length_map] at z; exact z
theorem x_I {r : R} {xs : List Int} {i : Int} (h : VI m r xs) (hi : 0 ≤ i ∧ i < xs.length) (k : K (rI (xs.getD i.toNat 0)) m) : IX X c σ m a b r (rI i) K := x_lst h (ati_map hi) k
theorem x_S {r : R} {xs : List (List Nat)} {i : Int} (h : VS m r xs) (hi : 0 ≤ i ∧ i < xs.length) (k : K (rS (xs.getD i.toNat [])) m) : IX X c σ m a b r (rI i) K := x_lst h (ati_map hi) k
theorem x_ch {s : List Nat} {i : Int} (hl : s.length ≤ 1000000) (hi : 0 ≤ i ∧ i < s.length) (k : K (rS [s.getD i.toNat 0]) m) : IX X c σ m a b (rS s) (rI i) K := by
  refine x_str hl ?_ k
  refine ati i.toNat ?_ (by omega)
  have hl : i.toNat < s.length := by omega
  rw [List.getElem?_eq_getElem hl, List.getD_eq_getElem?_getD, List.getElem?_eq_getElem hl]
  rfl
theorem o_eqLI {r1 r2 : R} {xs ys : List Int} (L : Live X c k) (h1 : VI m r1 xs) (h2 : VI m r2 ys) (kk : K (rB (decide (xs = ys))) m) : OP X c σ m (compareOp .Eq) r1 r2 K :=
  o_eqD L (.lst h1 (pvs_int m xs)) (.lst h2 (pvs_int m ys)) (eqok_ints xs) (eqok_ints ys) (by rw [PyData.eqv, eqv_ints]; exact kk)
theorem o_neLI {r1 r2 : R} {xs ys : List Int} (L : Live X c k) (h1 : VI m r1 xs) (h2 : VI m r2 ys) (kk : K (rB (!decide (xs = ys))) m) : OP X c σ m (compareOp .NotEq) r1 r2 K :=
  o_neD L (.lst h1 (pvs_int m xs)) (.lst h2 (pvs_int m ys)) (eqok_ints xs) (eqok_ints ys) (by rw [PyData.eqv, eqv_ints]; exact kk)
theorem o_eqLS {r1 r2 : R} {xs ys : List (List Nat)} (L : Live X c k) (h1 : VS m r1 xs) (h2 : VS m r2 ys) (kk : K (rB (decide (xs = ys))) m) : OP X c σ m (compareOp .Eq) r1 r2 K :=
  o_eqD L (.lst h1 (pvs_str m xs)) (.lst h2 (pvs_str m ys)) (eqok_strs xs) (eqok_strs ys) (by rw [PyData.eqv, eqv_strs]; exact kk)
theorem o_neLS {r1 r2 : R} {xs ys : List (List Nat)} (L : Live X c k) (h1 : VS m r1 xs) (h2 : VS m r2 ys) (kk : K (rB (!decide (xs = ys))) m) : OP X c σ m (compareOp .NotEq) r1 r2 K :=
  o_neD L (.lst h1 (pvs_str m xs)) (.lst h2 (pvs_str m ys)) (eqok_strs xs) (eqok_strs ys) (by rw [PyData.eqv, eqv_strs]; exact kk)
end
/-- the place is this -/
abbrev Iv (sl : Sl) (me : Mem) : Sl → Mem → Prop := fun σ m => σ = sl ∧ m = me
theorem lo_iv {sl σ : Sl} {me m : Mem} (a : Fog σ sl) (b : me.Sublist m) : Lo (Iv sl me) σ m := ⟨sl, me, a, b, rfl, rfl⟩
/-! ### a body by its places -/
section
variable {X : Cx} {c : Ct} {σ : Sl} {m : Mem} {en : En} {B : List Stmt} {j : Nat} {st : Stmt}
theorem dss_at (hB : B[j]? = some st) (h : DS X c σ m st (nxTo en fun σ' m' => DSs X c σ' m' (B.drop (j + 1)) en)) : DSs X c σ m (B.drop j) en := by
  obtain ⟨hj, e⟩ := List.getElem?_eq_some_iff.mp hB
  rw [List.drop_eq_getElem_cons hj, e]
  exact dss_cons h
theorem dss_end (hB : B[j]? = none) (h : en.nx σ m) : DSs X c σ m (B.drop j) en := by
  rw [List.drop_of_length_le (List.getElem?_eq_none_iff.mp hB)]
  exact dss_nil h
theorem dss_go (h : DSs X c σ m (B.drop 0) en) : DSs X c σ m B en := h
end
/-! ### a def's facts -/
section
variable {X : Cx} {P : Program} {w : World} {K : PySem.W.Frag} {mg : Str → Option Value} {base : Heap} {N : List Str} {sc : Scope} {x : Str} {k : Nat} {S : Sp2}
theorem Def.own (D : Def X P w K mg base N sc) (h : sc.names.lookup x = some .local ∨ sc.names.lookup x = some .cell) : Own X x := by
  refine ⟨?_, .inl (D.fn x)⟩
  show X.env.scope.names.lookup x = some .local ∨ X.env.scope.names.lookup x = some .cell
  rw [D.sc]; exact h
theorem Def.gl (D : Def X P w K mg base N sc) (h : sc.names.lookup x = some .globalImplicit) : Gl X x := by
  show X.env.scope.names.lookup x = _
  rw [D.sc]; exact h
theorem Def.mg_ (D : Def X P w K mg base N sc) {o : Option Value} (h : mg x = o) : X.mg x = o := by rw [D.mg]; exact h
theorem Def.callee (D : Def X P w K mg base N sc) (h : CalleeG P w K mg base x k S) : Callee X x k S := by
  show CalleeG X.prog X.w X.K X.mg X.base x k S
  rw [D.prog, D.w, D.K, D.mg, D.base]; exact h
theorem Def.nd (D : Def X P w K mg base N sc) (h : N.Nodup) : X.N.Nodup := by rw [D.N]; exact h
end
/-! ### comprehensions' facts, by their scopes -/
section
variable {X : Cx} {P : Program} {w : World} {K : PySem.W.Frag} {mg : Str → Option Value} {base : Heap} {N : List Str} {sc scope : Scope} {own : List (Str × Nat)}
def BlkB (N : List Str) (sc scope : Scope) (own : List (Str × Nat)) : Bool :=
  decide (scope.kind = .function) && scope.names.all (fun y => decide (scope.names.lookup y.1 = some y.2)) && own.all (fun p => decide (N[p.2]? = some p.1)) &&
    scope.names.all (fun y => !decide (y.2 = .free) || decide (sc.names.lookup y.1 = some .cell ∨ sc.names.lookup y.1 = some .free)) &&
    scope.names.all (fun y => !decide (y.2 = .local ∨ y.2 = .cell) || decide (y.1 ∈ own.map (·.1)) || decide (y.1 ∉ N))
theorem blk_ok (D : Def X P w K mg base N sc) (h : BlkB N sc scope own = true) : BlkOk X.N X.env.scope scope own := by
  rw [D.N, D.sc]
  unfold BlkB at h
  simp only [Bool.and_eq_true, List.all_eq_true, decide_eq_true_eq, Bool.or_eq_true, Bool.not_eq_true', decide_eq_false_iff_not] at h
  obtain ⟨⟨⟨⟨h1, h2⟩, h3⟩, h4⟩, h5⟩ := h
  refine ⟨h1, h2, h3, fun y hy e => (h4 y hy).elim (fun z => absurd e z) id, fun y hy e => ?_⟩
  rcases h5 y hy with (z | z) | z
  · exact absurd e z
  · exact .inl z
  · exact .inr z
end
theorem cutL_map {α β : Type} (f : α → β) (xs : List α) (lo hi : Option Int) : cutL (xs.map f) lo hi = (cutL xs lo hi).map f := by
  unfold cutL
  rw [List.length_map, List.map_take, List.map_drop]
theorem cut_dI (xs : List Int) (lo hi : Option Int) : cutL ((dI xs).map R.dat) lo hi = (dI (cutL xs lo hi)).map R.dat := by
  unfold dI
  rw [cutL_map, cutL_map]
theorem cut_len {α : Type} (xs : List α) (lo hi : Option Int) : (cutL xs lo hi).length ≤ xs.length := by
  unfold cutL
  rw [List.length_take, List.length_drop]
  omega
theorem dI_at {xs : List Int} {i : Nat} {d : D} (h : (dI xs)[i]? = some d) : ∃ hi : i < xs.length, d = .int xs[i] := by
  unfold dI at h
  rw [List.getElem?_map] at h
  cases e : xs[i]? with
  | none => rw [e] at h; cases h
  | some v => rw [e] at h; cases h; obtain ⟨hi, e2⟩ := List.getElem?_eq_some_iff.mp e; exact ⟨hi, by rw [e2]⟩
theorem dS_at {xs : List (List Nat)} {i : Nat} {d : D} (h : (dS xs)[i]? = some d) : ∃ hi : i < xs.length, d = .str xs[i] := by
  unfold dS at h
  rw [List.getElem?_map] at h
  cases e : xs[i]? with
  | none => rw [e] at h; cases h
  | some v => rw [e] at h; cases h; obtain ⟨hi, e2⟩ := List.getElem?_eq_some_iff.mp e; exact ⟨hi, by rw [e2]⟩
theorem dI_len (xs : List Int) : (dI xs).length = xs.length := by simp [dI]
theorem dS_len (xs : List (List Nat)) : (dS xs).length = xs.length := by simp [dS]
theorem str_item {s : List Nat} {i : Nat} {d : D} (h : (s.map fun ch => D.str [ch])[i]? = some d) : ∃ hi : i < s.length, d = .str [s[i]] := by
  rw [List.getElem?_map] at h
  cases e : s[i]? with
  | none => rw [e] at h; cases h
  | some ch => rw [e] at h; cases h; obtain ⟨hi, e2⟩ := List.getElem?_eq_some_iff.mp e; exact ⟨hi, by rw [e2]⟩
theorem take_snoc {α : Type} {s : List α} {i : Nat} (hi : i < s.length) : s.take (i + 1) = s.take i ++ [s[i]] := by
  rw [List.take_succ, List.getElem?_eq_getElem hi]; rfl
/-- a turn without tests -/
theorem turn0 {X : Cx} {scope : Scope} {k : Nat} {σ2 : Sl} {m : Mem} {elt : Expr} {yes : R → Mem → Prop} {no : Mem → Prop} (h : ∀ Xe c', IsBlk X scope Xe → Live Xe c' k → DE Xe c' σ2 m elt yes) : Turn1 X scope k σ2 m [] elt yes no :=
  fun _ c' _ _ => ⟨fun _ Xe hX hL => h Xe c' hX hL, fun z => by cases z⟩
/-- a turn with one -/
theorem turn1 {X : Cx} {scope : Scope} {k : Nat} {σ2 : Sl} {m : Mem} {elt t : Expr} {yes : R → Mem → Prop} {no : Mem → Prop} (h : ∀ Xb c', IsBlk X scope Xb → Live Xb c' k → DT Xb c' σ2 m t (fun b m2 => (b = true → ∀ Xe, IsBlk X scope Xe → Live Xe c' k → DE Xe c' σ2 m2 elt yes) ∧ (b = false → no m2))) : Turn1 X scope k σ2 m [t] elt yes no :=
  fun Xb c' hX hL => h Xb c' hX hL
theorem do_none {X : Cx} {c : Ct} {σ : Sl} {m : Mem} {K : Option Int → Mem → Prop} (h : K none m) : DO X c σ m none K := h
theorem do_some {X : Cx} {c : Ct} {σ : Sl} {m : Mem} {e : Expr} {K : Option Int → Mem → Prop} (h : DE X c σ m e (fun r m1 => ∃ i, r = rI i ∧ K (some i) m1)) : DO X c σ m (some e) K := h
section
variable {X : Cx} {c : Ct} {σ : Sl} {m : Mem} {K : R → Mem → Prop} {a b : Expr}
def VB (m : Mem) (r : R) (xs : List Bool) : Prop := VL m r (xs.map rB)
theorem vb_own {p : Addr} {m' : Mem} {xs : List Bool} (h : Has m p (.lst (xs.map rB)) m') : VB m (.own p) xs := .own h
theorem x_B {r : R} {xs : List Bool} {i : Int} (h : VB m r xs) (hi : 0 ≤ i ∧ i < xs.length) (k : K (rB (xs.getD i.toNat false)) m) : IX X c σ m a b r (rI i) K := x_lst h (ati_map hi) k
end
theorem ixN_ok {n : Nat} {i : Int} (h0 : 0 ≤ i) (h1 : i < n) : ixN n i = some i.toNat := by
  unfold ixN
  rw [if_pos h0, if_pos h1]
theorem dns_at {lo cc : Int} {n i : Nat} {d : D} (h : (dns lo cc n)[i]? = some d) : i < n ∧ d = .int (lo + (i : Int) * cc) := by
  unfold dns at h
  rw [List.getElem?_map] at h
  by_cases hi : i < n
  · rw [List.getElem?_range hi] at h; cases h; exact ⟨hi, rfl⟩
  · rw [List.getElem?_eq_none (by simpa using Nat.le_of_not_lt hi)] at h; cases h
theorem dns_len (lo cc : Int) (n : Nat) : (dns lo cc n).length = n := by simp [dns]
end D2
/-! ## D2Sup -/
set_option Elab.async false
set_option linter.all false
set_option maxRecDepth 100000
set_option maxHeartbeats 2000000
/-! super().__init__(..) as the first row of an __init__ of a class over ValueError -/
namespace D2
open PySem PySem.Spec PyProof.Rows L2 NdefX

/-- what the written part tells of such an __init__ of the class at C -/
structure SupD (P : Program) (K : PySem.W.Frag) (x qual : Str) (params : Arguments) (body : List Stmt) (scope : Scope) (C f : Addr) (F : NF) (fd : FuncData) : Prop where
  nf : F.name = x ∧ F.qual = qual ∧ F.params = params ∧ F.body = body ∧ F.scope = scope
  at_ : ∃ oc od osl, K.lookup f = some ⟨oc, od, .func fd, osl⟩
  fd : ∃ doc pm ctv, fd = F.fd doc pm ctv
  cl : ∃ cc cl cld csl, F.cl = [(("__class__" : Str), cc)] ∧ K.lookup cc = some ⟨cl, cld, .cell (some (.ref C)), csl⟩
  code : PySem.W.codeIn K (.ref F.c) qual = true
  file : ∃ ccl cdd vs ccs file tf, K.lookup F.c = some ⟨ccl, cdd, .fields vs, ccs⟩ ∧ vs[2]? = some (.str file tf) ∧ ((P.main.file : Str) == file) = true
  oex : OexC K C
  ini : PySem.W.ks_superIn K C C "__init__" = some (some (.builtin "ValueError.__init__"))
  isV : PySem.W.subIn K (.ref C) (.type "ValueError") = some true
  opq : PySem.W.nsIn K cStatics "thirdparty.any" = some none
  self : PySem.W.mroIn K C (.ref C) = some true
  cls : ∃ cd, PySem.W.clsIn K C = some cd
  kp : PySem.W.keepIn K (.ref f) = true
  top : (P.main.scope.names.lookup ("super" : Str)).isSome = false

section
variable {CX : CXT} {P : Program} {w : World} {K : PySem.W.Frag} {mg : Str → Option Value} {base : Heap} {x qual : Str} {params : Arguments} {body : List Stmt} {scope : Scope} {C f : Addr} {F : NF} {fd : FuncData} {k : Nat} {sp : Sp} {N ps : List Str}
/-- the bound __init__ is called: the object stands as it stood -/
theorem call_mw {X : Cx} {pins : List (Addr × Obj)} {σ : L2.St} {H : Hp} {s : Shared} {A : Around} {E : Value → Shared → Prop} {u a : Addr} {us : List Value} {Q : Value → Shared → Prop} (T : OexC X.K C) (I : Inv X pins σ H s) (e : H a = some (exo a C none)) (hu : s.heap.get? u = some (PySem.W.kxs_mw "ValueError.__init__" a)) (hl : us.length ≤ sizeLine)
    (h : ∀ s', Inv X pins σ H s' → Q .none s') : wpAny (model X.prog X.w) A (call (.ref u) us) Q E s := by
  obtain ⟨nm, q, N, bs, bm, sn, sub, ab, col, dd, k0, k1, k2, k3, k5, hC, hbm⟩ := T.cls
  obtain ⟨t1, ho⟩ := exo_at I.hok e
  have hCh := I.kIn _ _ hC
  obtain ⟨hp, g, d, t, os⟩ := s
  have FB := PySem.F.excBase_ValueError
  refine wpAny_call (codeAny_of_tree ?_)
  show wpAny _ A.in1 (callAny (.ref u) ⟨us, []⟩) _ _ _
  simp only [callAny]
  refine wpAny_bind (wpAny_load hu ?_)
  have e1 : (Value.type "method-wrapper" == Value.type "method" || Value.type "method-wrapper" == Value.type "builtin_function_or_method" || Value.type "method-wrapper" == Value.type "method-wrapper") = true := by decide
  simp only [PySem.W.kxs_mw, e1, if_true]
  refine PySem.W.KFB.if_so (by decide) ?_
  refine wpAny_bind (PySem.W.check_bound_init FB.toExcCallFacts hCh ho rfl ?_)
  refine wpAny_bind (wpAny_pure (wpAny_pure ?_))
  refine ⟨plainId_quiet FB.init.plain _, codeAny_builtin FB.initEntry ?_⟩
  refine PySem.W.exc_init_tree (cls := .ref C) (t0 := t1) (dv := none) (c2 := .none) (c3 := .none) (b4 := .bool false) ho hl fun h' k hx _ => ?_
  have J := I.write (t' := t) (x := a) (e := a) (o := exo a C none) (by rw [e]; exact True.intro) (.inl rfl) k ⟨_, hx⟩ (exo_ok hx)
  have eu : upd H a (exo a C none) = H := funext fun b => by
    by_cases hb : b = a
    · rw [hb, upd_same, e]
    · exact upd_ne hb
  rw [eu] at J
  exact h _ J
abbrev s0F (N : List Str) (vs : List V) (C : Addr) : L2.St := startF N vs [some (.ref C)]
theorem fn_sup {pl : Env → Sem Bool} {e : Expr} {es : List Expr} {rest : List Stmt} {y : Str} {ps' : List Str} {ar : Arg} {p0 p1 p2 p3 p4 : Pos} (D : SupD P K x qual params body scope C f F fd) (S : NScope N (y :: ps') ["__class__"] scope) (hy : (params.posonlyargs ++ params.args).head? = some ar) (hy2 : ar.arg = y)
    (hsu : scope.names.lookup ("super" : Str) = some .globalImplicit) (hm : mg "super" = none) (hbd : body = .Expr (.Call (.Attribute (.Call (.Name "super" p0) [] [] p1) "__init__" p2) (e :: es) [] p3) p4 :: rest)
    (hev : ∀ env : Env, eval (.Call (.Attribute (.Call (.Name "super" p0) [] [] p1) "__init__" p2) (e :: es) [] p3) env = (do
      let ov ← attributeBase (.Call (.Name "super" p0) [] [] p1) "__init__" env (eval (.Call (.Name "super" p0) [] [] p1) env)
      standAt p2.atName
      let (f, first) ← holding [ov] (getMethod ov "__init__" (pl env))
      callWith p3 f first (backTo p3 (starEach (e :: es) env)) []))
    (len : ∀ vs H Q E, sp vs H Q E → vs.length = (y :: ps').length)
    (hst : ∀ env : Env, starEach (e :: es) env = (false, eval e env) :: starEach es env) (hpl : ∀ (env : Env) (p : Pos), (backTo p (starEach es env)).any (·.1) = false)
    (hbody : ∀ (A : Around) (outer : List Env) (s : Shared) (H : Hp) (vs : List V) (Q : VK) (E : XK), Room k (A.deeper (envF F f s.heap.objs.size)) → sp vs H Q E →
      ∃ a vs' ta tr, vs = .ref a :: vs' ∧ H a = some (exo a C none) ∧ PA (ncx CX P w K mg base N F f A outer s H E) (e :: es) ta ∧ PSs (ncx CX P w K mg base N F f A outer s H E) rest tr ∧
        ta (s0F N vs C) H fun ws H1 => ws.length ≤ 1000 ∧ H1 a = some (exo a C none) ∧ tr { nx := fun _ H' => Q .non H', rt := Q } (s0F N vs C) H1) :
    FnOk P w K mg base CX (k + 1) f fd (y :: ps') sp := by
  refine ⟨len, fun A outer s H args us vs Q E hr e0 hb r hsp => ?_⟩
  have hl := len _ _ _ _ hsp
  obtain ⟨doc, pm, ctv, rfl⟩ := D.fd
  obtain ⟨oc, od, osl, lk⟩ := D.at_
  obtain ⟨n1, n2, n3, n4, n5⟩ := D.nf
  obtain ⟨cc, cl, cld, csl, hcl, hcell⟩ := D.cl
  have KX : K.In s.heap := e0.mod.kin.keeps fun b o z => (e0.bs b o z).1
  have lim : s.heap.NoLimit := e0.mod.nolimit.keeps fun b o z => (e0.bs b o z).1
  have hcd := D.code
  rw [← n2] at hcd
  have S' : NScope N (y :: ps') ["__class__"] F.scope := by rw [n5]; exact S
  refine codeAny_call_function hr.depth (KX _ _ lk) rfl S'.co S'.gen rfl (PySem.W.codeRec_of KX hcd) (hb _ _ _ _ ?_)
  refine wpAny_newFunctionEnv S'.nocell (fun ⟨n, _⟩ hn => S'.par n (List.of_mem_zip hn).1) (fun h₁ hns hsb => ⟨lim.fresh _ hsb, ?_⟩) S'.kind
  show codeAny _ _ (.func F.body (envF F f s.heap.objs.size)) _ _
  refine ks_codeAny_funcAt ?_
  have kp : ∀ b o, s.heap.get? b = some o → h₁.get? b = some o := fun b o z => hsb.extBut b o (Nat.ne_of_lt (Heap.lt_size z)) (Heap.get?_push_of_some _ z)
  have cellS : s.heap.IsCell cc (some (.ref C)) := ⟨_, KX _ _ hcell, rfl⟩
  have bcc := (e0.bs cc _ (e0.mod.kin _ _ hcell)).2
  have CA : CellsAt F.cl ["__class__"] [some (.ref C)] s.heap H := by
    rw [hcl]
    have one : ∀ {z : Str} {c : Addr}, List.lookup z [(("__class__" : Str), cc)] = some c → z = "__class__" ∧ c = cc := fun {z c} q => by
      rw [List.lookup_cons] at q
      cases hz : (z == ("__class__" : Str)) with
      | true => rw [hz] at q; exact ⟨beq_iff_eq.mp hz, (Option.some.inj q).symm⟩
      | false => rw [hz] at q; cases q
    refine ⟨rfl, fun z c q => ?_, fun a b c qa qb => ?_, fun i z hi => ?_⟩
    · obtain ⟨_, rfl⟩ := one q
      exact ⟨bcc, _, cellS⟩
    · rw [(one qa).1, (one qb).1]
    · match i, hi with
      | 0, hi =>
        cases hi
        refine ⟨cc, rfl, fun v hv => ?_⟩
        cases hv
        exact ⟨_, rfl, cellS⟩
  obtain ⟨a, vs', ta, tr, rfl, ea, hta, htr, q⟩ := hbody A outer s H vs Q E (hr.deeper _) hsp
  have I : Inv (ncx CX P w K mg base N F f A outer s H E) [] (s0F N (.ref a :: vs') C) H { s with heap := h₁, toks := s.toks + ((y :: ps').zip us).length } := inv_startN S' hr.hd e0 hl r CA hns kp
  have ndP : (y :: ps').Nodup := by
    have q := S'.nd.sublist (List.take_sublist ((y :: ps').length + [("__class__" : Str)].length) N)
    rw [S'.pre] at q
    exact (List.nodup_append.mp q).1
  obtain ⟨mb, hmb, hbt⟩ := e0.mod.blt
  have bs1 : ∀ b o, base.get? b = some o → h₁.get? b = some o := fun b o z => kp b o (e0.bs b o z).1
  have K1 : K.In h₁ := fun b o z => kp b o (KX b o z)
  cases r with
  | @cons _ u0 _ us' r0 rr =>
  obtain rfl : u0 = Value.ref a := r0
  have hself : ((y :: ps').zip (Value.ref a :: us')).reverse.lookup y = some (Value.ref a) := zip_look (i := 0) ndP rfl rfl
  obtain ⟨t1, ho⟩ := exo_at I.hok ea
  obtain ⟨cd, hcls⟩ := D.cls
  have IA : PySem.W.InstAt h₁ a _ C none := ⟨ho, rfl, rfl, trivial⟩
  obtain ⟨oD, hD1, hD2⟩ : ∃ oD, h₁.get? C = some oD ∧ oD.data = .cls cd := by
    have z := hcls
    unfold PySem.W.clsIn at z
    split at z
    · rename_i c0 d0 cd0 sl0 hk0
      cases z
      exact ⟨_, K1 _ _ hk0, rfl⟩
    · cases z
  obtain ⟨ccl, cdd, vs2, ccs, file, tf, hk2, hv2, hfile⟩ := D.file
  have hks : (envF F f s.heap.objs.size).kindOf ("super" : Str) = some .globalImplicit := by show F.scope.names.lookup _ = _; rw [n5]; exact hsu
  have hkc : (envF F f s.heap.objs.size).kindOf ("__class__" : Str) = some .free := S'.frk _ (List.mem_singleton.mpr rfl)
  have hka : (envF F f s.heap.objs.size).kindOf ar.arg = some .local := by rw [hy2]; exact S'.par y List.mem_cons_self
  rw [n4, hbd]
  refine ks_wpAt_execs_cons (ks_wpAt_Expr_any (ks_wpAt_MethodCall (ks_wpAt_super_base hks hkc (by decide) rfl (K1 _ _ lk) rfl (by rw [← n3] at hy; exact hy) rfl (K1 _ _ hk2) rfl hv2 hfile D.top ?_) (he := hev _)) (hi := I.quiet))
  refine PySem.W.ks_loadName_global S'.kind hks (PySem.Calls.loadGlobal_builtin (env := envF F f s.heap.objs.size) (e0.mod.glob.keeps bs1) hm (hmb.keeps bs1) ((hbt _ (by decide)).trans (by decide +kernel : bootBuiltins ("super" : Str) = some (.type "super"))) ⟨rfl, ?_⟩)
  refine wpAny_loadName_free S'.kind hkc (c := cc) (v := .ref C) (by show F.cl.lookup _ = _; rw [hcl]; rfl) ⟨_, K1 _ _ hcell, rfl⟩ ?_
  refine wpAny_loadName_local S'.kind hka (m := fun z => ((y :: ps').zip (Value.ref a :: us')).reverse.lookup z) (v := .ref a) hns (by rw [hy2]; exact hself) ?_
  refine ks_wpAny_isType_cls hD1 hD2 ⟨rfl, ?_⟩
  refine ks_wpAny_call_super hD1 hD2 ho rfl (fun c z => by cases z) (PySem.W.looks_mroIn K1 D.self) fun h2 e2 k2 => ?_
  have K2 : K.In h2 := fun b o z => k2 b o (K1 b o z)
  have hini := D.ini
  unfold PySem.W.ks_superIn at hini
  rw [hcls, Option.bind_some] at hini
  have IA2 : PySem.W.InstAt h2 a _ C none := ⟨k2 _ _ ho, rfl, rfl, trivial⟩
  have I2 := I.kept (t' := s.toks + ((y :: ps').zip (Value.ref a :: us')).length) k2
  refine PySem.W.kxs_getMethod PySem.W.kxs_ValueError e2 (PySem.W.looks_opaque K2 D.opq) (l₀ := cd.mro) (fun A Q E s k q => wpAny_bind ((PySem.W.looks_clsIn K2 hcls) A _ E s k (wpAny_pure q))) rfl K2 hini (IA2.type.andThen (PySem.W.looks_subIn K2 D.isV)) (PySem.W.ks_ne K2 IA2 hcls) (by decide) ?_
  -- the wrapper stands, pinned
  have k3 : ∀ b o, h2.get? b = some o → (h2.push (PySem.W.kxs_mw "ValueError.__init__" a)).get? b = some o := fun b o z => Heap.get?_push_of_some _ z
  have I3 := I2.kept (t' := s.toks + ((y :: ps').zip (Value.ref a :: us')).length + 1) k3
  have hu : (h2.push (PySem.W.kxs_mw "ValueError.__init__" a)).get? h2.objs.size = some (PySem.W.kxs_mw "ValueError.__init__" a) := Heap.get?_push_size _ rfl
  have hn : H h2.objs.size = none := I2.hok.fresh (Nat.le_refl _)
  have fp := I2.fpOk (H' := H) (b := h2.objs.size) (Nat.le_refl _) hn
  have I4 : Inv (ncx CX P w K mg base N F f A outer s H E) [(h2.objs.size, PySem.W.kxs_mw "ValueError.__init__" a)] (s0F N (.ref a :: vs') C) H _ := I3.pins_of fun p hp => by
    rw [List.mem_singleton.mp hp]
    exact ⟨hu, hn, fp.2.1, fp.2.2.1, fun v z => by cases z⟩
  show wpAny _ _ (callWith _ (.ref h2.objs.size) [] (backTo p3 (starEach (e :: es) (envF F f s.heap.objs.size))) []) _ _ _
  rw [hst]
  refine PySem.W.kxs_callWith (i := "ValueError.__init__") (x := a) (by show (false || (backTo p3 (starEach es (envF F f s.heap.objs.size))).any (·.1)) = false; rw [hpl]; rfl) ?_
  have hta2 := hta.run p3 _ _ _ _ _ I4 q
  rw [show (ncx CX P w K mg base N F f A outer s H E).env = envF F f s.heap.objs.size from rfl, hst] at hta2
  refine PySem.Calls.evalArgs_plain (thn hta2 fun us1 s4 hs4 => ?_)
  obtain ⟨ws, H4, I5, rw', hwl, ea4, q4⟩ := hs4
  refine ⟨(I5.pin _ (List.mem_append_right _ (List.mem_singleton.mpr rfl))).1, ?_⟩
  refine call_mw D.oex I5 ea4 (I5.pin _ (List.mem_append_right _ (List.mem_singleton.mpr rfl))).1 (by have z := Paired.length rw'; rw [sizeLine_eq]; show us1.length ≤ _; omega) fun s5 J => ?_
  refine wpAt_of_wpAny ?_
  have J0 : Inv (ncx CX P w K mg base N F f A outer s H E) [] (s0F N (.ref a :: vs') C) H4 s5 := J.pins_of fun p hp => by cases hp
  refine wpAny_mono (htr.run [] s5 _ H4 _ J0 q4) (fun fl s' hs => ?_) fun e s' hs => hs
  have fin : ∀ {σ' : L2.St} {H' : Hp} {v : V} {u : Value}, Inv (ncx CX P w K mg base N F f A outer s H E) [] σ' H' s' → L2.RelV v u → Q v H' → CE outer P w H s Q u s' :=
    fun {σ' H' v u} J rv q => ⟨v, H', J.os, J.bare, J.base, J.hok, rv, q⟩
  cases fl with
  | ret u =>
    obtain ⟨v, σ', H', J, rv, q⟩ := hs
    exact fin J rv q
  | next =>
    obtain ⟨σ', H', J, q⟩ := hs
    exact fin (v := V.non) (u := Value.none) J rfl q
  | brk =>
    obtain ⟨_, _, _, q⟩ := hs
    exact False.elim q
  | cont =>
    obtain ⟨_, _, _, q⟩ := hs
    exact False.elim q
end
end D2
/-! ## D2Exc -/
set_option Elab.async false
set_option linter.all false
set_option maxRecDepth 100000
set_option maxHeartbeats 2000000
/-! own exceptions made and raised, over data -/
namespace D2
open PySem PySem.Spec PyProof.Rows L2

/-- the fields by the arguments' places -/
def flV (fl : List (Str × Nat)) (vs : List V) : List (Str × V) := fl.map fun p => (p.1, vs.getD p.2 .non)
def flD (fl : List (Str × Nat)) (ds : List D) : List (Str × D) := fl.map fun p => (p.1, ds.getD p.2 .non)
theorem reps_getD {K : PySem.W.Frag} {G : Hp} : ∀ {ds : List D} {vs : List V} (i : Nat), Reps K G ds vs → Rep K G (ds.getD i .non) (vs.getD i .non)
  | _, _, _, .nil => by simp only [List.getD_nil]; exact .non
  | _, _, 0, .cons h _ => h
  | _, _, i + 1, .cons _ t => by simpa using reps_getD i t
theorem repf_fl {K : PySem.W.Frag} {G : Hp} {ds : List D} {vs : List V} (h : Reps K G ds vs) : ∀ fl : List (Str × Nat), RepF K G (flD fl ds) (flV fl vs)
  | [] => .nil
  | p :: fl => .cons (reps_getD p.2 h) (repf_fl h fl)
/-- what an own class's __init__ promises: n arguments, the fields fl -/
def IniSp (C : Addr) (n : Nat) (fl : List (Str × Nat)) (A : List V → Prop) : Sp := fun vs H Q _ => ∃ a ws, vs = .ref a :: ws ∧ ws.length = n ∧ A ws ∧ H a = some (exo a C none) ∧
  ∀ dx, H dx = none → dx ≠ a → Q .non (upd (upd H dx (exd dx (flV fl ws))) a (exo a C (some dx)))
/-- an own class over ValueError, called x, with its own __init__ -/
structure MkC (P : Program) (w : World) (K : PySem.W.Frag) (mg : Str → Option Value) (base : Heap) (x : Str) (C : Addr) (k n : Nat) (fl : List (Str × Nat)) (A : List V → Prop) : Prop where
  gl : mg x = some (.ref C)
  oex : OexC K C
  ini : ∃ fI fd ps, PySem.W.findIn K (.ref C) "__init__" = some (some (.ref fI)) ∧ PySem.W.typeIn K (.ref fI) = some (.type "function") ∧ FnOk P w K mg base (L2N.CX P w) k fI fd ps (IniSp C n fl A) ∧ Binds K fd ps []
section
variable {X : Cx} {c : Ct} {σ : Sl} {m : Mem} {x : Str} {C : Addr} {k j n : Nat} {fl : List (Str × Nat)} {A : List V → Prop} {e : Expr} {es : List Expr} {p pos pos2 : Pos} {en : En}
/-- x(..) makes the exception; its context is None -/
theorem mk_n (M : MkC X.prog X.w X.K X.mg X.base x C j n fl A) (hr : Room (j + 1) X.A) (hx : Passes (L2N.CX X.prog X.w) X (fun _ _ _ => False)) (hg : Gl X x) (ta : TA) (ha : PA X (e :: es) ta) (hn : n ≤ 1000)
    (hdb : (x == ("__debug__" : Str)) = false) (he : starEach (e :: es) X.env = (false, eval e X.env) :: starEach es X.env) (hpl : (backTo pos (starEach es X.env)).any (·.1) = false) :
    L2N.PMk X (.Call (.Name x p) (e :: es) [] pos) (fun τ H Q => ta τ H fun vs H1 => vs.length = n ∧ A vs ∧ ∀ dx, H1 dx = none → Q (.ref C) (some dx) (upd H1 dx (.xd (flV fl vs)))) := by
  intro pins s τ H Q I h
  obtain ⟨fI, fd, ps, iC, tI, F1, hb⟩ := M.ini
  have T := M.oex
  obtain ⟨nm, q, N, bs, bm, sn, sub, ab, col, dd, k0, k1, k2, k3, k5, hC, hbm⟩ := T.cls
  refine wpAny_Call_Name_kw (ld_glob I hg M.gl ?_ hdb)
  refine PySem.W.callWith_K (h₀ := X.base) I.ok.mod.kin T.kC (thn (ha.run pos pins s τ H _ I h) fun us s1 h1 => ?_) he hpl
  obtain ⟨vs, H1, I1, r1, hl, hA, q1⟩ := h1
  refine ⟨I1.kIn, ?_⟩
  show wpAny _ _ (call (.ref C) us) _ _ _
  obtain ⟨hp, g, dr, tk, os⟩ := s1
  have up1 : hp.objs.size ≤ hp.objs.size + 1 := Nat.le_succ _
  have na : H1 (hp.objs.size + 1) = none := I1.hok.fresh up1
  have grow : ∀ b o, hp.get? b = some o → ((hp.push (PySem.W.kdv_tup us)).push (PySem.HandSPX.excO C hp.objs.size)).get? b = some o := fun b o z => Heap.get?_push_of_some _ (Heap.get?_push_of_some _ z)
  have there : ((hp.push (PySem.W.kdv_tup us)).push (PySem.HandSPX.excO C hp.objs.size)).get? (hp.objs.size + 1) = some (PySem.HandSPX.excO C hp.objs.size) := by heap_get
  have I2 := I1.laid (t' := tk) (a := hp.objs.size + 1) (o := exo (hp.objs.size + 1) C none) grow up1 (exo_ok there)
  have rr : Vals (V.ref (hp.objs.size + 1) :: vs) (Value.ref (hp.objs.size + 1) :: us) := .cons rfl r1
  have usl : us.length = n := by rw [← Paired.length r1]; exact hl
  -- the promise at work
  have sp1 : IniSp C n fl A (.ref (hp.objs.size + 1) :: vs) (upd H1 (hp.objs.size + 1) (exo (hp.objs.size + 1) C none))
      (fun v H2 => v = .non ∧ ∃ d, H1 d = none ∧ d ≠ hp.objs.size + 1 ∧ H2 = upd (upd (upd H1 (hp.objs.size + 1) (exo (hp.objs.size + 1) C none)) d (exd d (flV fl vs))) (hp.objs.size + 1) (exo (hp.objs.size + 1) C (some d))) (fun _ _ _ => False) :=
    ⟨_, vs, rfl, hl, hA, upd_same, fun dx hd hne => ⟨rfl, dx, by rwa [upd_ne hne] at hd, hne, rfl⟩⟩
  have lens : (Value.ref (hp.objs.size + 1) :: us).length = ps.length := by
    rw [← F1.len _ _ _ _ sp1]
    show us.length + 1 = vs.length + 1
    rw [usl, hl]
  have b1 := hb ⟨(hp.push (PySem.W.kdv_tup us)).push (PySem.HandSPX.excO C hp.objs.size), g, dr, tk, os⟩ (Value.ref (hp.objs.size + 1) :: us) I2.kIn (by rw [List.append_nil]; exact lens)
  rw [List.append_nil] at b1
  refine wpAny_call (PySem.HandSPX.call_own PySem.F.excBase_ValueError (fun Y => PySem.HandSPX.refsVE_contains Y bm hbm) (I1.kIn _ _ hC) (PySem.W.looks_findIn I1.kIn iC) (fun self => PySem.W.bind_fn I1.kIn self tI) (by rw [sizeLine_eq]; omega)
    (codeAny_mono (F1.run _ X.stack _ _ _ _ _ _ _ (hr.make C us []) (I2.env0.make C us []) b1 rr sp1) fun r s' hq => ?_))
  cases r with
  | error er => exact hx pins τ _ _ er s' I2 hq
  | ok fw =>
    cases fw with
    | ret u =>
      obtain ⟨v, H2, os2, bare2, un2, hok2, rv, ev, d, hd, hda, eH⟩ := hq
      subst ev
      obtain ⟨h2, g2, d2, t2, os'⟩ := s'
      have ea : H2 (hp.objs.size + 1) = some (exo (hp.objs.size + 1) C (some d)) := by rw [eH]; exact upd_same
      have ed : H2 d = some (exd d (flV fl vs)) := by rw [eH, upd_ne hda]; exact upd_same
      obtain ⟨t0, G, J, kG, ge, hoe, nn⟩ := mk_end0 (d2 := d2) (t2 := t2) I1 up1 grow un2 hok2 os2 bare2 ea ed hd
      have eq : upd (L2.del H2 (hp.objs.size + 1)) d (.xd (flV fl vs)) = upd H1 d (.xd (flV fl vs)) := by
        funext b
        by_cases hbd : b = d
        · rw [hbd, upd_same, upd_same]
        · rw [upd_ne hbd, upd_ne hbd]
          by_cases hba : b = hp.objs.size + 1
          · rw [hba, del_same, na]
          · rw [del_ne hba, eH, upd_ne hba, upd_ne hbd, upd_ne hba]
      refine ⟨rv, ?_⟩
      rw [eq] at J nn
      exact ⟨hp.objs.size + 1, _, _, ⟨G, g2, d2, t2, os'⟩, _, .ref C, some d, rfl, J, kG, ge, hoe, ⟨rfl, rfl, fun vs z => by cases z; rfl⟩, rfl, rfl, nn, rfl, bare2, raises_own T.exC T.tyC, q1 d hd⟩
    | next => exact False.elim hq
    | brk => exact False.elim hq
    | cont => exact False.elim hq
/-- raise x(..) -/
theorem ds_raise (M : MkC X.prog X.w X.K X.mg X.base x C j n fl A) (L : Live X c k) (hg : Gl X x) (h : DA X c σ m (e :: es) (fun rs m1 => ∃ ds m2, Frzs m1 rs ds m2 ∧ ds.length = n ∧ (∀ K G vs, Reps K G ds vs → A vs) ∧ c.ex σ m2 C (flD fl ds))) (hjk : j + 1 ≤ k := by decide) (hn : n ≤ 1000 := by decide)
    (hdb : (x == ("__debug__" : Str)) = false := by decide) (he : starEach (e :: es) X.env = (false, eval e X.env) :: starEach es X.env := by rfl) (hpl : (backTo pos (starEach es X.env)).any (·.1) = false := by rfl) :
    DS X c σ m (.Raise (some (.Call (.Name x p) (e :: es) [] pos)) none pos2) en := fun F pins s τ H G D I E fx ft => by
  refine (L2N.ps_raise L.calm L.tk (mk_n M (L.room.mono hjk) (L2N.passes_call L.tk fun _ _ _ _ z => z.elim) hg (tA X c (e :: es)) pa_t hn hdb he hpl)).run pins s τ H D I ?_
  refine ⟨σ, m, G, _, E, h, fun rs m1 G1 H1 vs ⟨ds, m2, f, hl, hA, z⟩ x1 E1 rv => ?_⟩
  obtain ⟨G2, x2, E2, r2⟩ := f.env E1 rv
  refine ⟨by rw [← r2.length]; exact hl, hA _ _ _ r2, fun dx hdx => ?_⟩
  have g2 : G2 dx = none := E2.sub.back hdx
  exact ⟨σ, m2, upd G2 dx (.xd (flV fl vs)), C, flD fl ds, rfl, z, E2.newG hdx, .inr ⟨dx, _, rfl, upd_same, repf_fl (Reps.mono (Ex.new g2) r2) fl⟩⟩
end

/-! ### such a promise, by the __init__ of one field -/
section
open NdefX
variable {P : Program} {w : World} {K : PySem.W.Frag} {mg : Str → Option Value} {base : Heap} {x qual : Str} {params : Arguments} {body : List Stmt} {scope : Scope} {C f : Addr} {F : NF} {fd : FuncData} {y fn : Str} {A : List V → Prop}
theorem ini1 {pl : Env → Sem Bool} {e : Expr} {ar : Arg} {p0 p1 p2 p3 p4 q1 q2 q3 q4 : Pos} (D : SupD P K x qual params body scope C f F fd) (S : NScope ["self", y, "__class__"] ["self", y] ["__class__"] scope) (hy : (params.posonlyargs ++ params.args).head? = some ar) (hy2 : ar.arg = "self")
    (hsu : scope.names.lookup ("super" : Str) = some .globalImplicit) (hm : mg "super" = none)
    (hbd : body = [.Expr (.Call (.Attribute (.Call (.Name "super" p0) [] [] p1) "__init__" p2) [e] [] p3) p4, .Assign [.Attribute (.Name "self" q1) fn q2] (.Name y q3) q4])
    (hno : PySem.W.findIn K (.ref C) fn = some none)
    (hev : ∀ env : Env, eval (.Call (.Attribute (.Call (.Name "super" p0) [] [] p1) "__init__" p2) [e] [] p3) env = (do
      let ov ← attributeBase (.Call (.Name "super" p0) [] [] p1) "__init__" env (eval (.Call (.Name "super" p0) [] [] p1) env)
      standAt p2.atName
      let (f, first) ← holding [ov] (getMethod ov "__init__" (pl env))
      callWith p3 f first (backTo p3 (starEach [e] env)) []))
    (hst : ∀ env : Env, starEach [e] env = (false, eval e env) :: starEach [] env) (hsw : ∀ env : Env, swapsWith (.Name y q3) (some (.Attribute (.Name "self" q1) fn q2)) q4.line env = pure false)
    (hyd : (y == ("__debug__" : Str)) = false ∧ (y == ("__classdict__" : Str)) = false)
    (harg : ∀ (A0 : Around) (outer : List Env) (s : Shared) (H : Hp) (Q : VK) (E : XK) (a : Addr) (v : V), Room 0 (A0.deeper (envF F f s.heap.objs.size)) → A [v] → ∃ te, PE (ncx (L2N.CX P w) P w K mg base ["self", y, "__class__"] F f A0 outer s H E) e te ∧ ∀ Q' : VK, (∀ u, Q' u H) → te (s0F ["self", y, "__class__"] [.ref a, v] C) H Q') :
    FnOk P w K mg base (L2N.CX P w) 1 f fd ["self", y] (IniSp C 1 [(fn, 0)] A) := by
  refine fn_sup (k := 0) D S hy hy2 hsu hm hbd hev (fun vs H Q E ⟨a, ws, ev, hl, _⟩ => by rw [ev]; show ws.length + 1 = 2; rw [hl]) hst (fun env p => rfl) fun A0 outer s H vs Q E hr ⟨a, ws, ev, hl, hA, ea, q⟩ => ?_
  match ws, hl with
  | [v], _ =>
  subst ev
  obtain ⟨te, hte, ht⟩ := harg A0 outer s H Q E a v hr hA
  have hk : (envF F f s.heap.objs.size).scope = scope := D.nf.2.2.2.2
  have v0 : Vis (ncx (L2N.CX P w) P w K mg base ["self", y, "__class__"] F f A0 outer s H E).env.scope "self" := .inl (by show F.scope.names.lookup _ = _; rw [D.nf.2.2.2.2]; exact S.par _ List.mem_cons_self)
  have v1 : Vis (ncx (L2N.CX P w) P w K mg base ["self", y, "__class__"] F f A0 outer s H E).env.scope y := .inl (by show F.scope.names.lookup _ = _; rw [D.nf.2.2.2.2]; exact S.par _ (List.mem_cons_of_mem _ List.mem_cons_self))
  refine ⟨a, [v], _, _, rfl, ea, pa_cons hte pa_nil (hst _), pss_one (ps_ost (pe_var (i := 0) rfl v0 (by decide) (by decide)) (pe_var (i := 1) rfl v1 hyd.1 hyd.2) (hsw _)), ?_⟩
  refine ht _ fun u => ?_
  refine ⟨by show 1 ≤ 1000; decide, ea, v, rfl, .ref a, rfl, a, C, rfl, D.oex, hno, .inl ⟨ea, fun dx hd hne => q dx hd hne⟩⟩
end
end D2
/-! ## D2Hot -/
set_option Elab.async false
set_option linter.all false
set_option maxRecDepth 100000
set_option maxHeartbeats 2000000
/-! defs called within an except suite, over data; the promise may speak of the exception that is handled -/
namespace D2
open PySem PySem.Spec PyProof.Rows L2

/-- a promise that hangs on the handled exception -/
structure FnX (P : Program) (w : World) (K : PySem.W.Frag) (mg : Str → Option Value) (base : Heap) (CX : CXT) (k : Nat) (f : Addr) (fd : FuncData) (ps : List Str) (sp : Addr × Obj → Sp) : Prop where
  len : ∀ p vs H Q E, sp p vs H Q E → vs.length = ps.length
  run : ∀ (p : Addr × Obj) (A : Around) (outer : List Env) (s : Shared) (H : Hp) (args : Args) (us : List Value) (vs : List V) (Q : VK) (E : XK), L2H.RoomH k A → L2H.Hot1 A p → L2H.PinOk outer H s p → Env0 P w K mg base A outer s H → BindsTo s fd args (ps.zip us) → Vals vs us → sp p vs H Q E →
    codeAny (model P w) A (.call (.ref f) args) (CR CX outer P w H s Q E) s
section
variable {CX : CXT} {P : Program} {w : World} {K : PySem.W.Frag} {mg : Str → Option Value} {base : Heap} {k j : Nat} {f : Addr} {fd : FuncData} {x qual : Str} {params : Arguments} {body : List Stmt} {scope : Scope} {N ps : List Str} {sp : Addr × Obj → Sp} {dvs : List V} {kws : List (Str × V)}
theorem FnX.mono (F : FnX P w K mg base CX j f fd ps sp) (h : j ≤ k) : FnX P w K mg base CX k f fd ps sp := ⟨F.len, fun p A outer s H args us vs Q E hr => F.run p A outer s H args us vs Q E (hr.mono h)⟩
theorem fnx_of (F : FunD K x qual params body scope dvs kws f fd) (S : FnScope N ps scope) (len : ∀ p vs H Q E, sp p vs H Q E → vs.length = ps.length)
    (hbody : ∀ (p : Addr × Obj) (cdv : Value) (A : Around) (outer : List Env) (s : Shared) (H : Hp) (vs : List V) (Q : VK) (E : XK), L2H.Hot1 A p → L2H.RoomH k (A.deeper (envOfC qual scope s.heap.objs.size f cdv)) → sp p vs H Q E →
      ∃ t, PSs (L2H.cxH CX P w K mg base N qual scope f cdv A outer s H E p) body t ∧ t { nx := fun _ H' => Q .non H', rt := Q } (L2.start N vs) H) : FnX P w K mg base CX (k + 1) f fd ps sp := by
  obtain ⟨oc, od, dV, kV, doc, pm, an, cdv, ct, osl, rfl, lk, hcd, _, _⟩ := F.ex
  refine ⟨len, fun p A outer s H args us vs Q E hr hot hpin e0 hb r hsp => ?_⟩
  have hl := len _ _ _ _ _ hsp
  have KX : K.In s.heap := e0.mod.kin.keeps fun b o z => (e0.bs b o z).1
  have lim : s.heap.NoLimit := e0.mod.nolimit.keeps fun b o z => (e0.bs b o z).1
  have kinds : ∀ z ∈ ps.zip us, scope.names.lookup z.1 = some .local ∨ (scope.names.lookup z.1 = some .cell ∧ ((cellsFrom (s.heap.objs.size + 1) scope.names []).lookup z.1).isSome = true) := by
    intro z hz
    rcases S.par z.1 (List.of_mem_zip hz).1 with q | q
    · exact .inl q
    · exact .inr ⟨q, PySem.W.cellsFrom_some _ _ _ (.inl q)⟩
  refine codeAny_call_function hr.depth (KX _ _ lk) rfl S.co S.gen rfl (PySem.W.codeRec_of KX hcd) (hb _ _ _ _ ?_)
  refine wpAny_newFunctionEnv_cells S.kind kinds fun env he s1 z => ?_
  subst he
  refine ⟨lim.keeps z.toInCall.keep, codeAny_func ?_⟩
  obtain ⟨t, ht, hq⟩ := hbody p cdv A outer s H vs Q E hot (hr.deeper _) hsp
  refine wpAny_mono (ht.run [] s1 (L2.start N vs) H _ (L2H.inv_startH S hpin e0 hl r z) hq) (fun fl s' hs => ?_) fun e s' hs => hs
  have fin : ∀ {σ' : L2.St} {H' : Hp} {v : V} {u : Value}, Inv (L2H.cxH CX P w K mg base N qual scope f cdv A outer s H E p) [] σ' H' s' → L2.RelV v u → Q v H' → CE outer P w H s Q u s' :=
    fun {σ' H' v u} J rv q => ⟨v, H', J.os, J.bare, J.base, J.hok, rv, q⟩
  match fl, hs with
  | .ret u, ⟨v, σ', H', J, rv, q⟩ => exact fin J rv q
  | .next, ⟨σ', H', J, q⟩ => exact fin (v := V.non) (u := Value.none) J rfl q
  | .brk, ⟨_, _, _, q⟩ => exact False.elim q
  | .cont, ⟨_, _, _, q⟩ => exact False.elim q
end

/-! ### over data -/
/-- the handled exception, the frozen part, then as Sp2 -/
abbrev SpX := (Addr × Obj) → Hp → Sp2
def spOfX (K : PySem.W.Frag) (S : SpX) (p : Addr × Obj) : Sp := fun vs H Q E => ∃ rs m G Kr Ke, S p G rs m Kr Ke ∧ Ex G H ∧ (m.map (·.1)).Nodup ∧ MemOk K m G H ∧ RelRs K G rs vs ∧
  (∀ r m' G' H' v, Kr r m' → OutOk K m m' G H G' H' → RelR K G' r v → Q v H') ∧
  (∀ C fs m' G' H' d, Ke C fs m' → OutOk K m m' G H G' H' → ExcD K G' fs d → E (.ref C) d H')
def CalleeX (P : Program) (w : World) (K : PySem.W.Frag) (mg : Str → Option Value) (base : Heap) (x : Str) (k : Nat) (S : SpX) : Prop :=
  ∃ f fd ps, mg x = some (.ref f) ∧ PySem.W.keepIn K (.ref f) = true ∧ Binds K fd ps [] ∧ FnX P w K mg base (L2N.CX P w) k f fd ps (spOfX K S)
/-- a context within a suite -/
structure LiveH (X : Cx) (c : Ct) (k : Nat) (p : Addr × Obj) : Prop where
  own : PassesOwn (model X.prog X.w) X.A X.env X.xe
  tk : Tk X c
  hot : L2H.Hot1 X.A p
  pin : p ∈ X.pn
  room : L2H.RoomH k X.A
section
variable {X : Cx} {c : Ct} {σ : Sl} {m : Mem} {x : Str} {S : SpX} {k j : Nat} {e : Expr} {es : List Expr} {K : R → Mem → Prop} {q pos : Pos} {p : Addr × Obj}
theorem run_x {CX : CXT} {f : Addr} {fd : FuncData} {ps : List Str} {sp : Addr × Obj → Sp} {E : L2.St → XK} {pins : List (Addr × Obj)} {τ : L2.St} {H : Hp} {s : Shared} {Q : VK} {us : List Value} {vs : List V} (F : FnX X.prog X.w X.K X.mg X.base CX k f fd ps sp) (L : LiveH X c k p) (hb : Binds X.K fd ps []) (hx : PassesAt CX X τ (E τ))
    (I : Inv X pins τ H s) (r : Vals vs us) (h : sp p vs H Q (E τ)) : wpAny (model X.prog X.w) X.A (call (.ref f) us) (EP X pins τ Q) X.xe s := by
  have hl : us.length = ps.length := by rw [← r.length]; exact F.len _ _ _ _ _ h
  have b := hb s us I.kIn (by rw [List.append_nil]; exact hl)
  rw [List.append_nil] at b
  have P1 := I.pin p (List.mem_append_left _ L.pin)
  have hpin : L2H.PinOk X.stack H s p := ⟨P1.1, P1.2.1, fun z => (List.mem_cons.mp (I.stkSub p.1 z)).elim P1.2.2.1 P1.2.2.2.1, P1.2.2.2.2⟩
  refine wpAny_call (codeAny_mono (F.run p X.A X.stack s H ⟨us, []⟩ us vs Q (E τ) L.room L.hot hpin I.env0 b r h) fun a s' hq => ?_)
  match a, hq with
  | .error e, hq => exact hx pins H s e s' I hq
  | .ok (.ret u), hq => exact I.after hq
theorem de_callX (cl : CalleeX X.prog X.w X.K X.mg X.base x j S) (L : LiveH X c k p) (hg : Gl X x) (h : DA X c σ m (e :: es) (fun rs m1 => ∃ mf rest, Split m1 mf rest ∧ ∀ G, Ex c.G0 G → S p G rs mf (fun r m' => K r (m' ++ rest)) (fun C fs m' => c.ex σ (m' ++ rest) C fs))) (hjk : j ≤ k := by decide)
    (hdb : (x == ("__debug__" : Str)) = false := by decide) (he : starEach (e :: es) X.env = (false, eval e X.env) :: starEach es X.env := by rfl) (hpl : (backTo pos (starEach es X.env)).any (·.1) = false := by rfl) : DE X c σ m (.Call (.Name x q) (e :: es) [] pos) K := fun pins s τ H G Q I E qq => by
  obtain ⟨f, fd, ps, hm, hk, hb, F⟩ := cl
  refine wpAny_Call_Name_kw (ld_glob I hg hm ?_ hdb)
  refine PySem.W.callWith_K (h₀ := X.base) I.ok.mod.kin hk (thn (h pos pins s τ H G (fun vs H1 => spOfX X.K S p vs H1 Q (WE (Wx X c) τ)) I E ?_) fun us s1 ⟨vs, H1, I1, r, z⟩ => ⟨I1.kIn, ?_⟩) he hpl
  · intro rs m1 G1 H1 vs ⟨mf, rest, hs, z⟩ x1 E1 rv
    obtain ⟨h1, h2⟩ := E1.part hs
    refine ⟨rs, mf, G1, _, _, z G1 E1.g0, E1.sub, h1, h2, rv, fun r m' G' H' v z o rv' => ?_, fun C fs m' G' H' d z o hd => ?_⟩
    · exact qq r (m' ++ rest) G' H' v z (x1.trans o.up) (E1.after hs o) rv'
    · exact ⟨σ, m' ++ rest, G', C, fs, rfl, z, E1.after hs o, hd⟩
  · exact run_x (c := c) (F.mono hjk) L hb (L2N.passAt L.tk τ) I1 r z
end
section
variable {P : Program} {w : World} {K : PySem.W.Frag} {mg : Str → Option Value} {base : Heap} {x qual : Str} {params : Arguments} {body : List Stmt} {scope : Scope} {dvs : List V} {kws : List (Str × V)} {f : Addr} {fd : FuncData} {N ps : List Str} {k : Nat}
theorem fn2X {S : SpX} (F : FunD K x qual params body scope dvs kws f fd) (Sc : FnScope N ps scope) (dbg : ∀ x ∈ N, (x == ("__debug__" : Str)) = false ∧ (x == ("__classdict__" : Str)) = false) (len : ∀ p G rs m Kr Ke, S p G rs m Kr Ke → rs.length = ps.length)
    (hb : ∀ (X : Cx) (c : Ct) (p : Addr × Obj) (rs : List R) (m : Mem) (Kr : R → Mem → Prop) (Ke : Addr → List (Str × D) → Mem → Prop), Def X P w K mg base N scope → LiveH X c k p → (∀ σ m' C fs, Ke C fs m' → c.ex σ m' C fs) → S p c.G0 rs m Kr Ke →
      DSs X c (slots N rs) m body { nx := fun _ m' => Kr (.dat .non) m', rt := Kr }) : FnX P w K mg base (L2N.CX P w) (k + 1) f fd ps (spOfX K S) := by
  refine fnx_of F Sc (fun p vs H Q E ⟨rs, m, G, Kr, Ke, h, _, _, _, rv, _⟩ => by rw [← rv.length]; exact len _ _ _ _ _ _ h) fun p cdv A outer s H vs Q E hot hr ⟨rs, m, G, Kr, Ke, h, sub, nd, mem, rv, hQ, hE⟩ => ?_
  have hrl : rs.length = ps.length := len _ _ _ _ _ _ h
  have hpl : ps.length ≤ N.length := by have := congrArg List.length Sc.pre; rw [List.length_take] at this; omega
  let X : Cx := L2H.cxH (L2N.CX P w) P w K mg base N qual scope f cdv A outer s H E p
  let c : Ct := ⟨H, G, m.map (·.1), fun _ m' C fs => Ke C fs m'⟩
  have out : ∀ {σ : Sl} {m' : Mem} {G' : Hp} {τ : L2.St} {H' : Hp}, Ex G G' → EnvOk X c σ m' G' τ H' → OutOk K m m' G H G' H' := fun {σ m' G' τ H'} up E' => by
    refine ⟨up, E'.sub, E'.nd, E'.mem, fun a o ha hn => E'.fr a o ha fun hm => ?_, fun p hp => E'.th p.1 (List.mem_map_of_mem (f := (·.1)) hp), fun p hp => ?_, fun a o ha => ?_⟩
    · obtain ⟨p, hp, e⟩ := List.mem_map.mp hm
      exact hn p hp e
    · rcases E'.ok p hp with z | z
      · obtain ⟨q, hq, e⟩ := List.mem_map.mp z
        exact .inl ⟨q, hq, e⟩
      · exact .inr z
    · rcases E'.gn a o ha with z | z | z
      · exact .inl z
      · obtain ⟨q, hq, e⟩ := List.mem_map.mp z
        exact .inr (.inl ⟨q, hq, e⟩)
      · exact .inr (.inr z)
  have D : Def X P w K mg base N scope := ⟨rfl, rfl, rfl, rfl, rfl, rfl, rfl, fun _ => rfl, rfl, rfl⟩
  have G0 : ∀ {σ : Sl} {m' : Mem} {G' : Hp} {τ : L2.St} {H' : Hp}, EnvOk X c σ m' G' τ H' → True := fun _ => trivial
  have tk : L2N.Takes X (fun cls d _ H' => E cls d H') := L2N.takes_of rfl rfl rfl rfl
  refine ⟨tSs X c body, pss_t, G, slots N rs, m, G, _, ?_, hb X c p rs m Kr (fun C fs m' => Ke C fs m') D ⟨passes_of rfl, ?_, hot, List.mem_singleton.mpr rfl, hr⟩ (fun _ _ _ _ z => z) h, Ex.refl G, ?_⟩
  · refine ⟨⟨Sc.nd, dbg⟩, (slots_names (by rw [hrl]; exact hpl)).symm, ?_, sub, nd, mem, fun a o ha _ => ha, fun a ha => ?_, fun p hp => .inl (List.mem_map_of_mem (f := (·.1)) hp), fun a o ha => .inl ha, Ex.refl G, fun p hp hs => ?_, fun i y r hi => ?_⟩
    · rw [start_len (by rw [← rv.length, hrl]; exact hpl)]
      have e := congrArg List.length (slots_names (N := N) (rs := rs) (by rw [hrl]; exact hpl))
      rw [List.length_map] at e
      exact e.symm
    · obtain ⟨p, hp, rfl⟩ := List.mem_map.mp ha
      obtain ⟨_, ho, hh, _⟩ := mem p hp
      rw [hh]; exact fun z => by cases z
    · -- a slot with a value is a parameter
      obtain ⟨i, hi⟩ := List.mem_iff_getElem?.mp hp
      unfold slots at hi
      rw [List.getElem?_zip_eq_some] at hi
      obtain ⟨h1, h2⟩ := hi
      have lt : i < rs.length := by
        by_cases lt : i < rs.length
        · exact lt
        · rw [List.getElem?_append_right (by simpa using Nat.le_of_not_lt lt), List.getElem?_replicate] at h2
          split at h2
          · cases h2' : p.2 with
            | none => rw [h2'] at hs; cases hs
            | some z => rw [h2'] at h2; cases h2
          · cases h2
      have hp1 : p.1 ∈ ps := by
        rw [← Sc.pre]
        exact List.mem_of_getElem? (by rw [List.getElem?_take_of_lt (by rw [← hrl]; exact lt)]; exact h1)
      rcases Sc.par _ hp1 with k | k
      · exact .inl k
      · exact .inr (.inl k)
    · unfold slots at hi
      rw [List.getElem?_zip_eq_some] at hi
      obtain ⟨h1, h2⟩ := hi
      have lt : i < rs.length := by
        by_cases lt : i < rs.length
        · exact lt
        · rw [List.getElem?_append_right (by simpa using Nat.le_of_not_lt lt), List.getElem?_replicate] at h2
          split at h2 <;> cases h2
      rw [List.getElem?_append_left (by simpa using lt), List.getElem?_map] at h2
      have hr' : rs[i]? = some r := by
        cases e : rs[i]? with
        | none => rw [e] at h2; cases h2
        | some z => rw [e] at h2; cases h2; rfl
      obtain ⟨v, hv, rv'⟩ := rv.get hr'
      refine ⟨v, ?_, rv'⟩
      unfold L2.start
      rw [List.getElem?_append_left (by rw [List.length_map, ← rv.length]; exact lt), List.getElem?_map, hv] <;> rfl
  · refine L2N.Takes.imp tk fun cls d τ H' ⟨σ, m', G', C, fs, e, z, E', hd⟩ => ?_
    subst e
    exact hE C fs m' G' H' d z (out E'.g0 E') hd
  · refine ⟨fun σ m' G' τ H' z up E' => hQ _ m' G' H' .non z (out up E') (.dat .non), fun r σ m' G' τ H' v z up E' rv' => hQ r m' G' H' v z (out up E') rv', fun _ _ _ _ _ z => z.elim, fun _ _ _ _ _ z => z.elim⟩
end
end D2
/-! ## D2Is -/
set_option Elab.async false
set_option linter.all false
set_option maxRecDepth 100000
set_option maxHeartbeats 2000000
/-! classes by name, isinstance, fields of a caught exception -/
namespace D2
open PySem PySem.Spec PyProof.Rows L2
abbrev rCls (C : Addr) : R := .dat (.raw (.ref C))
abbrev rTy (T : String) : R := .dat (.raw (.ty T))
abbrev rExc (p : Addr × Obj) : R := .dat (.raw (.ref p.1))
section
variable {X : Cx} {c : Ct} {σ : Sl} {m : Mem} {x : Str} {k : Nat} {e : Expr} {K : R → Mem → Prop} {pos px : Pos}
theorem de_cls {C : Addr} (hg : Gl X x) (hm : X.mg x = some (.ref C)) (kk : K (rCls C) m) (hd : (x == ("__debug__" : Str)) = false := by decide) : DE X c σ m (.Name x px) K :=
  de_of (pe_glob (v := .ref C) hg hm rfl hd) fun τ H G Q E q => q.now kk E (.dat .raw)
theorem de_ty {T : String} (hg : Gl X x) (hm : X.mg x = none) (hv : bootBuiltins x = some (.type T)) (kk : K (rTy T) m) (hn : x ≠ "__name__" := by decide) (hd : (x == ("__debug__" : Str)) = false := by decide) : DE X c σ m (.Name x px) K :=
  de_of (pe_bltn (v := .ty T) hg hm hv rfl hn hd) fun τ H G Q E q => q.now kk E (.dat .raw)
/-- the class of a value -/
inductive TyR (m : Mem) : R → String → Prop
  | non : TyR m (.dat .non) "NoneType"
  | bl {b} : TyR m (rB b) "bool"
  | int {i} : TyR m (rI i) "int"
  | str {s} : TyR m (rS s) "str"
  | lst {r rs} (h : VL m r rs) : TyR m r "list"
  | tup {ds} : TyR m (.dat (.tup ds)) "tuple"
theorem TyR.at {τ : L2.St} {H G : Hp} {r : R} {v : V} {T : String} (h : TyR m r T) (E : EnvOk X c σ m G τ H) (rv : RelR X.K G r v) : TyX X.K H v (.type T) := by
  cases h with
  | non => cases rv with | dat rv => cases rv; exact .base .non
  | bl => cases bl_of rv; exact .base (.bl _)
  | int => cases int_of rv; exact .base (.int _)
  | str => cases str_of rv; exact .base (.str _)
  | lst h =>
    obtain ⟨a, vs, rfl, hs, _⟩ := h.at E rv
    rcases hs with (z | ⟨o, z⟩) | ⟨o, its, n, z, zc, _⟩
    · exact .base (.lst z)
    · exact .base (.frz z)
    · exact .kList z zc
  | tup =>
    cases rv with | dat rv =>
    cases rv with | tup hs rr =>
    rcases ex_t E.sub hs with (z | ⟨o, z⟩) | ⟨o, its, n, z, zc, _⟩
    · exact .base (.tup z)
    · exact .fTuple z
    · exact .kTuple z zc
theorem b_isi {r : R} {T U : String} {b : Bool} (h : TyR m r T) (hb : kitB T U = some b) (kk : K (rB b) m) : BK X c σ m (rIsi X.K) [r, rTy U] K := fun τ H G vs Q E rv q => by
  obtain ⟨v, u, rfl, r1, r2⟩ := two_of rv
  cases r2 with | dat r2 =>
  cases r2
  exact ⟨v, .ty U, .type T, .type U, b, rfl, .ty U, h.at E r1, kit_ty hb, q.now kk E (.dat .bl)⟩
/-- isinstance(v, T), T built-in -/
theorem d_isi {es : List Expr} (hg : Gl X "isinstance") (hm : X.mg "isinstance" = none) (h : DA X c σ m (e :: es) (fun rs m1 => ∃ r T U b, rs = [r, rTy U] ∧ TyR m1 r T ∧ kitB T U = some b ∧ K (rB b) m1))
    (he : starEach (e :: es) X.env = (false, eval e X.env) :: starEach es X.env := by rfl) (hpl : (backTo pos (starEach es X.env)).any (·.1) = false := by rfl) : DE X c σ m (.Call (.Name "isinstance" px) (e :: es) [] pos) K :=
  de_callB call_isi hg hm PyProof.Rows.boot_isinstance (fun ap pins s τ H G Q I E q => h ap pins s τ H G Q I E fun rs m1 G1 H1 vs ⟨r, T, U, b, er, ht, hb, z⟩ x1 E1 rv => q rs m1 G1 H1 vs (by subst er; exact b_isi ht hb z) x1 E1 rv) (he := he) (hpl := hpl)

/-! ### the caught exception -/
/-- p is an exception of the class C, with these fields -/
def Caught (K : PySem.W.Frag) (G : Hp) (p : Addr × Obj) (C : Addr) (fs : List (Str × D)) : Prop := ∃ d, Zc (.ref C) d p.2 ∧ (∃ vs, p.2.data = .fields vs) ∧ ExcD K G fs d
theorem Caught.up {Kf : PySem.W.Frag} {G G' : Hp} {p : Addr × Obj} {C : Addr} {fs : List (Str × D)} (h : Caught Kf G p C fs) (e : Ex G G') : Caught Kf G' p C fs := by
  obtain ⟨d, z, f, r⟩ := h
  refine ⟨d, z, f, ?_⟩
  rcases r with r | ⟨dd, vs, e1, e2, e3⟩
  · exact .inl r
  · exact .inr ⟨dd, vs, e1, e _ _ e2, e3.mono e⟩
def rIsP (K : PySem.W.Frag) (p : Addr × Obj) (C : Addr) (d : Option Addr) : List V → Hp → VK → Prop := fun xs H Q => ∃ (c : V) (cv : Value) (b : Bool), xs = [.ref p.1, c] ∧ (d = none ∨ ∃ dd fs, d = some dd ∧ H dd = some (.xd fs)) ∧ ClsV c cv ∧ PySem.W.kitOne K (.ref C) cv = some b ∧ Q (.bl b) H
theorem call_isP {p : Addr × Obj} {C : Addr} {d : Option Addr} (hp : p ∈ X.pn) (EC : ExcC X.K C) (hz : Zc (.ref C) d p.2) (hf : ∃ vs, p.2.data = .fields vs) : CallR X (.builtin "isinstance") (rIsP X.K p C d) := by
  intro pins s τ H xs us Q I r h
  obtain ⟨cc, cv, b, rfl, hd, hcv, eb, q⟩ := h
  obtain ⟨u1, u2, rfl, r1, r2⟩ := vals2 r
  cases (show u1 = Value.ref p.1 from r1)
  cases hcv.eq r2
  have at_ := (I.pin p (List.mem_append_left _ hp)).1
  obtain ⟨vs, hv⟩ := hf
  obtain ⟨cd, hcd, _⟩ := PySem.W.any_some EC.hd
  have done : ∀ {od : Option Obj}, PySem.W.InstAt s.heap p.1 p.2 C od → wpAny (model X.prog X.w) X.A (call (.builtin "isinstance") [.ref p.1, cv]) (EP X pins τ Q) X.xe s := fun {od} J =>
    PySem.W.kia_one (PySem.W.kitx_exc (by rw [hcd] <;> rfl) EC.hg EC.hk EC.hs EC.ha EC.hn EC.ht EC.hm) I.kIn J eb (fun z => nomatch z) fun tk => ⟨.bl b, H, I.kept (t' := tk) fun _ _ z => z, rfl, q⟩
  have nc : PySem.W.notCls p.2 = true := by unfold PySem.W.notCls; rw [hv] <;> rfl
  rcases hd with e | ⟨dd, fs, e, e2⟩
  · exact done (od := none) ⟨at_, hz.1, nc, by rw [hz.2, e]; trivial⟩
  · obtain ⟨mA, hns, _⟩ := (show ObjOk X.prog X.w H s.heap dd (.xd fs) from I.hok dd _ e2)
    obtain ⟨od, ho, _⟩ := lookIn_ns hns
    exact done (od := some od) ⟨at_, hz.1, nc, by rw [hz.2, e]; exact ho⟩
/-- isinstance(e, c), e the handled exception -/
theorem d_isE {es : List Expr} {p : Addr × Obj} {C : Addr} {fs : List (Str × D)} (hp : p ∈ X.pn) (EC : ExcC X.K C) (Cg : Caught X.K c.G0 p C fs) (hg : Gl X "isinstance") (hm : X.mg "isinstance" = none)
    (h : DA X c σ m (e :: es) (fun rs m1 => ∃ cv u b, rs = [rExc p, .dat (.raw cv)] ∧ ClsV cv u ∧ PySem.W.kitOne X.K (.ref C) u = some b ∧ K (rB b) m1))
    (he : starEach (e :: es) X.env = (false, eval e X.env) :: starEach es X.env := by rfl) (hpl : (backTo pos (starEach es X.env)).any (·.1) = false := by rfl) : DE X c σ m (.Call (.Name "isinstance" px) (e :: es) [] pos) K := by
  obtain ⟨d, hz, hf, hd⟩ := Cg
  refine de_callB (call_isP (d := d) hp EC hz hf) hg hm PyProof.Rows.boot_isinstance (fun ap pins s τ H G Q I E q => h ap pins s τ H G Q I E fun rs m1 G1 H1 vs ⟨cv, u, b, er, hc, hb, z⟩ x1 E1 rv => q rs m1 G1 H1 vs ?_ x1 E1 rv) (he := he) (hpl := hpl)
  subst er
  intro τ2 H2 G2 vs2 Q2 E2 rv2 q2
  obtain ⟨v1, v2, rfl, r1, r2⟩ := two_of rv2
  cases r1 with | dat r1 =>
  cases r1
  cases r2 with | dat r2 =>
  cases r2
  refine ⟨cv, u, b, rfl, ?_, hc, hb, q2.now z E2 (.dat .bl)⟩
  rcases hd with ⟨_, e0⟩ | ⟨dd, ws, e1, e2, _⟩
  · exact .inl e0
  · exact .inr ⟨dd, ws, e1, E2.sub _ _ (E2.g0 _ _ e2)⟩
theorem repf_at {Kf : PySem.W.Frag} {G : Hp} : ∀ {fs : List (Str × D)} {vs : List (Str × V)} {f : Str} {d : D}, RepF Kf G fs vs → fs.lookup f = some d → ∃ v, vs.lookup f = some v ∧ Rep Kf G d v
  | _, _, _, _, .nil, e => by simp at e
  | (g, y) :: fs, (_, u) :: vs, f, d, .cons h t, e => by
    rw [List.lookup_cons] at e ⊢
    cases hb : f == g with
    | true => rw [hb] at e; cases e; exact ⟨u, rfl, h⟩
    | false => rw [hb] at e; exact repf_at t e
/-- e.f in the suite -/
theorem d_fld {a C : Addr} {oe : Obj} {pn : List (Addr × Obj)} {fs : List (Str × D)} {f : Str} {d : D} {X : Cx} (T : XfC X.K C) (hno : PySem.W.findIn X.K (.ref C) f = some none) (Cg : Caught X.K c.G0 (a, oe) C fs) (hf : fs.lookup f = some d)
    (h : DE (X.suite a ((a, oe) :: pn)) c σ m e (fun r m1 => r = rExc (a, oe) ∧ K (.dat d) m1)) (hb : attributeBase e f X.env (eval e X.env) = eval e X.env := by rfl) : DE (X.suite a ((a, oe) :: pn)) c σ m (.Attribute e f pos) K := by
  obtain ⟨dd, hz, hv, hd⟩ := Cg
  rcases hd with ⟨e0, _⟩ | ⟨da, ws, e1, e2, e3⟩
  · subst e0; cases hf
  · obtain ⟨v, hv2, rv⟩ := repf_at e3 hf
    refine de_of (pe_xf (pn := pn) T hno hz hv (pe_t (X := X.suite a ((a, oe) :: pn)) (c := c)) hb) fun τ H G Q E q => ⟨σ, m, G, _, E, h, fun r m1 G1 H1 u ⟨er, z⟩ x1 E1 ru => ?_⟩
    subst er
    cases ru with | dat ru =>
    cases ru
    exact ⟨rfl, rfl, da, ws, v, e1, E1.sub _ _ (E1.g0 _ _ e2), hv2, q _ m1 G1 H1 v z x1 E1 (.dat (rv.mono E1.g0))⟩
end
end D2
/-! ## D2HotLc -/
set_option Elab.async false
set_option linter.all false
set_option maxRecDepth 100000
set_option maxHeartbeats 2000000
/-! a list walked, a list comprehension, within an except suite -/
namespace D2
open PySem PySem.Spec PyProof.Rows L2
open HotX in
/-- the end of a list's iterator while an exception is handled -/
theorem end_hot {prog : Program} {w : World} {A : Around} {E : Value → Shared → Prop} {s : Shared} {it l x1 : Addr} {i : Nat} {items : Array Value} {Q : Option Value → Shared → Prop} (hot : HotAt A x1 s.heap) (hn : x1 ≠ it)
    (hit : s.heap.IsListIter it l i) (hl : s.heap.IsList l items) (hx : items[i]? = none) (hQ : ∀ h', Heap.ExtBut it s.heap h' → Q none { s with heap := h' }) : wpAny (model prog w) A (pyNext (.ref it)) Q E s := by
  obtain ⟨o, ho, hc, hd⟩ := id hit
  obtain ⟨ol, hol, _, nl, hdl⟩ := hl
  obtain ⟨hh, o1, vs1, h1, d1, c1⟩ := hot
  unfold pyNext
  refine wpAny_bind (wpAny_attempt (wpAny_callSpecial?_slot (name := Str.ofString "__next__") hit.typeIs slot_listiter_next (wpAny_call_entry slot_listiter_next hit.typeIs entry_listiter_next ?_ (args_listiter_next _))))
  refine wpAny_bind (m := field (.ref it) 0) (wpAny_field ho hd (x := .ref l) rfl ?_)
  show wpAny _ _ (if (Value.ref l == Value.none) = true then _ else _) _ _ _
  rw [if_neg (by exact Bool.false_ne_true)]
  refine wpAny_bind (m := field (.ref it) 1) (wpAny_field ho hd (x := .int i 0) rfl ?_)
  refine wpAny_bind (m := seqItems? (.ref l)) (wpAny_seqItems hol hdl ?_)
  simp only [Int.toNat_natCast, hx]
  refine wpAny_bind (wpAny_rule (wpAny_bind (wpAny_setField ho hd (by simp) ?_)))
  show wpAny _ _ (newExc (.type "StopIteration") [] >>= _) _ _ { s with heap := s.heap.update it _ }
  refine wpAny_bind ?_
  simp only [newExc, newTuple]
  refine wpAny_bind (wpAny_newObj_type ?_ (by size_fits))
  refine wpAny_bind (m := firstArgMember _ _) (wpAny_of_eq (a := Value.none) (by first | (simp only [firstArgMember]; rfl) | rfl) ?_)
  refine wpAny_newObj_type ?_ (by size_fits)
  have keepU : ∀ {h : Heap} {f : Obj → Obj} {b : Addr} {u : Obj}, b ≠ it → h.get? b = some u → (h.update it f).get? b = some u := fun hb z => by rw [Heap.get?_update_other _ _ (Ne.symm hb)]; exact z
  refine raiseNew_hot (x1 := x1) ⟨hh, o1, vs1, Heap.get?_push_of_some _ (Heap.get?_push_of_some _ (keepU hn h1)), d1, c1⟩ (Nat.ne_of_lt (Heap.lt_size (Heap.get?_push_of_some _ (keepU hn h1)))) (Heap.get?_push_size _ rfl) rfl (by first | (simp; done) | (simp; omega)) ?_
  refine wpAny_bind (wpAny_isInstance (T := "StopIteration") (b := true) ⟨_, (by exact Heap.get?_update_self _ (Heap.get?_push_size _ rfl) rfl), rfl⟩ isSubtype_stop ?_)
  refine wpAny_pure (hQ _ fun b u hb z => ?_)
  rw [Heap.get?_update_other _ _ (Nat.ne_of_gt (Heap.lt_size (Heap.get?_push_of_some _ (keepU hb z))))]
  exact Heap.get?_push_of_some _ (Heap.get?_push_of_some _ (keepU hb z))

/-! ### a comprehension's block there -/
abbrev bh (X : Cx) (scope : Scope) (s : Shared) (H : Hp) (C : Addr) (cl : List (Str × Addr)) (fp : List Addr) : Cx := { bx X scope s H C cl fp with pn := X.pn }
def IsBlkH (X : Cx) (scope : Scope) (Xb : Cx) : Prop := ∃ s H C cl fp, Xb = bh X scope s H C cl fp
section
variable {X Xb : Cx} {scope : Scope} {x : Str} {c : Ct} {k j : Nat} {p : Addr × Obj} {σ : Sl} {m : Mem} {G H H0 : Hp} {τ : L2.St} {s s' : Shared} {C : Addr} {cl : List (Str × Addr)} {fp : List Addr}
theorem IsBlkH.gl (h : IsBlkH X scope Xb) (hx : scope.names.lookup x = some .globalImplicit) : Gl Xb x := by
  obtain ⟨s, H, C, cl, fp, rfl⟩ := h
  exact blk_keep (by decide) hx
theorem IsBlkH.mg (h : IsBlkH X scope Xb) {o : Option Value} (e : X.mg x = o) : Xb.mg x = o := by
  obtain ⟨s, H, C, cl', fp, rfl⟩ := h
  exact e
theorem IsBlkH.live (h : IsBlkH X scope Xb) (L : LiveH X c k p) {c' : Ct} (hx : ∀ σ m C fs, ¬ c'.ex σ m C fs) : LiveH Xb c' k p := by
  obtain ⟨s, H, C, cl', fp, rfl⟩ := h
  exact ⟨PassesOwn.never, tk_none hx, L.hot, L.pin, L.room⟩
theorem EB.ofH (e : EnvOk (bh X scope s H0 C cl fp) c σ m G τ H) : EB X scope c σ m G τ H := ⟨⟨e.nm.nd, e.nm.dbg⟩, e.names, e.len, e.sub, e.nd, e.mem, e.fr, e.th, e.ok, e.gn, e.g0, e.vis, e.sl⟩
theorem EB.toH (e : EB X scope c σ m G τ H) : EnvOk (bh X scope s H0 C cl fp) c σ m G τ H := ⟨⟨e.nm.nd, e.nm.dbg⟩, e.names, e.len, e.sub, e.nd, e.mem, e.fr, e.th, e.ok, e.gn, e.g0, e.vis, e.sl⟩
theorem ok_bh (ok : (bx X scope s H0 C cl fp).Ok) : (bh X scope s H0 C cl fp).Ok :=
  ⟨ok.mod, ok.kind, ok.glob, ok.blt, ok.above, ok.inj, ok.has, ok.cab, ok.hd, ok.frames, ok.stk, ok.exf, ok.bs, ok.bsz, ok.noex, ok.exfs, ok.funs, ok.frf⟩
theorem inv_bh (I : Inv (bx X scope s H0 C cl fp) [] τ H s') (h : ∀ q ∈ X.pn, s'.heap.get? q.1 = some q.2 ∧ H q.1 = none ∧ q.1 ≠ C ∧ q.1 ∉ frs X.stack ∧ ∀ v, q.2.data ≠ .cell v) : Inv (bh X scope s H0 C cl fp) [] τ H s' :=
  ⟨ok_bh I.ok, I.os, I.bare, I.base, I.loc, I.cell, I.free, I.freeC, fun q hq => h q (by simpa using (show q ∈ X.pn ++ [] from hq)), I.hok, I.len⟩
end
section
variable {X : Cx} {c : Ct} {σ : Sl} {m : Mem} {ifs : List Expr}
theorem dts_at {Kb : Bool → Mem → Prop} {pins : List (Addr × Obj)} {s : Shared} {τ : L2.St} {G H : Hp} {Q : Bool → Hp → Prop} (h : DTs X c σ m ifs Kb) (I : Inv X pins τ H s) (E : EnvOk X c σ m G τ H) (q : ∀ b m' G' H', Kb b m' → Ex G G' → EnvOk X c σ m' G' τ H' → Q b H') :
    wpAny (model X.prog X.w) X.A (forIn ifs true fun c r => if r = true then do let ok ← isTrue c X.env (eval c X.env); pure (ForInStep.yield ok) else pure (ForInStep.yield r)) (TP X pins τ Q) X.xe s := by
  match ifs, h with
  | [], h => exact wpAny_tests_nil ⟨H, I, q true m G H h (Ex.refl G) E⟩
  | [e], h => exact wpAny_tests_one (h _ pins s τ H G Q rfl I E q)
end
section
variable {X : Cx} {c : Ct} {σ σb : Sl} {m : Mem} {scope : Scope} {own : List (Str × Nat)} {iter elt : Expr} {ifs : List Expr} {K : R → Mem → Prop} {k j : Nat} {pos py : Pos} {p : Addr × Obj} {y : Str} {f : R → Sl}
/-- a turn, the item at hand -/
def TurnH1 (X : Cx) (scope : Scope) (k : Nat) (p : Addr × Obj) (σ2 : Sl) (m : Mem) (ifs : List Expr) (elt : Expr) (yes : R → Mem → Prop) (no : Mem → Prop) : Prop :=
  ∀ Xb c', IsBlkH X scope Xb → LiveH Xb c' k p → DTs Xb c' σ2 m ifs (fun b m2 => (b = true → DE Xb c' σ2 m2 elt yes) ∧ (b = false → no m2))
theorem de_lcH {ds : List D} (P : Nat → List R → Mem → Prop) (L : LiveH X c k p) (nd : X.N.Nodup) (ok : BlkOk X.N X.env.scope scope own) (hown : ∀ p ∈ own, scope.names.lookup p.1 = some .local) (hb : Blk scope σ σb) (hf : PutF σb y f) (hj : (y, j) ∈ own)
    (hit : DE X c σ m iter (fun r m1 => ∃ m2, Frz m1 r (.lst ds) m2 ∧ P 0 [] m2))
    (turn : ∀ i d rs m', ds[i]? = some d → P i rs m' → TurnH1 X scope k p (f (.dat d)) m' ifs elt (fun r m3 => P (i + 1) (rs ++ [r]) m3) (fun m2 => P (i + 1) rs m2)) (hl : ds.length ≤ 1000000)
    (hend : ∀ rs m' p, P ds.length rs m' → K (.own p) ((p, .lst rs) :: m')) (hs : ∀ x, foldedSetIterable iter X.env x = pure x := by intro _; rfl) : DE X c σ m (.ListComp elt [⟨.Name y py, iter, ifs, 0⟩] scope pos) K := by
  intro pins s τ H G Q I E q
  have hfree : ∀ z ∈ scope.names, z.2 = .free → ∃ b, X.env.cells.lookup z.1 = some b := fun z hz e => (ok.free z hz e).elim (fun h => I.ok.has _ (.inl h)) fun h => I.ok.has _ (.inr h)
  rw [eval_ListComp]
  refine wpAny_comprehension_free (use := none) rfl hs (closure_ok hfree) ok.kind (fun z hz e => by rw [ok.uniq z hz, e]) ?_
  refine thn (hit pins s τ H G (fun v H1 => ∃ a vs m2 G2, v = .ref a ∧ SqL X.K H1 a vs ∧ Reps X.K G2 ds vs ∧ Ex G G2 ∧ SqL X.K G2 a vs ∧ EnvOk X c σ m2 G2 τ H1 ∧ P 0 [] m2) I E ?_) fun u s1 ⟨v, H1, I1, ru, a, vs, m2, G2, ev, hq, hr, x2, hq2, E2, hP⟩ => ?_
  · intro r m1 G1 H1 v ⟨m2, fz, hP⟩ x1 E1 rv
    obtain ⟨G2, x2, E2, r2⟩ := fz.env E1 rv
    cases r2 with | lst h1 h2 =>
    exact ⟨_, _, m2, G2, rfl, ex_l E2.sub h1, h2, x1.trans x2, h1, E2, hP⟩
  subst ev
  cases ru
  obtain ⟨its, rv, pl, hz⟩ := I1.list hq
  refine wpAny_pyIter_list pl.isList ?_
  have I2 := I1.kept (t' := s1.toks) (h' := s1.heap.push { cls := .type "list_iterator", data := .fields #[.ref a, .int 0 0] }) fun b o e => Heap.get?_push_of_some _ e
  have itf := I1.fpOk (H' := H1) (b := s1.heap.objs.size) (Nat.le_refl _) (I1.hok.fresh (Nat.le_refl _))
  have it0 : (s1.heap.push { cls := .type "list_iterator", data := .fields #[.ref a, .int 0 0] }).IsListIter s1.heap.objs.size a 0 := ⟨_, Heap.get?_push_size _ rfl, rfl, rfl⟩
  generalize hit' : s1.heap.objs.size = it at I2 itf it0 ⊢
  have itlt : it < (s1.heap.push { cls := .type "list_iterator", data := .fields #[.ref a, .int 0 0] }).objs.size := by rw [Heap.size_push, ← hit']; exact Nat.lt_succ_self _
  generalize hs2 : ({ s1 with heap := s1.heap.push { cls := .type "list_iterator", data := .fields #[.ref a, .int 0 0] } } : Shared) = s2 at I2 ⊢
  have hs2h : s2.heap = s1.heap.push { cls := .type "list_iterator", data := .fields #[.ref a, .int 0 0] } := by rw [← hs2]
  rw [← hs2h] at itlt it0
  refine wpAny_newObj_type (newEnv_comp ?_) (by show 0 ≤ sizeLine; decide)
  generalize hD : s2.heap.objs.size = Dl
  have hDn : H1 Dl = none := I2.hok.fresh (Nat.le_of_eq hD)
  have itD : it ≠ Dl := by rw [← hD]; exact Nat.ne_of_lt itlt
  generalize hs3 : ({ s2 with heap := s2.heap.push { cls := .type "list", data := .seq ([] : List Value).toArray } } : Shared) = s3
  have hs3h : s3.heap = s2.heap.push { cls := .type "list", data := .seq ([] : List Value).toArray } := by rw [← hs3]
  have I3 : Inv X pins τ (L2.upd H1 Dl (.lst [])) s3 := by
    rw [← hs3]
    refine I2.laid (t' := s2.toks) (fun b o e => Heap.get?_push_of_some _ e) (Nat.le_of_eq hD) ⟨Nat.zero_le _, [], 0, .nil, ?_⟩
    rw [← hD]
    exact Heap.get?_push_size _ rfl
  have E3 : EnvOk X c σ ((Dl, .lst []) :: m2) G2 τ (L2.upd H1 Dl (.lst [])) := E2.new hDn (.lst .nil)
  have fit : FpOk X pins (L2.upd H1 Dl (.lst [])) it := ⟨by rw [L2.upd_ne itD]; exact itf.1, itf.2⟩
  have itlt3 : it < s3.heap.objs.size := by rw [hs3h, Heap.size_push]; exact Nat.lt_succ_of_lt itlt
  have it3 : s3.heap.IsListIter it a 0 := it0.at fun o e => by rw [hs3h]; exact Heap.get?_push_of_some _ e
  -- the block begins
  have I4b := block_start I3 ok nd (fp := [it]) fun b hb => by rw [List.mem_singleton.mp hb]; exact ⟨fit, itlt3⟩
  generalize hcl : cellsFrom (s3.heap.objs.size + 1) scope.names (cloFrom X.env.cells scope.names []) = cl at I4b ⊢
  generalize hC : s3.heap.objs.size = C at I4b ⊢
  generalize hs4 : ({ s3 with heap := pushCells (s3.heap.push { cls := .type "dict", data := .dict #[] }) scope.names } : Shared) = s4 at I4b
  have up34 : ∀ b o, s3.heap.get? b = some o → s4.heap.get? b = some o := fun b o e => by rw [← hs4]; exact pushCells_keeps _ _ _ _ (Heap.get?_push_of_some _ e)
  generalize hH3 : L2.upd H1 Dl (.lst []) = H3 at I3 E3 fit I4b
  have I4 : Inv (bh X scope s3 H3 C cl [it]) [] (wipe τ (own.map (·.2))) H3 s4 := inv_bh I4b fun z hz => by
    obtain ⟨z1, z2, z3, z4, z5⟩ := I3.pin z (List.mem_append_left _ hz)
    refine ⟨up34 _ _ z1, z2, ?_, fun hm => (List.mem_cons.mp (I3.stkSub z.1 hm)).elim z3 z4, z5⟩
    rw [← hC]; exact Nat.ne_of_lt (Heap.lt_size z1)
  show codeAny _ _ (.compStart (.ListComp elt [⟨.Name y py, iter, ifs, 0⟩] scope pos) 0 (.ref it) (.ref Dl) (compEnvC scope cl C X.env)) (compPost (model X.prog X.w) X.A X.xe none (EP X pins τ Q) (.ref Dl) C) _
  have it4 : s4.heap.IsListIter it a 0 := it3.at fun o e => up34 _ _ e
  -- what holds of the iterator in the block
  have stat : ∀ {τ' : L2.St} {H' : Hp} {s' : Shared}, Inv (bh X scope s3 H3 C cl [it]) [] τ' H' s' → H' it = none → FpOk (bh X scope s3 H3 C cl [it]) [] H' it := fun {τ' H' s'} I' hn =>
    ⟨hn, (I'.ok.exf it (List.mem_singleton.mpr rfl)).1, I'.ok.exfs it (List.mem_singleton.mpr rfl), .inl (List.mem_singleton.mpr rfl), fun x c e => (I'.ok.exf it (List.mem_singleton.mpr rfl)).2 x c e, fun z hz => by
      have hz : z ∈ X.pn := by simpa using (show z ∈ X.pn ++ [] from hz)
      obtain ⟨z1, _⟩ := I1.pin z (List.mem_append_left _ hz)
      rw [← hit']; exact Nat.ne_of_lt (Heap.lt_size z1)⟩
  have loop : codeAny (model X.prog X.w) X.A (.compLoop (.ListComp elt [⟨.Name y py, iter, ifs, 0⟩] scope pos) 0 (.ref it) (.ref Dl) (compEnvC scope cl C X.env)) (compPost (model X.prog X.w) X.A X.xe none (EP X pins τ Q) (.ref Dl) C) s4 := by
    refine compLoop_any (fun n s' => ∃ i H' rs m' G', n = ds.length - i ∧ i ≤ ds.length ∧ Inv (bh X scope s3 H3 C cl [it]) [] (wipe τ (own.map (·.2))) H' s' ∧ s'.heap.IsListIter it a i ∧ H' it = none ∧
      P i rs m' ∧ rs.length ≤ i ∧ EnvOk X c σ ((Dl, .lst rs) :: m') G' τ H' ∧ Ex G2 G') ?_ ds.length ⟨0, H3, [], m2, G2, rfl, Nat.zero_le _, I4, it4, fit.1, hP, Nat.le_refl _, E3, Ex.refl G2⟩
    rintro n s5 ⟨i, H5, rs, m5, G5, rfl, hi, I5, it5, n5, hP5, hrs, E5, x5⟩
    have q5 : SqL X.K H5 a vs := ex_l (x5.trans E5.sub) hq2
    obtain ⟨its5, rv5, pl5, hz5⟩ := I5.list q5
    obtain ⟨f0, f1, f2, f3, f4, f5⟩ := stat I5 n5
    by_cases hlt : i < ds.length
    · obtain ⟨v0, hv0, rel0⟩ := hr.rel.get (show (ds.map R.dat)[i]? = some (.dat ds[i]) by rw [List.getElem?_map, List.getElem?_eq_getElem hlt]; rfl)
      have rep0 : Rep X.K G5 ds[i] v0 := by cases rel0 with | dat z => exact z.mono x5
      obtain ⟨u, hu, ru⟩ := rv5.get hv0
      refine wpAny_pyNext_list_item it5 pl5.isList (x := u) (by simpa using hu) fun h' st' sb => ?_
      have I6 := I5.turned (t' := s5.toks) (fun b o hb e => (sb.2 b hb).trans e) f0 f1 f3 f4 f5
      obtain ⟨oit, eit, cit, dit⟩ := id st'
      refine go_of (s := { s5 with heap := h' }) eit cit dit (by decide) ?_
      have I6p : Inv (bh X scope s3 H3 C cl [it]) [(it, oit)] (wipe τ (own.map (·.2))) H5 { s5 with heap := h' } := I6.pins_of fun z hz => by
        rw [List.mem_singleton.mp hz]
        exact ⟨eit, n5, f1, f2, fun v e => by rw [dit] at e; cases e⟩
      -- over data, in the block's part
      have sp : Split ((Dl, .lst rs) :: m5) m5 [(Dl, .lst rs)] := split_back _ _
      have Eb := (E5.into sp (ex := fun _ _ _ _ => False)).blk hb ok hown
      obtain ⟨j', hj', E6⟩ := Eb.put (hf.put (.dat ds[i])) (.inl (own_z hown hj)) (.dat rep0)
      have ej : j = j' := nodup_ix nd (ok.ix _ hj) hj'
      subst ej
      have bk : ∀ {σ2 : Sl} {τ2 : L2.St} {m2 : Mem} {G2 H2 : Hp}, EB X scope (ctSub c H5 G5 m5 fun _ _ _ _ => False) σ2 m2 G2 τ2 H2 → EnvOk X c σ ((Dl, .lst rs) :: m2) G2 τ H2 := fun {σ2 τ2 m2 G2 H2} e => by
        have A := E5.after sp (show OutOk X.K _ _ _ _ _ _ from e.outK)
        refine A.drop (fun z hz => ?_) ?_
        · rcases List.mem_cons.mp hz with rfl | hz
          · exact List.mem_append_right _ List.mem_cons_self
          · exact List.mem_append_left _ hz
        · have pm : (m2 ++ [(Dl, O.lst rs)]).Perm ((Dl, .lst rs) :: m2) := List.perm_append_comm
          exact (pm.map _).nodup_iff.mp A.nd
      have LB : LiveH (bh X scope s3 H3 C cl [it]) (ctSub c H5 G5 m5 fun _ _ _ _ => False) k p := IsBlkH.live ⟨s3, H3, C, cl, [it], rfl⟩ L fun _ _ _ _ z => z
      have T := turn i ds[i] rs m5 (List.getElem?_eq_getElem hlt) hP5 _ _ ⟨s3, H3, C, cl, [it], rfl⟩ LB
      have ow : Own (bh X scope s3 H3 C cl [it]) y := own_at (X := X) hown hj s3 H3 C cl [it]
      refine thnF ((pg_name (X := bh X scope s3 H3 C cl [it]) nd (ok.ix _ hj) ow.1 ow.2).run _ _ _ H5 v0 u (fun τ8 H8 => τ8 = (wipe τ (own.map (·.2))).set j (some v0) ∧ H8 = H5) I6p ru ⟨rfl, rfl⟩) fun _ s8 ⟨τ8, H8, I8, e8, eH8⟩ => ?_
      subst e8 eH8
      have fin : ∀ {s' : Shared} {H' : Hp} {rs' : List R} {m' : Mem} {G' : Hp}, Inv (bh X scope s3 H3 C cl [it]) [(it, oit)] ((wipe τ (own.map (·.2))).set j (some v0)) H' s' → P (i + 1) rs' m' → rs'.length ≤ i + 1 → EnvOk X c σ ((Dl, .lst rs') :: m') G' τ H' → Ex G5 G' →
          ∃ m, m < ds.length - i ∧ ∃ i H' rs m' G', m = ds.length - i ∧ i ≤ ds.length ∧ Inv (bh X scope s3 H3 C cl [it]) [] (wipe τ (own.map (·.2))) H' s' ∧ s'.heap.IsListIter it a i ∧ H' it = none ∧ P i rs m' ∧ rs.length ≤ i ∧ EnvOk X c σ ((Dl, .lst rs) :: m') G' τ H' ∧ Ex G2 G' := fun {s' H' rs' m' G'} I' hP' hl' E' x' => by
        obtain ⟨z1, z2, _⟩ := I'.pin (it, oit) (List.mem_append_right _ (List.mem_singleton.mpr rfl))
        refine ⟨ds.length - (i + 1), by omega, i + 1, H', rs', m', G', rfl, hlt, (I'.pins_of fun z hz => by cases hz).weak (by rw [List.length_set]) fun w v e => ?_, ⟨oit, z1, cit, dit⟩, z2, hP', hl', E', x5.trans x'⟩
        have e2 : (wipe ((wipe τ (own.map (·.2))).set j (some v0)) (own.map (·.2)))[w]? = some (some v) := by
          rw [wipe_set (List.mem_map_of_mem (f := (·.2)) hj), wipe_wipe]
          exact e
        exact (wipe_some e2).1
      refine thnF (dts_at T I8 (EB.toH E6) (Q := fun b H' => ∃ m6 G6, Ex G5 G6 ∧ EB X scope (ctSub c H8 G5 m5 fun _ _ _ _ => False) (f (.dat ds[i])) m6 G6 ((wipe τ (own.map (·.2))).set j (some v0)) H' ∧ ((b = true → DE (bh X scope s3 H3 C cl [it]) (ctSub c H8 G5 m5 fun _ _ _ _ => False) (f (.dat ds[i])) m6 elt fun r m3 => P (i + 1) (rs ++ [r]) m3) ∧ (b = false → P (i + 1) rs m6))) fun b m' G' H' z x E' => ⟨m', G', x, EB.ofH E', z⟩) fun b s9 ⟨H9, I9, m9, G9, x9, E9, y1, y2⟩ => ?_
      cases b with
      | false =>
        simp only [Bool.false_eq_true, if_false]
        exact fin I9 (y2 rfl) (by omega) (bk E9) x9
      | true =>
        simp only [if_true]
        refine thnF (y1 rfl _ s9 _ H9 G9 (fun v H' => ∃ r m6 G6, P (i + 1) (rs ++ [r]) m6 ∧ Ex G9 G6 ∧ EB X scope (ctSub c H8 G5 m5 fun _ _ _ _ => False) (f (.dat ds[i])) m6 G6 ((wipe τ (own.map (·.2))).set j (some v0)) H' ∧ RelR X.K G6 r v) I9 (EB.toH E9) fun r m' G' H' v z x E' rv => ⟨r, m', G', z, x, EB.ofH E', rv⟩) fun z s10 ⟨yv, H10, I10, r10, r, m10, G10, hP10, x10, E10, rr10⟩ => ?_
        have E11 := bk E10
        obtain ⟨_, ho, hh, ro⟩ := E11.mem (Dl, .lst rs) List.mem_cons_self
        cases ro with | @lst _ acc ro =>
        have hacc : acc.length < sizeLine := by rw [← ro.length]; exact Nat.lt_of_le_of_lt (by omega : rs.length ≤ 1000000) (by decide)
        exact app_ok (X := bh X scope s3 H3 C cl [it]) I10 hh hacc r10 fun s11 I11 => fin I11 hP10 (by rw [List.length_append]; simp; omega) (E11.chg .here (.lst (ro.append (.cons rr10 .nil)))) (x9.trans x10)
    · have e : i = ds.length := by omega
      have hot : HotX.HotAt X.A p.1 s5.heap := by
        obtain ⟨hh, v1, e1, c1⟩ := L.hot
        exact ⟨hh, p.2, v1, (I5.pin p (by show p ∈ X.pn ++ []; rw [List.append_nil]; exact L.pin)).1, e1, c1⟩
      have npit : p.1 ≠ it := f5 p (by show p ∈ X.pn ++ []; rw [List.append_nil]; exact L.pin)
      refine end_hot (x1 := p.1) hot npit it5 pl5.isList (by have h1 := rv5.length; have h2 := hr.length; simp; omega) fun h' eb => ?_
      have I6 := I5.turned (t' := s5.toks) (fun b o hb e => eb b o hb e) f0 f1 f3 f4 f5
      have I7 : Inv X pins τ H5 { s5 with heap := h' } := I3.call' (ch := [it]) I6.os I6.base I6.hok I6.bare fun b hb => by
        rw [List.mem_singleton.mp hb]
        exact ⟨fit.2.2.2.1, fit.2.1, fit.2.2.2.2.1, fit.2.2.2.2.2⟩
      obtain ⟨mm, hmm, _⟩ := I6.loc
      have nC : H5 C = none := I6.free
      obtain ⟨g0, g1, g2, g3, g4, g5⟩ := I3.fpOk (H' := H5) (b := C) (Nat.le_of_eq hC) nC
      subst e
      exact ⟨mm, hmm, fun h'' sb => ⟨.ref Dl, H5, I7.turned (t' := s5.toks) (fun b o hb e => (sb.2 b hb).trans e) g0 g1 g3 g4 g5, rfl, q _ _ G5 _ _ (hend rs m5 Dl hP5) (x2.trans x5) E5 .own⟩⟩
  exact codeAny_compStart_list loop (wpAny_pyIter_listiter it4 loop)
end
end D2
/-! ## D2Try -/
set_option Elab.async false
set_option linter.all false
set_option maxRecDepth 100000
set_option maxHeartbeats 2000000
/-! try: .. except x as n: .. -/
namespace D2
open PySem PySem.Spec PyProof.Rows L2
inductive Gone : Sl → Str → Sl → Prop
  | here {x o σ} : Gone ((x, o) :: σ) x ((x, none) :: σ)
  | there {q x σ σ'} : Gone σ x σ' → Gone (q :: σ) x (q :: σ')
theorem Gone.ix {σ σ' : Sl} {x : Str} (h : Gone σ x σ') : ∃ (i : Nat) (o : Option R), σ[i]? = some (x, o) ∧ σ' = σ.set i (x, none) := by
  induction h with
  | @here x o σ => exact ⟨0, o, rfl, rfl⟩
  | there _ ih => obtain ⟨i, o, e, q⟩ := ih; exact ⟨i + 1, o, by simpa using e, by rw [q]; rfl⟩
section
variable {X : Cx} {c : Ct} {σ σ' : Sl} {m m' : Mem} {G : Hp} {τ : L2.St} {H : Hp} {x n : Str} {k : Nat}
theorem EnvOk.gone (E : EnvOk X c σ m G τ H) (h : Gone σ x σ') {i : Nat} (hi : X.N[i]? = some x) : EnvOk X c σ' m G (τ.set i none) H := by
  obtain ⟨j, o, e1, rfl⟩ := h.ix
  have hj : j < σ.length := (List.getElem?_eq_some_iff.mp e1).1
  have hNj : X.N[j]? = some x := by rw [E.names, List.getElem?_map, e1]; rfl
  have ij : i = j := nodup_ix E.nm.nd hi hNj
  subst ij
  refine ⟨E.nm, ?_, by rw [List.length_set, List.length_set]; exact E.len, E.sub, E.nd, E.mem, E.fr, E.th, E.ok, E.gn, E.g0, fun p hp hs => ?_, fun l y q hl => ?_⟩
  · rw [E.names, List.map_set]
    refine List.ext_getElem? fun l => ?_
    by_cases hl : i = l
    · subst hl
      rw [List.getElem?_set_self (by rw [List.length_map]; exact hj), List.getElem?_map, e1] <;> rfl
    · rw [List.getElem?_set_ne hl]
  · rcases List.mem_or_eq_of_mem_set hp with hp | rfl
    · exact E.vis p hp hs
    · cases hs
  · by_cases il : i = l
    · subst il
      rw [List.getElem?_set_self hj] at hl
      cases hl
    · rw [List.getElem?_set_ne il] at hl
      obtain ⟨u, h1, h2⟩ := E.sl l y q hl
      exact ⟨u, by rw [List.getElem?_set_ne il]; exact h1, h2⟩
theorem EnvOk.exTo {ex : Sl → Mem → Addr → List (Str × D) → Prop} (e : EnvOk X c σ m G τ H) : EnvOk X { c with ex := ex } σ m G τ H := ⟨e.nm, e.names, e.len, e.sub, e.nd, e.mem, e.fr, e.th, e.ok, e.gn, e.g0, e.vis, e.sl⟩
theorem EnvOk.exOf {ex : Sl → Mem → Addr → List (Str × D) → Prop} (e : EnvOk X { c with ex := ex } σ m G τ H) : EnvOk X c σ m G τ H := ⟨e.nm, e.names, e.len, e.sub, e.nd, e.mem, e.fr, e.th, e.ok, e.gn, e.g0, e.vis, e.sl⟩
theorem EnvOk.trTo {pn : List (Addr × Obj)} {xe : Value → Shared → Prop} (e : EnvOk X c σ m G τ H) : EnvOk (X.tr pn xe) c σ m G τ H := ⟨⟨e.nm.nd, e.nm.dbg⟩, e.names, e.len, e.sub, e.nd, e.mem, e.fr, e.th, e.ok, e.gn, e.g0, e.vis, e.sl⟩
theorem EnvOk.trOf {pn : List (Addr × Obj)} {xe : Value → Shared → Prop} (e : EnvOk (X.tr pn xe) c σ m G τ H) : EnvOk X c σ m G τ H := ⟨⟨e.nm.nd, e.nm.dbg⟩, e.names, e.len, e.sub, e.nd, e.mem, e.fr, e.th, e.ok, e.gn, e.g0, e.vis, e.sl⟩
theorem EnvOk.suTo {a : Addr} {pn : List (Addr × Obj)} (e : EnvOk X c σ m G τ H) : EnvOk (X.suite a pn) c σ m G τ H := ⟨⟨e.nm.nd, e.nm.dbg⟩, e.names, e.len, e.sub, e.nd, e.mem, e.fr, e.th, e.ok, e.gn, e.g0, e.vis, e.sl⟩
theorem EnvOk.suOf {a : Addr} {pn : List (Addr × Obj)} (e : EnvOk (X.suite a pn) c σ m G τ H) : EnvOk X c σ m G τ H := ⟨⟨e.nm.nd, e.nm.dbg⟩, e.names, e.len, e.sub, e.nd, e.mem, e.fr, e.th, e.ok, e.gn, e.g0, e.vis, e.sl⟩
theorem Fit.trTo {F : Hp} {D : Ends} {en : En} {pn : List (Addr × Obj)} {xe : Value → Shared → Prop} (f : Fit X c F D en) : Fit (X.tr pn xe) c F D en :=
  ⟨fun σ m G τ H a b E => f.nx σ m G τ H a b E.trOf, fun r σ m G τ H v a b E rv => f.rt r σ m G τ H v a b E.trOf rv, fun σ m G τ H a b E => f.bk σ m G τ H a b E.trOf, fun σ m G τ H a b E => f.ct σ m G τ H a b E.trOf⟩
theorem Fit.suTo {F : Hp} {D : Ends} {en : En} {a : Addr} {pn : List (Addr × Obj)} (f : Fit X c F D en) : Fit (X.suite a pn) c F D en :=
  ⟨fun σ m G τ H a b E => f.nx σ m G τ H a b E.suOf, fun r σ m G τ H v a b E rv => f.rt r σ m G τ H v a b E.suOf rv, fun σ m G τ H a b E => f.bk σ m G τ H a b E.suOf, fun σ m G τ H a b E => f.ct σ m G τ H a b E.suOf⟩
theorem split_all : ∀ m : Mem, Split m m []
  | [] => .nil
  | (a, o) :: m => .cons .here (split_all m)
/-- the context of a part that begins with the frozen heap G -/
def ctG (c : Ct) (G : Hp) (ex : Sl → Mem → Addr → List (Str × D) → Prop) : Ct := ⟨c.H0, G, c.mu, ex⟩
theorem EnvOk.inG {ex : Sl → Mem → Addr → List (Str × D) → Prop} (e : EnvOk X c σ m G τ H) : EnvOk X (ctG c G ex) σ m G τ H := ⟨e.nm, e.names, e.len, e.sub, e.nd, e.mem, e.fr, e.th, e.ok, fun a o h => .inl h, Ex.refl G, e.vis, e.sl⟩
theorem EnvOk.outG {ex : Sl → Mem → Addr → List (Str × D) → Prop} {σ0 : Sl} {m0 : Mem} {τ0 : L2.St} {H0 G' : Hp} (e0 : EnvOk X c σ0 m0 G τ0 H0) (e : EnvOk X (ctG c G ex) σ m G' τ H) : EnvOk X c σ m G' τ H :=
  ⟨e.nm, e.names, e.len, e.sub, e.nd, e.mem, e.fr, e.th, e.ok, fun a o h => (e.gn a o h).elim (fun z => e0.gn a o z) .inr, e0.g0.trans e.g0, e.vis, e.sl⟩
/-- the suite of except .. as n, behind an exception of the class C with the fields fs -/
def SuiteOk (X : Cx) (k : Nat) (n : Str) (σ : Sl) (m : Mem) (suite : List Stmt) (C : Addr) (fs : List (Str × D)) (en : En) : Prop :=
  ∃ f, PutF σ n f ∧ ∀ (p : Addr × Obj) (pn : List (Addr × Obj)) (c2 : Ct), (∀ σ m C fs, ¬ c2.ex σ m C fs) → Caught X.K c2.G0 p C fs → LiveH (X.suite p.1 (p :: pn)) c2 k p →
    DSs (X.suite p.1 (p :: pn)) c2 (f (rExc p)) m suite { nx := fun σ' m' => ∃ σ3, Gone σ' n σ3 ∧ en.nx σ3 m', rt := en.rt, bk := fun σ' m' => ∃ σ3, Gone σ' n σ3 ∧ en.bk σ3 m', ct := fun σ' m' => ∃ σ3, Gone σ' n σ3 ∧ en.ct σ3 m' }
/-- what the try wishes of the body's exceptions -/
def TryEx (X : Cx) (k : Nat) (n : Str) (cv : Value) (suite : List Stmt) (en : En) (out : Sl → Mem → Addr → List (Str × D) → Prop) : Sl → Mem → Addr → List (Str × D) → Prop := fun σ m C fs =>
  ∃ b, PySem.W.exmOne X.K (.ref C) cv = some b ∧ (b = true → SuiteOk X k n σ m suite C fs en) ∧ (b = false → out σ m C fs)
variable {cv : Value} {body suite : List Stmt} {b₀ : Stmt} {np pos pos' : Pos} {en : En}
theorem roomH_mark {A : Around} {v : Option Value} (r : Room k A) : L2H.RoomH k (A.mark v) := ⟨r.dp, r.un⟩
theorem ds_try (L : Live X c k) (hs : X.stack = X.env :: X.outer) (hf : X.env.frame = some X.env.locals) (hN : X.N.Nodup) (hi : n ∈ X.N) (hln : X.env.kindOf n = some .local) (hc : Names X x cv)
    (hb : ∀ pn xe c1, (∀ σ m C fs, TryEx X k n cv (b₀ :: suite) en c.ex σ m C fs → c1.ex σ m C fs) → Live (X.tr pn xe) c1 k → DSs (X.tr pn xe) c1 σ m body en) :
    DS X c σ m (.Try body [.ExceptHandler (some (.Name x np)) (some n) (b₀ :: suite) pos'] [] [] pos) en := fun F pins s τ H G D I E fx ft => by
  obtain ⟨i, hi⟩ := List.mem_iff_getElem?.mp hi
  let c1 : Ct := ctG c G (TryEx X k n cv (b₀ :: suite) en c.ex)
  let tb : WX → TS := fun W D τ H => ∃ F σ m G, EnvOk X c1 σ m G τ H ∧ (∀ pn xe, Live (X.tr pn xe) c1 k → DSs (X.tr pn xe) c1 σ m body en) ∧ Ex F G ∧ Fit X c1 F D en ∧ (∀ cls d τ' H', Wx X c1 cls d τ' H' → W cls d τ' H')
  let ts : Addr → Value → Option Addr → TS := fun a cls d D τ H => ∃ F σ m G en2 c2 C fs, cls = .ref C ∧ (∀ σ m C fs, ¬ c2.ex σ m C fs) ∧ ExcD X.K c2.G0 fs d ∧ EnvOk X c2 σ m G τ H ∧ Ex F G ∧ Fit X c2 F D en2 ∧
    ∀ oe pn, Caught X.K c2.G0 (a, oe) C fs → LiveH (X.suite a ((a, oe) :: pn)) c2 k (a, oe) → DSs (X.suite a ((a, oe) :: pn)) c2 σ m (b₀ :: suite) en2
  refine (L2N.ps_try_as (i := i) (ts := ts) (tb := tb) (Wout := Wx X c) hs hf hN hi hln hc L.tk (fun W pn xe tk ow => ⟨fun pins s τ H D I ⟨F, σ, m, G, E, d, fx, ft, w⟩ => ?_⟩) (fun a oe cls d pn hz hv => ⟨fun pins s τ H D I ⟨F, σ, m, G, en2, c2, C, fs, ec, hx, he, E, fx, ft, h⟩ => ?_⟩)).run pins s τ H D I ?_
  · refine d pn xe ⟨ow, ?_, L.calm, L.room⟩ F pins s τ H G D I E.trTo fx ft.trTo
    exact L2N.Takes.imp tk fun cls d τ' H' ⟨σ', m', G', C, fs, e1, e2, e3, e4⟩ => w cls d τ' H' ⟨σ', m', G', C, fs, e1, e2, e3.trOf, e4⟩
  · subst ec
    obtain ⟨vs, hvs⟩ := hv
    exact h oe pn ⟨d, hz.zc, ⟨vs, hvs⟩, he⟩ ⟨PassesOwn.never, tk_none hx, ⟨rfl, vs, hvs, hz.2.2 vs hvs⟩, List.mem_cons_self, roomH_mark L.room⟩ F pins s τ H G D I E.suTo fx ft.suTo
  · refine ⟨F, σ, m, G, E.inG, fun pn xe L1 => hb pn xe c1 (fun _ _ _ _ z => z) L1, fx, ?_, ?_⟩
    · exact ⟨fun σ m G' τ H a b e => ft.nx σ m G' τ H a b (E.outG e), fun r σ m G' τ H v a b e rv => ft.rt r σ m G' τ H v a b (E.outG e) rv, fun σ m G' τ H a b e => ft.bk σ m G' τ H a b (E.outG e), fun σ m G' τ H a b e => ft.ct σ m G' τ H a b (E.outG e)⟩
    · rintro cls d τ' H' ⟨σ', m', G', C, fs, ec, ⟨b, hb1, hy, hn⟩, E', hd⟩
      subst ec
      refine ⟨b, hb1, fun hbt a na => ?_, fun hbf => ⟨σ', m', G', C, fs, rfl, hn hbf, E.outG E', hd⟩⟩
      obtain ⟨f, hp, hsu⟩ := hy hbt
      have E1 : EnvOk X c σ' m' G' τ' H' := E.outG E'
      obtain ⟨i', hi', E2⟩ := (E1.into (split_all m') (ex := fun _ _ _ _ => False)).put (hp.put (.dat (.raw (.ref a)))) (.inl hln) (.dat .raw)
      have ei : i = i' := nodup_ix hN hi hi'
      subst ei
      have out : ∀ {σ2 : Sl} {m2 : Mem} {G2 : Hp} {τ2 : L2.St} {H2 : Hp}, EnvOk X (ctSub c H' G' m' fun _ _ _ _ => False) σ2 m2 G2 τ2 H2 → EnvOk X c σ2 m2 G2 τ2 H2 := fun {σ2 m2 G2 τ2 H2} e => by
        have z := E1.back (split_all m') e
        rw [List.append_nil] at z
        exact z
      have up : Ex F G' := fx.trans E'.g0
      refine ⟨G', f (.dat (.raw (.ref a))), m', G', _, ctSub c H' G' m' (fun _ _ _ _ => False), C, fs, rfl, fun _ _ _ _ z => z, hd, E2, Ex.refl G', ?_, fun oe pn hC hL => hsu (a, oe) pn _ (fun _ _ _ _ z => z) hC hL⟩
      exact ⟨fun σ2 m2 G2 τ2 H2 ⟨σ3, g, h⟩ x2 e => ft.nx σ3 m2 G2 _ H2 h (up.trans x2) ((out e).gone g hi), fun r σ2 m2 G2 τ2 H2 v h x2 e rv => ft.rt r σ2 m2 G2 τ2 H2 v h (up.trans x2) (out e) rv,
        fun σ2 m2 G2 τ2 H2 ⟨σ3, g, h⟩ x2 e => ft.bk σ3 m2 G2 _ H2 h (up.trans x2) ((out e).gone g hi), fun σ2 m2 G2 τ2 H2 ⟨σ3, g, h⟩ x2 e => ft.ct σ3 m2 G2 _ H2 h (up.trans x2) ((out e).gone g hi)⟩
end
end D2
/-! ## D2Lib -/
set_option Elab.async false
set_option linter.all false
set_option maxRecDepth 100000
set_option maxHeartbeats 2000000
namespace D2
open PySem PySem.Spec PyProof.Rows L2
section
variable {X : Cx} {c : Ct} {σ : Sl} {m m' : Mem} {x : Str} {k : Nat} {e a b : Expr} {K : R → Mem → Prop} {px pos : Pos} {en : En} {r : R} {f : R → Sl}
/-! ### x op= e -/
theorem ds_aug {op : Operator} {ti : TIp} (ho : PIp X op ti) (hx : Own X x) (hl : Lk σ x r) (hp : PutF σ x f)
    (h : DE X c σ m e (fun r2 m1 => ∀ (τ : L2.St) (H G : Hp) (v1 v2 : V) (Q : VK), EnvOk X c σ m1 G τ H → RelR X.K G r v1 → RelR X.K G r2 v2 → CK X c σ τ G (fun r3 m3 => en.nx (f r3) m3) Q → ti v1 v2 H Q)) :
    DS X c σ m (.AugAssign (.Name x px) op e pos) en := fun F pins s τ H G D I E fx ft => by
  obtain ⟨i, v, h1, h2, h3, hv⟩ := E.get hl
  refine (ps_aug (i := i) E.nm.nd h1 hx.1 (pe_t (c := c)) ho hx.2).run pins s τ H D I ⟨v, h2, σ, m, G, _, E, h, fun r2 m1 G1 H1 w d x1 E1 rw' => ?_⟩
  refine d τ H1 G1 v w _ E1 (h3.mono x1) rw' fun r3 m3 G3 H3 u z x3 E3 ru => ?_
  obtain ⟨j, hj, E4⟩ := E3.put (hp.put r3) (hx.1.elim .inl fun q => .inr (.inl q)) ru
  have ij : i = j := nodup_ix E.nm.nd h1 hj
  subst ij
  exact ft.nx _ m3 G3 _ H3 z ((fx.trans x1).trans x3) E4
theorem ds_augI {op : Operator} {g : Int → Int → Int} {i : Int} (ho : PIp X op (ipI g)) (hx : Own X x) (hl : Lk σ x (rI i)) (hp : PutF σ x f) (h : DE X c σ m e (fun r2 m1 => ∃ j, r2 = rI j ∧ en.nx (f (rI (g i j))) m1)) : DS X c σ m (.AugAssign (.Name x px) op e pos) en :=
  ds_aug ho hx hl hp (h.imp fun r2 m1 ⟨j, ej, z⟩ τ H G v1 v2 Q E q1 q2 q => by
    subst ej
    cases int_of q1
    cases int_of q2
    exact ⟨i, j, rfl, rfl, q.now z E (.dat .int)⟩)
/-! ### text.find(text, place) -/
def find3 (s t : List Nat) (i : Int) : Int := Txt.find3 (sOf s) (sOf t) i
abbrev rFind3 : V → List V → Hp → VK → Prop := fun x xs H Q => ∃ (a b : Str) (i : Int), x = .str a ∧ xs = [.str b, .int i] ∧ Q (.int (Txt.find3 a b i)) H
theorem k_find {s t : List Nat} {i : Int} (kk : K (rI (find3 s t i)) m) : MK X c σ m rFind3 (rS s) [rS t, rI i] K := fun τ H G v vs Q E ro rv q => by
  cases str_of ro
  obtain ⟨u1, u2, rfl, r1, r2⟩ := two_of rv
  cases str_of r1
  cases int_of r2
  exact ⟨_, _, i, rfl, rfl, q.now kk E (.dat .int)⟩
/-! ### s[::-1] of a text -/
theorem d_revS {kk : Nat} {p1 p2 p3 : Pos} (h : DE X c σ m e (fun r m1 => ∃ s, r = rS s ∧ s.length ≤ 1000000 ∧ K (rS s.reverse) m1)) : DE X c σ m (.Subscript e (.Slice none none (some (.UnaryOp .USub (.Constant (.int 1) kk p1) p2)) p3) pos) K := fun pins s τ H G Q I E q => by
  refine Subscript_ (thn (h pins s τ H G (fun v H1 => ∃ z m1 G1, v = .str (sOf z) ∧ z.length ≤ 1000000 ∧ Ex G G1 ∧ EnvOk X c σ m1 G1 τ H1 ∧ K (rS z.reverse) m1) I E fun r m1 G1 H1 v ⟨z, er, hl, hk⟩ x1 E1 rv => by subst er; exact ⟨z, m1, G1, str_of rv, hl, x1, E1, hk⟩) fun u s1 ⟨v, H1, I1, ru, z, m1, G1, ev, hl, x1, E1, hk⟩ => ?_)
  subst ev
  obtain ⟨t, rfl⟩ := ru
  have hst : PO X (some (.UnaryOp .USub (.Constant (.int 1) kk p1) p2)) (tPart (tUn (L2.rU fun i => .int (-i)) (tC (.int 1)))) := po_some (pe_un un_neg pe_int)
  refine wpAny_Slice (thn (po_none.run pins s1 τ H1 (fun o H2 => o = none ∧ H2 = H1) I1 ⟨rfl, rfl⟩) fun vl s2 ⟨l, H2, I2, pl, el, e2⟩ => ?_)
  subst el e2
  refine thn (po_none.run pins s2 τ H2 (fun o H3 => o = none ∧ H3 = H2) I2 ⟨rfl, rfl⟩) fun vu s3 ⟨w, H3, I3, pu, eu, e3⟩ => ?_
  subst eu e3
  refine thn (hst.run pins s3 τ H3 (fun o H4 => o = some (-1) ∧ H4 = H3) I3 ⟨1, rfl, -1, rfl, rfl, rfl⟩) fun vs s4 ⟨o, H4, I4, ps, eo, e4⟩ => ?_
  subst eo e4
  obtain ⟨l, rfl, el⟩ := IsPart.raw pl
  obtain ⟨w, rfl, ew⟩ := IsPart.raw pu
  obtain ⟨st, rfl, es⟩ := IsPart.raw ps
  have I5 : Inv X pins τ H4 { s4 with heap := s4.heap.push { cls := .type "slice", data := .fields #[partValue l, partValue w, partValue st] } } := I4.kept (t' := s4.toks) fun b ob q => Heap.get?_push_of_some _ q
  show wpAny (model X.prog X.w) X.A (subscriptTail e (.Slice none none (some (.UnaryOp .USub (.Constant (.int 1) kk p1) p2)) p3) (.str (sOf z) t) (.ref s4.heap.objs.size)) (EP X pins τ Q) X.xe _
  have est : ((st.map (·.1)).getD 1) = -1 := by rw [es]; rfl
  refine tail_any (ops := [.str (sOf z) t, .ref s4.heap.objs.size]) (typeIs_str _ _ _) (PySem.F.slot_str_getitem.lookup) ?_ (by with_unfolding_all rfl)
  refine wpAny_getItem_str_slice (l := l) (u := w) (st := st) ⟨_, Heap.get?_push_size _ rfl, rfl, rfl⟩ (by rw [est]; rfl) ?_
  have epick : slicePicked (sOf z) l w st = (List.range (sOf z).length).map fun k => (sOf z).length - 1 - k := by
    unfold slicePicked
    rw [el, ew, est]
    exact picked_rev _
  have erev : ((slicePicked (sOf z) l w st).filterMap ((sOf z).cps[·]?)).toArray = z.reverse.toArray := by
    rw [epick, sOf_len]
    congr 1
    have h1 := PySem.W.krv_range z.length
    rw [h1, List.filterMap_reverse]
    congr 1
    have h2 := PySem.W.krv_all z.toArray
    simpa [sOf] using h2
  unfold sliceMade
  rw [est]
  rw [if_neg (by simp)]
  rw [erev]
  refine ⟨?_, .str (sOf z.reverse), H4, I5.tok _, ⟨_, rfl⟩, q.mono x1 |>.now hk E1 (.dat .str)⟩
  show z.reverse.toArray.size ≤ _
  rw [List.size_toArray, List.length_reverse]
  exact Nat.le_trans hl (by decide)
end
end D2
/-! ## D2Dict -/
set_option Elab.async false
set_option linter.all false
set_option maxRecDepth 100000
set_option maxHeartbeats 2000000
/-! dicts with int and text keys, sorted lists of data -/
namespace D2
open PySem PySem.Spec PyProof.Rows L2
/-- d[k] = r -/
def putR (kvs : List (Key × R)) (k : Key) (r : R) : List (Key × R) :=
  if (kvs.any fun kv => decide (kv.1 = k)) = true then kvs.map (fun kv => if kv.1 = k then (kv.1, r) else kv) else kvs ++ [(k, r)]
section
variable {Kf : PySem.W.Frag} {G : Hp}
theorem RelK.keys : ∀ {rs : List (Key × R)} {vs : List (Key × V)}, RelK Kf G rs vs → rs.map (·.1) = vs.map (·.1)
  | _, _, .nil => rfl
  | _, _, .cons _ t => by simp [RelK.keys t]
theorem RelK.length {rs : List (Key × R)} {vs : List (Key × V)} (h : RelK Kf G rs vs) : rs.length = vs.length := by
  have := congrArg List.length h.keys
  simpa using this
theorem RelK.app : ∀ {rs : List (Key × R)} {vs : List (Key × V)} {k : Key} {r : R} {v : V}, RelK Kf G rs vs → RelR Kf G r v → RelK Kf G (rs ++ [(k, r)]) (vs ++ [(k, v)])
  | _, _, _, _, _, .nil, h => .cons h .nil
  | _, _, _, _, _, .cons h' t, h => .cons h' (t.app h)
theorem RelK.over {k : Key} {r : R} {v : V} (h : RelR Kf G r v) : ∀ {rs : List (Key × R)} {vs : List (Key × V)}, RelK Kf G rs vs → RelK Kf G (rs.map fun kv => if kv.1 = k then (kv.1, r) else kv) (vs.map fun kv => if kv.1 = k then (kv.1, v) else kv)
  | _, _, .nil => .nil
  | _, _, @RelK.cons _ _ k0 r0 v0 rs vs h' t => by
    simp only [List.map_cons]
    by_cases e : k0 = k
    · rw [if_pos e, if_pos e]; exact .cons h (RelK.over h t)
    · rw [if_neg e, if_neg e]; exact .cons h' (RelK.over h t)
theorem any_keys {α : Type} (kvs : List (Key × α)) (k : Key) : (kvs.any fun kv => decide (kv.1 = k)) = (kvs.map (·.1)).any fun x => decide (x = k) := by
  rw [List.any_map]; rfl
theorem RelK.put {rs : List (Key × R)} {vs : List (Key × V)} {k : Key} {r : R} {v : V} (h : RelK Kf G rs vs) (hv : RelR Kf G r v) : RelK Kf G (putR rs k r) (putK vs k v) := by
  unfold putR putK
  rw [any_keys rs, any_keys vs, h.keys]
  by_cases c : ((vs.map (·.1)).any fun x => decide (x = k)) = true
  · rw [if_pos c, if_pos c]; exact RelK.over hv h
  · rw [if_neg c, if_neg c]; exact h.app hv
end
/-- a key as a value -/
def kR : Key → R
  | .inl i => rI i
  | .inr z => rS (lit z)
theorem kR_rel {Kf : PySem.W.Frag} {G : Hp} : ∀ k : Key, RelR Kf G (kR k) (kV k)
  | .inl i => .dat .int
  | .inr z => .dat rep_str
/-- a value as a key -/
inductive IsKey : R → Key → Prop
  | int {i} : IsKey (rI i) (.inl i)
  | str {s} : IsKey (rS s) (.inr (sOf s))
theorem IsKey.v {Kf : PySem.W.Frag} {G : Hp} {r : R} {k : Key} {v : V} (h : IsKey r k) (rv : RelR Kf G r v) : v = kV k := by
  cases h with
  | int => exact int_of rv
  | str => exact str_of rv
section
variable {X : Cx} {c : Ct} {σ : Sl} {m m' : Mem} {x : Str} {k : Nat} {e a b : Expr} {K : R → Mem → Prop} {px pos : Pos} {en : En}
/-- {k: v} -/
theorem d_disp1 {ke ve : Expr} (h : ∀ p, DE X c σ ((p, .dk []) :: m) ke (fun rk m1 => DE X c σ m1 ve (fun rv m2 => ∃ k m3, IsKey rk k ∧ Chg m2 p (.dk []) (.dk [(k, rv)]) m3 ∧ K (.own p) m3))) : DE X c σ m (.Dict [some ke] [ve] pos) K := by
  refine de_of (pe_disp (pps_cons (pe_t (X := X) (c := c) (e := ke)) (pe_t (X := X) (c := c) (e := ve)) pps_nil) rfl rfl (by simp) (by simp)) fun τ H G Q E q p hp => ?_
  refine ⟨σ, _, G, _, E.new hp (.dk .nil), h p, fun rk m1 G1 H1 v1 d x1 E1 r1 => ?_⟩
  refine ⟨σ, m1, G1, _, E1, d, fun rv m2 G2 H2 v2 ⟨kk, m3, hk, hc, z⟩ x2 E2 r2 => ?_⟩
  obtain ⟨_, ho, hh, ro⟩ := E2.mem _ hc.mem
  cases ro with | dk ro =>
  cases ro
  refine ⟨hh, [(kk, v2)], ?_, by simp, ?_⟩
  · rw [hk.v r1] <;> rfl
  · show Q (.ref p) (L2.upd H2 p (.dK (putK [] kk v2)))
    exact q _ m3 G2 _ _ z (x1.trans x2) (E2.chg hc (.dk (.cons r2 .nil))) .own
/-- d[k] = v -/
theorem ds_setD (L : Live X c k) {px : Pos} (h : DE X c σ m e (fun rv m1 => DE X c σ m1 a (fun ro m2 => DE X c σ m2 b (fun ri m3 => ∃ q kvs kk m4, ro = .own q ∧ IsKey ri kk ∧ Chg m3 q (.dk kvs) (.dk (putR kvs kk rv)) m4 ∧ kvs.length < 1000000 ∧ en.nx σ m4))))
    (hs : swapsWithSole [.Subscript a b px] e pos.line X.env = pure false := by rfl) (hw : swappedStores [.Subscript a b px] e X.env = pure none := by rfl) (h1 : (assignEach [.Subscript a b px] X.env).map (·.2) = [assign (.Subscript a b px) X.env] := by rfl)
    (ha : ∀ v, assign (.Subscript a b px) X.env v = (do
      let ov ← holding [v] (eval a X.env)
      let iv ← holding [v, ov] (eval b X.env)
      standAt px
      holding [v, ov, iv] (setItem ov iv v)
      release [v, ov, iv] []) := by intro _; rfl) :
    DS X c σ m (.Assign [.Subscript a b px] e pos) en := fun F pins s τ H G D I E fx ft => by
  refine (ps_asg (pe_t (c := c)) (pg_sub (pe_t (c := c)) (pe_t (c := c)) (set_dict (by have := L.room.units; omega)) ha) hs hw h1).run pins s τ H D I ?_
  refine ⟨σ, m, G, _, E, h, fun rv m1 G1 H1 v d1 x1 E1 r1 => ?_⟩
  refine ⟨σ, m1, G1, _, E1, d1, fun ro m2 G2 H2 vo d2 x2 E2 r2 => ?_⟩
  refine ⟨σ, m2, G2, _, E2, d2, fun ri m3 G3 H3 vi ⟨q, kvs, kk, m4, e1, hk, hc, hl, z⟩ x3 E3 r3 => ?_⟩
  subst e1
  have r2' := r2.mono x3
  cases r2'
  obtain ⟨_, ho, hh, rr⟩ := E3.mem _ hc.mem
  cases rr with | @dk _ vs rr =>
  rw [hk.v r3]
  refine ⟨q, _, rfl, DPut.k hh (by rw [← rr.length]; exact Nat.lt_of_lt_of_le hl (by decide)), ?_⟩
  exact ft.nx σ m4 G3 τ _ z (((fx.trans x1).trans x2).trans x3) (E3.chg hc (.dk (rr.put (r1.mono (x2.trans x3)))))
/-- list(d) -/
theorem d_listD (L : Live X c k) (hg : Gl X "list") (hm : X.mg "list" = none) (h : DE X c σ m e (fun r m1 => ∃ q kvs m2, r = .own q ∧ Has m1 q (.dk kvs) m2 ∧ ∀ p, K (.own p) ((p, .lst (kvs.map fun kv => kR kv.1)) :: m1)))
    (hst : starEach [e] X.env = (false, eval e X.env) :: starEach [] X.env := by rfl) : DE X c σ m (.Call (.Name "list" px) [e] [] pos) K :=
  de_callT (call_listD L.calm) hg hm (by decide +kernel) (da_cons (h.imp fun r m1 ⟨q0, kvs, m2, er, hh, z⟩ => da_nil fun τ H G vs Q E rv q => by
    subst er
    obtain ⟨v, rfl, r1⟩ := one_of rv
    cases r1
    obtain ⟨_, ho, hho, ro⟩ := E.mem _ hh.mem
    cases ro with | @dk _ us ro =>
    refine ⟨q0, us, rfl, .inl hho, fun p hp => ?_⟩
    have rel : ∀ {rs : List (Key × R)} {vs : List (Key × V)}, RelK X.K G rs vs → RelRs X.K G (rs.map fun kv => kR kv.1) (vs.map fun kv => kV kv.1) := fun {rs vs} h => by
      induction h with
      | nil => exact .nil
      | @cons kk r v rs vs _ _ ih => exact .cons (kR_rel kk) ih
    exact q _ _ G _ _ (z p) (Ex.refl G) (E.new hp (.lst (rel ro))) .own) hst) (he := hst)
end

/-! ### sorted(a list of data) -/
section
variable {X : Cx}
/-- g says what the items read as -/
def rSortedD (K : PySem.W.Frag) : List V → Hp → VK → Prop := fun xs H Q => ∃ (a : Addr) (ys : List (V × PyData)), xs = [.ref a] ∧ SqL K H a (ys.map (·.1)) ∧ DpAll K H (ys.map (·.1)) (ys.map (·.2)) ∧ PySem.W.AllAlike (ys.map (·.2)) ∧ PySem.W.Sortable (ys.map (·.2)) ∧ ys.length ≤ 1000000 ∧ (∀ y ∈ ys, y.2.depth ≤ 60) ∧
  ∀ p, H p = none → Q (.ref p) (L2.upd H p (.lst ((ys.mergeSort (PySem.W.dataLe false (·.2))).map (·.1))))
theorem call_sortedL (hu : X.A.units + 64 < cLine) : CallR X (.builtin "sorted") (rSortedD X.K) := by
  intro pins s τ H xs us Q I r h
  obtain ⟨a, ys, ex, hq, hdp, hal, hso, hl, hdep, q⟩ := h
  subst ex
  obtain rfl := Vals.ref1 r
  obtain ⟨its, rv, pl, hz⟩ := I.list hq
  obtain ⟨as, rd⟩ := Dp.readsAll I _ _ _ hdp rv
  have e1 : ∀ {ys : List (V × PyData)} {its : List Value} {as : List Addr}, Vals (ys.map (·.1)) its → ReadsAll s.heap its (ys.map (·.2)) as →
      PySem.W.EachIs (fun u y => L2.RelV y.1 u) its ys ∧ PySem.W.EachIs (fun u y => ∃ as, Reads s.heap u y.2 as) its ys := by
    intro ys
    induction ys with
    | nil => intro its as r1 r2; cases r1; exact ⟨.nil, .nil⟩
    | cons y ys ih =>
      intro its as r1 r2
      cases r1 with | cons p ps =>
      cases r2 with | cons t ts =>
      obtain ⟨i1, i2⟩ := ih ps ts
      exact ⟨.cons p i1, .cons ⟨_, t⟩ i2⟩
  obtain ⟨g1, g2⟩ := e1 rv rd
  refine PySem.W.sorted_data (bs := ys) (enc := (·.2)) (R := fun u y => L2.RelV y.1 u) pl.isList g1 g2 hal hso (Nat.le_trans hl (by decide)) (fun y hy => by have := hdep y hy; omega) fun out ho eo => ?_
  obtain ⟨cn, hcn⟩ := PyProof.Rows.sortedAll_at s.heap its out.toArray
  have g3 : ∀ {ys : List (V × PyData)} {out : List Value}, PySem.W.EachIs (fun u y => L2.RelV y.1 u) out ys → Vals (ys.map (·.1)) out := by
    intro ys
    induction ys with
    | nil => intro out r; cases r; exact .nil
    | cons y ys ih => intro out r; cases r with | cons p ps => exact .cons p (ih ps)
  have hlen : ((ys.mergeSort (PySem.W.dataLe false (·.2))).map (·.1)).length ≤ sizeLine := by
    rw [List.length_map, List.length_mergeSort]; exact Nat.le_trans hl (by decide)
  exact ⟨.ref (s.heap.objs.size + 1), _, I.laid (a := s.heap.objs.size + 1) (o := .lst ((ys.mergeSort (PySem.W.dataLe false (·.2))).map (·.1))) (t' := s.toks) (fun b o e => PyProof.Rows.sortedAll_old e) (Nat.le_succ _) ⟨hlen, out, cn, g3 eo, hcn⟩, rfl, q _ (I.hok.fresh (Nat.le_succ _))⟩
variable {c : Ct} {σ : Sl} {m : Mem} {k : Nat} {e : Expr} {K : R → Mem → Prop} {px pos : Pos} {β : Type} {f : β → D} {g : β → PyData}
theorem d_sorted (L : Live X c k) (hg : Gl X "sorted") (hm : X.mg "sorted" = none)
    (h : DE X c σ m e (fun r m1 => ∃ xs : List β, VL m1 r (xs.map fun x => .dat (f x)) ∧ (∀ x, PV m1 (.dat (f x)) (g x)) ∧ PySem.W.AllAlike (xs.map g) ∧ PySem.W.Sortable (xs.map g) ∧ xs.length ≤ 1000000 ∧ (∀ x ∈ xs, (g x).depth ≤ 60) ∧
      ∀ p, K (.own p) ((p, .lst ((xs.mergeSort (PySem.W.dataLe false g)).map fun x => .dat (f x))) :: m1)))
    (hst : starEach [e] X.env = (false, eval e X.env) :: starEach [] X.env := by rfl) : DE X c σ m (.Call (.Name "sorted" px) [e] [] pos) K :=
  de_callB (call_sortedL L.room.units) hg hm (by decide +kernel) (da_cons (h.imp fun r m1 ⟨xs, hv, hp, hal, hso, hl, hd, z⟩ => da_nil fun τ H G vs Q E rv q => by
    obtain ⟨v, rfl, r1⟩ := one_of rv
    obtain ⟨a, us, rfl, hs, rr⟩ := hv.at E r1
    have hlen : us.length = xs.length := by rw [← rr.length, List.length_map]
    have pvs : ∀ xs : List β, PVs m1 (xs.map fun x => .dat (f x)) (xs.map g) := fun xs => by
      induction xs with
      | nil => exact .nil
      | cons x xs ih => exact .cons (hp x) ih
    let zs : List (V × β) := us.zip xs
    let ys : List (V × PyData) := zs.map fun z => (z.1, g z.2)
    have y1 : ys.map (·.1) = us := by
      show ((us.zip xs).map fun z => (z.1, g z.2)).map (·.1) = us
      rw [List.map_map]
      show (us.zip xs).map Prod.fst = us
      rw [List.map_fst_zip]
      omega
    have y2 : ys.map (·.2) = xs.map g := by
      show ((us.zip xs).map fun z => (z.1, g z.2)).map (·.2) = _
      rw [List.map_map]
      show (us.zip xs).map (g ∘ Prod.snd) = _
      rw [← List.map_map, List.map_snd_zip]
      omega
    refine ⟨a, ys, rfl, by rw [y1]; exact hs, by rw [y1, y2]; exact PVs.dp E (pvs xs) rr, by rw [y2]; exact hal, by rw [y2]; exact hso, ?_, ?_, fun p hp' => ?_⟩
    · have hy : us.length = ys.length := by rw [← y1]; simp only [List.length_map]
      rw [← hy, hlen]
      exact hl
    · intro y hy
      obtain ⟨w, hw, rfl⟩ := List.mem_map.mp hy
      exact hd w.2 (List.of_mem_zip hw).2
    · have srt : (ys.mergeSort (PySem.W.dataLe false (·.2))).map (·.1) = (zs.mergeSort (PySem.W.dataLe false fun z => g z.2)).map (·.1) := by
        have q1 : (zs.mergeSort (PySem.W.dataLe false fun z => g z.2)).map (fun z => (z.1, g z.2)) = ys.mergeSort (PySem.W.dataLe false (·.2)) := List.map_mergeSort fun _ _ _ _ => rfl
        rw [← q1, List.map_map]
        rfl
      have srt2 : (zs.mergeSort (PySem.W.dataLe false fun z => g z.2)).map (·.2) = xs.mergeSort (PySem.W.dataLe false g) := by
        have q1 : (zs.mergeSort (PySem.W.dataLe false fun z => g z.2)).map (·.2) = (zs.map (·.2)).mergeSort (PySem.W.dataLe false g) := List.map_mergeSort fun _ _ _ _ => rfl
        rw [q1]
        congr 1
        show (us.zip xs).map Prod.snd = xs
        rw [List.map_snd_zip]
        omega
      have rel : ∀ {l : List (V × β)}, (∀ z ∈ l, RelR X.K G (.dat (f z.2)) z.1) → RelRs X.K G ((l.map (·.2)).map fun x => .dat (f x)) (l.map (·.1)) := fun {l} hl => by
        induction l with
        | nil => exact .nil
        | cons z l ih => exact .cons (hl z List.mem_cons_self) (ih fun w hw => hl w (List.mem_cons_of_mem _ hw))
      have allz : ∀ {us : List V} {xs : List β}, RelRs X.K G (xs.map fun x => .dat (f x)) us → ∀ z ∈ us.zip xs, RelR X.K G (.dat (f z.2)) z.1 := fun {us xs} h => by
        intro z hz
        induction xs generalizing us with
        | nil => simp at hz
        | cons x xs ih =>
          cases h with | cons h1 h2 =>
          rw [List.zip_cons_cons] at hz
          rcases List.mem_cons.mp hz with rfl | hz
          · exact h1
          · exact ih h2 hz
      have R1 := rel (l := zs.mergeSort (PySem.W.dataLe false fun z => g z.2)) fun z hz => allz rr z ((List.mergeSort_perm _ _).mem_iff.mp hz)
      rw [srt2] at R1
      rw [srt]
      exact q _ _ G _ _ (z p) (Ex.refl G) (E.new hp' (.lst R1)) .own) hst) (he := hst)
end
end D2
/-! ## D2Comp2 -/
set_option Elab.async false
set_option linter.all false
set_option maxRecDepth 100000
set_option maxHeartbeats 2000000
/-! comprehensions over a dict's keys, of two clauses -/
namespace D2
open PySem PySem.Spec PyProof.Rows L2
theorem Has.chg {m m' : Mem} {a : Addr} {o : O} (o' : O) (h : Has m a o m') : ∃ m2, Chg m a o o' m2 ∧ Has m2 a o' m' := by
  induction h with
  | here => exact ⟨_, .here, .here⟩
  | there _ ih => obtain ⟨m2, h1, h2⟩ := ih; exact ⟨_, .there h1, .there h2⟩
def kD : Key → D
  | .inl i => .int i
  | .inr z => .str (lit z)
theorem kD_rep {Kf : PySem.W.Frag} {G : Hp} : ∀ k : Key, Rep Kf G (kD k) (kV k)
  | .inl i => .int
  | .inr z => rep_str
section
variable {X : Cx} {c : Ct} {σ σb : Sl} {m m0 : Mem} {scope : Scope} {own : List (Str × Nat)} {tg elt : Expr} {ifs : List Expr} {g : TG} {A : R → (Sl → Prop) → Prop} {K : R → Mem → Prop} {k : Nat} {pos px : Pos} {x : Str} {a : Addr}
/-- an object that is no one's changes -/
theorem EnvOk.poke {G : Hp} {τ : L2.St} {H : Hp} {u : HO} (e : EnvOk X c σ m G τ H) (ha : a ∉ m.map (·.1)) (hg : G a = none) (hc : a ∈ c.mu ∨ c.H0 a = none) : EnvOk X c σ m G τ (L2.upd H a u) where
  nm := e.nm
  names := e.names
  len := e.len
  sub := e.sub.upd hg
  nd := e.nd
  mem := fun q hq => by
    obtain ⟨g1, ho, hh, ro⟩ := e.mem q hq
    have ne : q.1 ≠ a := fun z => ha (by rw [← z]; exact List.mem_map_of_mem (f := (·.1)) hq)
    exact ⟨g1, ho, by rw [L2.upd_ne ne]; exact hh, ro⟩
  fr := fun b w q hm => by
    by_cases eb : b = a
    · subst eb
      rcases hc with z | z
      · exact absurd z hm
      · rw [z] at q; cases q
    · rw [L2.upd_ne eb]; exact e.fr b w q hm
  th := fun b hm => by
    by_cases eb : b = a
    · subst eb; rw [L2.upd_same]; exact fun z => by cases z
    · rw [L2.upd_ne eb]; exact e.th b hm
  ok := e.ok
  gn := e.gn
  g0 := e.g0
  vis := e.vis
  sl := e.sl
theorem de_lcD {kvs : List (Key × R)} (P : Nat → List R → Mem → Prop) (L : Live X c k) (nd : X.N.Nodup) (ok : BlkOk X.N X.env.scope scope own) (hown : ∀ p ∈ own, scope.names.lookup p.1 = some .local) (hb : Blk scope σ σb) (t : CTgt X scope own σb tg g A)
    (hx : Lk σ x (.own a)) (hc : Has m a (.dk kvs) m0) (hP : P 0 [] m0)
    (turn : ∀ i d rs m', (kvs.map fun kv => kD kv.1)[i]? = some d → P i rs m' → A (.dat d) (fun σ2 => Turn1 X scope k σ2 m' ifs elt (fun r m3 => P (i + 1) (rs ++ [r]) m3) (fun m2 => P (i + 1) rs m2))) (hl : kvs.length ≤ 1000000)
    (hend : ∀ rs m' p, P (kvs.map fun kv => kD kv.1).length rs m' → K (.own p) ((p, .lst rs) :: m')) : DE X c σ m (.ListComp elt [⟨tg, .Name x px, ifs, 0⟩] scope pos) K := fun pins s τ H G Q I E q => by
  obtain ⟨i, v, h1, h2, h3, hv⟩ := E.get hx
  obtain ⟨hd, hcd⟩ := E.nm.dbg x (List.mem_of_getElem? h1)
  cases h3
  obtain ⟨ga, ho, hh, ro⟩ := E.mem _ hc.mem
  cases ro with | @dk _ vs ro =>
  refine (pe_lock (pe_lc L.calm nd (pi_keys (pe_var h1 hv hd hcd)) ok (fun s H C cl fp => t.pg ok hown nd L.calm s H C cl fp) (fun s H C cl fp => pts_U s H C cl fp) (fun s H C cl fp => pe_U s H C cl fp) (by intro _; rfl))).run pins s τ H Q I ?_
  refine ⟨a, .dK vs, hh, trivial, fun od => ?_⟩
  obtain ⟨m2, hc2, hr2⟩ := hc.chg (.any (.frz od (.dK vs)))
  have E1 := (E.chg hc2 (RelO.any (o := .frz od (.dK vs)))).rest hr2
  have na : a ∉ m0.map (·.1) := fun z => by
    obtain ⟨p, hp, e⟩ := List.mem_map.mp z
    exact hc.notIn E.nd p hp e
  have acc : a ∈ c.mu ∨ c.H0 a = none := E.ok _ hc.mem
  have kk : KeepK [(a, HO.frz od (.dK vs))] m0 G (L2.upd H a (.frz od (.dK vs))) := fun p hp => by
    rw [List.mem_singleton.mp hp]
    exact ⟨L2.upd_same, na, ga⟩
  have lens : kvs.length = vs.length := ro.length
  refine lc_read (K := K) (ds := kvs.map fun kv => kD kv.1) [(a, HO.frz od (.dK vs))] P L ok hown hb t turn (by rw [List.length_map]; exact hl) hend E1 (fun R' hR => ?_) fun r m' G' H' w z x' E' rv kk' => ?_
  · refine ⟨.ref a, h2, a, od, rfl, .inl ⟨vs, L2.upd_same, hR _ m0 G _ _ ⟨rfl, hP⟩ (Ex.refl G) E1 ?_ kk⟩⟩
    intro j H2 _ hk
    have hka := hk _ (List.mem_singleton.mpr rfl)
    refine ⟨fun d hd' => ⟨⟨hka, ?_⟩, fun y H3 ⟨e3, kq, vq, ej, ey⟩ => .inl ⟨e3, ?_⟩⟩, fun hle => ⟨hka, by rw [List.length_map] at hle; omega⟩⟩
    · have := (List.getElem?_eq_some_iff.mp hd').1
      rw [List.length_map] at this
      omega
    · have ks : kvs.map (·.1) = vs.map (·.1) := ro.keys
      have h5 : (kvs.map fun kv => kD kv.1)[j]? = (vs.map fun kv => kD kv.1)[j]? := by
        have : (kvs.map (·.1)).map kD = (vs.map (·.1)).map kD := by rw [ks]
        rw [List.map_map, List.map_map] at this
        exact congrArg (·[j]?) this
      rw [h5, List.getElem?_map, ej] at hd'
      cases hd'
      rw [ey]
      exact kD_rep kq
  · obtain ⟨k1, k2, k3⟩ := kk' _ (List.mem_singleton.mpr rfl)
    exact ⟨k1, q r m' G' _ w z x' (E'.poke k2 k3 acc) rv⟩
end

/-! ### two clauses -/
/-- a new list is taken as it is, or frozen -/
inductive Now (Kf : PySem.W.Frag) (m : Mem) (p : Addr) (rs : List R) : R → Mem → Prop
  | own : Now Kf m p rs (.own p) ((p, .lst rs) :: m)
  | frz {d m'} (h : Frz ((p, .lst rs) :: m) (.own p) d m') : Now Kf m p rs (.dat d) m'
theorem Now.env {X : Cx} {c : Ct} {σ : Sl} {Kf : PySem.W.Frag} {m : Mem} {p : Addr} {rs : List R} {r2 : R} {m2 : Mem} (h : Now Kf m p rs r2 m2) {G : Hp} {τ : L2.St} {H : Hp} {v : V} (E : EnvOk X c σ ((p, .lst rs) :: m) G τ H) (rv : RelR X.K G (.own p) v) : ∃ G', Ex G G' ∧ EnvOk X c σ m2 G' τ H ∧ RelR X.K G' r2 v := by
  cases h with
  | own => exact ⟨G, Ex.refl G, E, rv⟩
  | frz h =>
    obtain ⟨G2, x2, E2, r2⟩ := h.env E rv
    exact ⟨G2, x2, E2, .dat r2⟩
section
variable {X : Cx} {c : Ct} {σ σb : Sl} {m : Mem} {scope : Scope} {own : List (Str × Nat)} {tg elt iter iter1 : Expr} {ifs ifs1 : List Expr} {g : TG} {A : R → (Sl → Prop) → Prop} {K : R → Mem → Prop} {k j1 : Nat} {pos p1 : Pos} {y1 : Str}
def tiU (X : Cx) (scope : Scope) (tg1 iter1 : Expr) : TI := fun τ H R => ∀ (s : Shared) (H0 : Hp) (C : Addr) (cl : List (Str × Addr)) (fp : List Addr) (pins : List (Addr × Obj)) (s1 : Shared), Inv (bx X scope s H0 C cl fp) pins τ H s1 →
  wpAny (model X.prog X.w) X.A (eval iter1 (bx X scope s H0 C cl fp).env) (fun v s1 => wpAny (model X.prog X.w) X.A (pyIter v) (PIE (bx X scope s H0 C cl fp) pins τ tg1 R) (fun _ _ => False) s1) (fun _ _ => False) s1
theorem pi_U {tg1 : Expr} (s : Shared) (H0 : Hp) (C : Addr) (cl : List (Str × Addr)) (fp : List Addr) : PI (bx X scope s H0 C cl fp) tg1 iter1 (tiU X scope tg1 iter1) := ⟨fun pins s1 τ H R I h => h s H0 C cl fp pins s1 I⟩
/-- the inner clause, run behind the outer item; rs is the list so far -/
def In2 (X : Cx) (scope : Scope) (k : Nat) (y1 : Str) (p1 : Pos) (j1 : Nat) (iter1 : Expr) (ifs1 : List Expr) (elt : Expr) (σ2 : Sl) (m : Mem) (rs : List R) (out : List R → Mem → Prop) : Prop :=
  ∃ (f1 : R → Sl) (ds1 : List D) (P2 : Nat → List R → Mem → Prop), PutF σ2 y1 f1 ∧ σ2[j1]? = some (y1, none) ∧
    (∀ Xb c', IsBlk X scope Xb → Live Xb c' k → DIt Xb c' σ2 m (.Name y1 p1) iter1 (fun ds' m1 => ds' = ds1 ∧ P2 0 rs m1)) ∧
    (∀ jj d1 rs' m', ds1[jj]? = some d1 → P2 jj rs' m' → ∀ Xb c', IsBlk X scope Xb → Live Xb c' k → DTs Xb c' (f1 (.dat d1)) m' ifs1 (fun b m4 => (b = true → ∀ Xe, IsBlk X scope Xe → Live Xe c' k → DE Xe c' (f1 (.dat d1)) m4 elt (fun r m5 => P2 (jj + 1) (rs' ++ [r]) m5)) ∧ (b = false → P2 (jj + 1) rs' m4))) ∧
    (∀ jj rs' m', P2 jj rs' m' → rs'.length ≤ 900000) ∧ (∀ rs' m', P2 ds1.length rs' m' → out rs' m')
theorem EB.wipe1 {τ : L2.St} {H G : Hp} {σ2 : Sl} {o : Option R} {z : Str} (E : EB X scope c σ2 m G τ H) (h : σ2[j1]? = some (z, none)) : EB X scope c σ2 m G (wipe τ [j1]) H := by
  refine ⟨E.nm, E.names, by rw [wipe_length]; exact E.len, E.sub, E.nd, E.mem, E.fr, E.th, E.ok, E.gn, E.g0, E.vis, fun i x r hi => ?_⟩
  obtain ⟨v, h1, h2⟩ := E.sl i x r hi
  refine ⟨v, ?_, h2⟩
  rw [wipe_at]
  · exact h1
  · intro hm
    rw [List.mem_singleton.mp hm, h] at hi
    cases hi
theorem lc2_read {ds : List D} {wi : TI} (P : Nat → List R → Mem → Prop) (L : Live X c k) (ok : BlkOk X.N X.env.scope scope own) (hown : ∀ p ∈ own, scope.names.lookup p.1 = some .local) (hb : Blk scope σ σb) (t : CTgt X scope own σb tg g A) (hj1 : (y1, j1) ∈ own)
    (turn : ∀ i d rs m', ds[i]? = some d → P i rs m' → A (.dat d) (fun σ2 => ∀ Xb c', IsBlk X scope Xb → Live Xb c' k → DTs Xb c' σ2 m' ifs (fun b m2 => (b = true → In2 X scope k y1 p1 j1 iter1 ifs1 elt σ2 m2 rs (P (i + 1))) ∧ (b = false → P (i + 1) rs m2))))
    (hend : ∀ rs m' p, P ds.length rs m' → K (.own p) ((p, .lst rs) :: m')) {τ : L2.St} {H G : Hp} {Q : VK} (E : EnvOk X c σ m G τ H)
    (hw : ∀ R' : It → Hp → Prop, (∀ ds' m1 G1 H1 J, ds' = ds ∧ P 0 [] m1 → Ex G G1 → EnvOk X c σ m1 G1 τ H1 → Walks X.K J ds' G1 → R' J H1) → wi τ H R') (q : ∀ r m' G' H' v, K r m' → Ex G G' → EnvOk X c σ m' G' τ H' → RelR X.K G' r v → Q v H') :
    tLc2 wi g (ttU X scope ifs) (tiU X scope (.Name y1 p1) iter1) (gName j1) (ttU X scope ifs1) (teU X scope elt) (own.map (·.2)) [j1] τ H Q := by
  refine hw _ fun ds' m1 G1 H1 J ⟨ed, z⟩ x1 E1 wk => ?_
  subst ed
  intro D hD
  refine ⟨fun i n H' => n = ds'.length - i ∧ i ≤ ds'.length ∧ ∃ rs m' G', P i rs m' ∧ EnvOk X c σ ((D, .lst rs) :: m') G' τ H' ∧ Ex G1 G', ⟨_, rfl, Nat.zero_le _, [], m1, G1, z, E1.new hD (.lst .nil), Ex.refl G1⟩, ?_⟩
  rintro i n H' ⟨rfl, hi, rs, m', G', hP, E', x'⟩
  obtain ⟨w1, w2⟩ := wk i H' (x'.trans E'.sub)
  by_cases hlt : i < ds'.length
  · obtain ⟨go, yl⟩ := w1 ds'[i] (List.getElem?_eq_getElem hlt)
    refine .inr ⟨go, fun H2 => ∃ rs2 m2 G2, P (i + 1) rs2 m2 ∧ EnvOk X c σ ((D, .lst rs2) :: m2) G2 τ H2 ∧ Ex G1 G2, fun H2 ⟨rs2, m2, G2, h1, h3, h4⟩ => ⟨ds'.length - (i + 1), by omega, rfl, hlt, rs2, m2, G2, h1, h3, h4⟩, fun x H2 hy => ?_⟩
    have T := turn i ds'[i] rs m' (List.getElem?_eq_getElem hlt) hP
    have main : ∀ G3 H3, Ex G' G3 → EnvOk X c σ ((D, .lst rs) :: m') G3 τ H3 → RelR X.K G3 (.dat ds'[i]) x →
        g x (wipe τ (own.map (·.2))) H3 fun τ2 H4 => wipe τ2 (own.map (·.2)) = wipe τ (own.map (·.2)) ∧ ttU X scope ifs τ2 H4 fun b H5 =>
          if b = true then tiU X scope (.Name y1 p1) iter1 τ2 H5 fun J1 H6 => ∃ W1 : Nat → Nat → Hp → Prop, (∃ m, W1 0 m H6) ∧ ∀ jj kk H, W1 jj kk H →
            (J1.stop jj H ∧ ∃ rs2 m2 G2, P (i + 1) rs2 m2 ∧ EnvOk X c σ ((D, .lst rs2) :: m2) G2 τ H ∧ Ex G1 G2) ∨ (J1.go jj H ∧ ∃ Nx1 : Hp → Prop, (∀ H', Nx1 H' → ∃ k', k' < kk ∧ W1 (jj + 1) k' H') ∧ ∀ x H', J1.yld jj H x H' → gName j1 x (wipe τ2 [j1]) H' fun σ3 H5 => wipe σ3 [j1] = wipe τ2 [j1] ∧ ttU X scope ifs1 σ3 H5 fun b H6 =>
              if b = true then teU X scope elt σ3 H6 fun y H7 => ∃ acc, H7 D = some (.lst acc) ∧ acc.length < sizeLine ∧ Nx1 (L2.upd H7 D (.lst (acc ++ [y]))) else Nx1 H6)
          else ∃ rs2 m2 G2, P (i + 1) rs2 m2 ∧ EnvOk X c σ ((D, .lst rs2) :: m2) G2 τ H5 ∧ Ex G1 G2 := fun G3 H3 x3 E3 r3 => by
      -- the block with the new list in it
      have Ei := E3.into (split_all _) (ex := fun _ _ _ _ => False)
      have Eb := Ei.blk hb ok hown
      have home : ∀ {σ2 : Sl} {τ2 : L2.St} {m2 : Mem} {G2 H2 : Hp}, EB X scope (ctSub c H3 G3 ((D, .lst rs) :: m') fun _ _ _ _ => False) σ2 m2 G2 τ2 H2 → EnvOk X c σ m2 G2 τ H2 := fun {σ2 τ2 m2 G2 H2} e => by
        have z := E3.after (split_all _) (show OutOk X.K _ _ _ _ _ _ from e.outK)
        rw [List.append_nil] at z
        exact z
      -- a part of the block without it
      have part : ∀ {rs : List R} {m2 : Mem} {σ2 : Sl} {τ2 : L2.St} {G2 H2 : Hp}, EB X scope (ctSub c H3 G3 ((D, .lst rs) :: m') fun _ _ _ _ => False) σ2 ((D, .lst rs) :: m2) G2 τ2 H2 → True := fun _ => trivial
      refine t.run ok hown E.nm.nd T Eb r3 fun σ2 τ2 T2 E2 hw2 => ⟨by rw [hw2, wipe_wipe], ?_⟩
      have sp2 : Split ((D, .lst rs) :: m') m' [(D, .lst rs)] := split_back _ _
      have E2i := E2.into sp2 (ex := fun _ _ _ _ => False)
      have lv : ∀ {Xb : Cx} {H0 G0 : Hp} {mf : Mem} {cc : Ct}, IsBlk X scope Xb → Live Xb (ctSub cc H0 G0 mf fun _ _ _ _ => False) k := fun h => h.live L fun _ _ _ _ z => z
      have swap : ∀ {cc : Ct} {G0 H0 : Hp} {σa σb' : Sl} {τa τb : L2.St} {m3 m4 : Mem} {rs3 : List R} {G4 H4 : Hp}, EB X scope cc σa ((D, .lst rs3) :: m3) G0 τa H0 → EB X scope (ctSub cc H0 G0 m3 fun _ _ _ _ => False) σb' m4 G4 τb H4 → EB X scope cc σa ((D, .lst rs3) :: m4) G4 τa H4 := fun {cc G0 H0 σa σb' τa τb m3 m4 rs3 G4 H4} ea e => by
        have A := ea.after (split_back (D, O.lst rs3) m3) (show OutOk X.K _ _ _ _ _ _ from e.outK)
        refine A.drop (fun p hp => ?_) ?_
        · rcases List.mem_cons.mp hp with rfl | hp
          · exact List.mem_append_right _ List.mem_cons_self
          · exact List.mem_append_left _ hp
        · have pm : (m4 ++ [(D, O.lst rs3)]).Perm ((D, .lst rs3) :: m4) := List.perm_append_comm
          exact (pm.map _).nodup_iff.mp A.nd
      refine dts_run (fun Xb hX => T2 Xb _ hX (lv hX)) E2i fun b m5 G5 H5 ⟨y1', y2'⟩ x5 E5 => ?_
      have E5' := swap E2 E5
      cases b with
      | false =>
        rw [if_neg Bool.false_ne_true]
        exact ⟨rs, m5, G5, y2' rfl, home E5', (x'.trans x3).trans x5⟩
      | true =>
        rw [if_pos rfl]
        obtain ⟨f1, ds1, P2, hf1, hs1', hit1, step, hlen, hout⟩ := y1' rfl
        intro s H0 C cl fp pins s1 I1
        have E5i := E5'.into (split_back (D, O.lst rs) m5) (ex := fun _ _ _ _ => False)
        obtain ⟨wi1, hpi1, hw1⟩ := hit1 _ (ctSub (ctSub c H3 G3 ((D, .lst rs) :: m') fun _ _ _ _ => False) H5 G5 m5 fun _ _ _ _ => False) ⟨s, H0, C, cl, fp, rfl⟩ (lv ⟨s, H0, C, cl, fp, rfl⟩)
        refine hpi1.run pins s1 τ2 H5 _ I1 (hw1 τ2 H5 G5 _ (EB.to E5i) fun ds1' m6 G6 H6 J1 ⟨ed1, z6⟩ x6 E6 wk1 => ?_)
        subst ed1
        have E6' := swap E5' (EB.of E6)
        refine ⟨fun jj n H' => n = ds1'.length - jj ∧ jj ≤ ds1'.length ∧ ∃ rs' m' G', P2 jj rs' m' ∧ EB X scope _ σ2 ((D, .lst rs') :: m') G' τ2 H' ∧ Ex G6 G', ⟨_, rfl, Nat.zero_le _, rs, m6, G6, z6, E6', Ex.refl G6⟩, ?_⟩
        rintro jj n H7 ⟨rfl, hj, rs7, m7, G7, hP7, E7, x7⟩
        obtain ⟨v1, v2⟩ := wk1 jj H7 (x7.trans E7.sub)
        by_cases hlt1 : jj < ds1'.length
        · obtain ⟨go1, yl1⟩ := v1 ds1'[jj] (List.getElem?_eq_getElem hlt1)
          refine .inr ⟨go1, fun H8 => ∃ rs8 m8 G8, P2 (jj + 1) rs8 m8 ∧ EB X scope _ σ2 ((D, .lst rs8) :: m8) G8 τ2 H8 ∧ Ex G6 G8, fun H8 ⟨rs8, m8, G8, h1, h2, h3⟩ => ⟨ds1'.length - (jj + 1), by omega, rfl, hlt1, rs8, m8, G8, h1, h2, h3⟩, fun x8 H8 hy8 => ?_⟩
          have inner : ∀ G9 H9, Ex G7 G9 → EB X scope (ctSub c H3 G3 ((D, .lst rs) :: m') fun _ _ _ _ => False) σ2 ((D, .lst rs7) :: m7) G9 τ2 H9 → RelR X.K G9 (.dat ds1'[jj]) x8 →
              gName j1 x8 (wipe τ2 [j1]) H9 fun σ3 H5 => wipe σ3 [j1] = wipe τ2 [j1] ∧ ttU X scope ifs1 σ3 H5 fun b H6 =>
                if b = true then teU X scope elt σ3 H6 fun y H7 => ∃ acc, H7 D = some (.lst acc) ∧ acc.length < sizeLine ∧ ∃ rs8 m8 G8, P2 (jj + 1) rs8 m8 ∧ EB X scope (ctSub c H3 G3 ((D, .lst rs) :: m') fun _ _ _ _ => False) σ2 ((D, .lst rs8) :: m8) G8 τ2 (L2.upd H7 D (.lst (acc ++ [y]))) ∧ Ex G6 G8
                else ∃ rs8 m8 G8, P2 (jj + 1) rs8 m8 ∧ EB X scope (ctSub c H3 G3 ((D, .lst rs) :: m') fun _ _ _ _ => False) σ2 ((D, .lst rs8) :: m8) G8 τ2 H6 ∧ Ex G6 G8 := fun G9 H9 x9 E9 r9 => by
            have E9i := (E9.into (split_back (D, O.lst rs7) m7) (ex := fun _ _ _ _ => False))
            have E9w : EB X scope (ctSub (ctSub c H3 G3 ((D, .lst rs) :: m') fun _ _ _ _ => False) H9 G9 m7 fun _ _ _ _ => False) σ2 m7 G9 (wipe τ2 [j1]) H9 := EB.wipe1 (o := none) (show EB X scope _ σ2 m7 G9 τ2 H9 from E9i) hs1'
            obtain ⟨j', hj', E10⟩ := E9w.put (hf1.put (.dat ds1'[jj])) (.inl (own_z hown hj1)) r9
            have ej : j1 = j' := nodup_ix E.nm.nd (ok.ix _ hj1) hj'
            subst ej
            refine ⟨by rw [wipe_set List.mem_cons_self, wipe_wipe], ?_⟩
            refine dts_run (Kb := fun b m4 => (b = true → ∀ Xe, IsBlk X scope Xe → Live Xe (ctSub (ctSub c H3 G3 ((D, .lst rs) :: m') fun _ _ _ _ => False) H9 G9 m7 fun _ _ _ _ => False) k → DE Xe (ctSub (ctSub c H3 G3 ((D, .lst rs) :: m') fun _ _ _ _ => False) H9 G9 m7 fun _ _ _ _ => False) (f1 (.dat ds1'[jj])) m4 elt (fun r m5 => P2 (jj + 1) (rs7 ++ [r]) m5)) ∧ (b = false → P2 (jj + 1) rs7 m4)) (fun Xb hX => step jj ds1'[jj] rs7 m7 (List.getElem?_eq_getElem hlt1) hP7 Xb _ hX (lv hX)) E10 fun b m11 G11 H11 ⟨y3, y4⟩ x11 E11 => ?_
            have E11' := swap E9 E11
            cases b with
            | false =>
              rw [if_neg Bool.false_ne_true]
              exact ⟨rs7, m11, G11, y4 rfl, E11', (x7.trans x9).trans x11⟩
            | true =>
              rw [if_pos rfl]
              refine de_run (fun Xb hX => y3 rfl Xb hX (lv hX)) E11 fun r m12 G12 H12 v y x12 E12 rv => ?_
              have E12' := swap E9 E12
              obtain ⟨_, ho, hh, ro⟩ := E12'.mem (D, .lst rs7) List.mem_cons_self
              cases ro with | @lst _ acc ro =>
              refine ⟨acc, hh, ?_, rs7 ++ [r], m12, G12, y, E12'.chg .here (.lst (ro.append (.cons rv .nil))), ((x7.trans x9).trans x11).trans x12⟩
              rw [← ro.length]
              exact Nat.lt_of_le_of_lt (hlen _ _ _ hP7) (by decide)
          rcases yl1 x8 H8 hy8 with ⟨eH, rx⟩ | ⟨p, ho, hp, eH, rx⟩
          · subst eH
            exact inner G7 _ (Ex.refl G7) E7 (.dat (rx.mono x7))
          · subst eH
            have g1 : G7 p = none := E7.sub.back hp
            exact inner (L2.upd G7 p ho) _ (Ex.new g1) (E7.newG hp) (.dat (rx.mono (Ex.both x7)))
        · have e : jj = ds1'.length := by omega
          subst e
          exact .inl ⟨v2 (Nat.le_refl _), rs7, m7, G7, hout _ _ hP7, home E7, (((x'.trans x3).trans x5).trans x6).trans x7⟩
    rcases yl x H2 hy with ⟨eH, rx⟩ | ⟨p, ho, hp, eH, rx⟩
    · subst eH
      exact main G' _ (Ex.refl G') E' (.dat (rx.mono x'))
    · subst eH
      have g1 : G' p = none := E'.sub.back hp
      exact main (L2.upd G' p ho) _ (Ex.new g1) (E'.newG hp) (.dat (rx.mono (Ex.both x')))
  · have e : i = ds'.length := by omega
    subst e
    exact .inl ⟨w2 (Nat.le_refl _), q _ _ G' _ _ (hend rs m' D hP) (x1.trans x') E' .own⟩
theorem de_lc2 {ds : List D} (P : Nat → List R → Mem → Prop) (L : Live X c k) (nd : X.N.Nodup) (ok : BlkOk X.N X.env.scope scope own) (hown : ∀ p ∈ own, scope.names.lookup p.1 = some .local) (hb : Blk scope σ σb) (t : CTgt X scope own σb tg g A) (hj1 : (y1, j1) ∈ own)
    (hit : DIt X c σ m tg iter (fun ds' m1 => ds' = ds ∧ P 0 [] m1))
    (turn : ∀ i d rs m', ds[i]? = some d → P i rs m' → A (.dat d) (fun σ2 => ∀ Xb c', IsBlk X scope Xb → Live Xb c' k → DTs Xb c' σ2 m' ifs (fun b m2 => (b = true → In2 X scope k y1 p1 j1 iter1 ifs1 elt σ2 m2 rs (P (i + 1))) ∧ (b = false → P (i + 1) rs m2))))
    (hend : ∀ rs m' p, P ds.length rs m' → K (.own p) ((p, .lst rs) :: m')) (hs : ∀ x, foldedSetIterable iter X.env x = pure x := by intro _; rfl) (hs1 : ∀ env x, foldedSetIterable iter1 env x = pure x := by intro _ _; rfl) :
    DE X c σ m (.ListComp elt [⟨tg, iter, ifs, 0⟩, ⟨.Name y1 p1, iter1, ifs1, 0⟩] scope pos) K := by
  obtain ⟨wi, hpi, hw⟩ := hit
  exact de_of (pe_lc2 (vs1 := [j1]) (g1 := gName j1) L.calm nd hpi ok (fun i hi => by rw [List.mem_singleton.mp hi]; exact List.mem_map_of_mem (f := (·.2)) hj1) (fun s H C cl fp => t.pg ok hown nd L.calm s H C cl fp) (fun s H C cl fp => pts_U s H C cl fp) (fun s H C cl fp => pi_U s H C cl fp)
    (fun s H C cl fp => pg_name nd (ok.ix _ hj1) (own_at hown hj1 s H C cl fp).1 (own_at hown hj1 s H C cl fp).2) (fun s H C cl fp => pts_U s H C cl fp) (fun s H C cl fp => pe_U s H C cl fp) hs hs1) fun τ H G Q E q =>
    lc2_read P L ok hown hb t hj1 turn hend E (fun R' h => hw τ H G R' E fun ds m' G' H' J z x E' w => h ds m' G' H' J z x E' w) q
theorem ds_lc2 {ds : List D} {en : En} {y : Str} {py spos : Pos} {f : R → Sl} (P : Nat → List R → Mem → Prop) (L : Live X c k) (nd : X.N.Nodup) (hy : X.env.scope.names.lookup y = some .local) (hp : PutF σ y f) (ok : BlkOk X.N X.env.scope scope own) (hown : ∀ p ∈ own, scope.names.lookup p.1 = some .local) (hb : Blk scope σ σb) (t : CTgt X scope own σb tg g A) (hj1 : (y1, j1) ∈ own)
    (hit : DIt X c σ m tg iter (fun ds' m1 => ds' = ds ∧ P 0 [] m1))
    (turn : ∀ i d rs m', ds[i]? = some d → P i rs m' → A (.dat d) (fun σ2 => ∀ Xb c', IsBlk X scope Xb → Live Xb c' k → DTs Xb c' σ2 m' ifs (fun b m2 => (b = true → In2 X scope k y1 p1 j1 iter1 ifs1 elt σ2 m2 rs (P (i + 1))) ∧ (b = false → P (i + 1) rs m2))))
    (hend : ∀ rs m' p, P ds.length rs m' → ∃ r2 m2, Now X.K m' p rs r2 m2 ∧ en.nx (f r2) m2)
    (hsw : swapsWith (.ListComp elt [⟨tg, iter, ifs, 0⟩, ⟨.Name y1 p1, iter1, ifs1, 0⟩] scope pos) (some (.Name y py)) spos.line X.env = pure true) (hs : ∀ x, foldedSetIterable iter X.env x = pure x := by intro _; rfl) (hs1 : ∀ env x, foldedSetIterable iter1 env x = pure x := by intro _ _; rfl) :
    DS X c σ m (.Assign [.Name y py] (.ListComp elt [⟨tg, iter, ifs, 0⟩, ⟨.Name y1 p1, iter1, ifs1, 0⟩] scope pos) spos) en := fun F pins s τ H G D I E fx ft => by
  obtain ⟨wi, hpi, hw⟩ := hit
  have hm : y ∈ X.N := by rw [E.names]; exact hp.at
  obtain ⟨i, hi⟩ := List.mem_iff_getElem?.mp hm
  refine (ps_setLc2 (vs1 := [j1]) (g1 := gName j1) L.calm nd hi hy hsw hpi ok (fun i hi => by rw [List.mem_singleton.mp hi]; exact List.mem_map_of_mem (f := (·.2)) hj1) (fun s H C cl fp => t.pg ok hown nd L.calm s H C cl fp) (fun s H C cl fp => pts_U s H C cl fp) (fun s H C cl fp => pi_U s H C cl fp)
    (fun s H C cl fp => pg_name nd (ok.ix _ hj1) (own_at hown hj1 s H C cl fp).1 (own_at hown hj1 s H C cl fp).2) (fun s H C cl fp => pts_U s H C cl fp) (fun s H C cl fp => pe_U s H C cl fp) hs hs1).run pins s τ H D I ?_
  refine lc2_read (K := fun r m' => ∃ p rs m1, r = .own p ∧ m' = (p, .lst rs) :: m1 ∧ P ds.length rs m1) P L ok hown hb t hj1 turn (fun rs m' p hp => ⟨p, rs, m', rfl, rfl, hp⟩) E (fun R' h => hw τ H G R' E fun ds m' G' H' J z x E' w => h ds m' G' H' J z x E' w) fun r m' G' H' v ⟨p, rs, m1, er, em, hP⟩ x1 E' rv => ?_
  subst er em
  obtain ⟨r2, m2, hn, z⟩ := hend rs m1 p hP
  obtain ⟨G2, x2, E2, rv2⟩ := hn.env E' rv
  obtain ⟨j, hj, E3⟩ := E2.put (hp.put r2) (.inl hy) rv2
  have ij : i = j := nodup_ix nd hi hj
  subst ij
  exact ft.nx _ m2 G2 _ H' z ((fx.trans x1).trans x2) E3
end
end D2
/-! ## D2Meth -/
set_option Elab.async false
set_option linter.all false
set_option maxRecDepth 100000
set_option maxHeartbeats 2000000
/-! methods by name -/
namespace D2
open PySem PySem.Spec PyProof.Rows L2
section
variable {X : Cx} {c : Ct} {σ : Sl} {m : Mem} {o e e2 : Expr} {K : R → Mem → Prop} {pos apos : Pos}
theorem d_join (h : DE X c σ m o (fun ro m1 => ro = rS [] ∧ DE X c σ m1 e (fun r m2 => ∃ ss : List (List Nat), VL m2 r (ss.map rS) ∧ (ss.map (·.length)).sum ≤ 1000000 ∧ K (rS ss.flatten) m2)))
    (hbase : attributeBase o "join" X.env (eval o X.env) = eval o X.env := by rfl)
    (hfew : ((backTo pos (starEach [e] X.env)).all (fun x => !x.1) && (backToKw pos (keywordEach [] X.env)).all (fun x => x.1.isSome) && decide ([e].length + ([] : List Keyword).length + (if ([] : List Keyword).isEmpty then 0 else 1) < 30)) = true := by rfl)
    (hline : (apos.endLine == pos.line) = true := by rfl) (hst : starEach [e] X.env = (false, eval e X.env) :: starEach [] X.env := by rfl) : DE X c σ m (.Call (.Attribute o "join" apos) [e] [] pos) K :=
  de_bm PySem.F.plainAttrs_str PySem.F.slot_str_join PySem.F.type_str_join mt_join (h.imp fun ro m1 ⟨er, d⟩ => by
    subst er
    exact ⟨.str, da_cons (d.imp fun r m2 ⟨ss, hv, hl, kk⟩ => da_nil (k_joinE hv hl kk)) hst⟩) hbase hfew hline hst
theorem d_appendL (h : DE X c σ m o (fun ro m1 => ∃ a rs0 m0, ro = .own a ∧ Has m1 a (.lst rs0) m0 ∧ DE X c σ m1 e (fun r m2 => ∃ rs m3, Chg m2 a (.lst rs) (.lst (rs ++ [r])) m3 ∧ rs.length < 1000000 ∧ K (.dat .non) m3)))
    (hbase : attributeBase o "append" X.env (eval o X.env) = eval o X.env := by rfl)
    (hfew : ((backTo pos (starEach [e] X.env)).all (fun x => !x.1) && (backToKw pos (keywordEach [] X.env)).all (fun x => x.1.isSome) && decide ([e].length + ([] : List Keyword).length + (if ([] : List Keyword).isEmpty then 0 else 1) < 30)) = true := by rfl)
    (hline : (apos.endLine == pos.line) = true := by rfl) (hst : starEach [e] X.env = (false, eval e X.env) :: starEach [] X.env := by rfl) : DE X c σ m (.Call (.Attribute o "append" apos) [e] [] pos) K :=
  de_bm PySem.F.plainAttrs_list PySem.F.slot_list_append PySem.F.type_list_append mt_append (h.imp fun ro m1 ⟨a, rs0, m0, er, hh, d⟩ => by
    subst er
    exact ⟨.lst (.own hh), da_cons (d.imp fun r m2 ⟨rs, m3, hc, hl, kk⟩ => da_nil (k_append hc hl kk)) hst⟩) hbase hfew hline hst
theorem d_extendL (h : DE X c σ m o (fun ro m1 => ∃ a rs0 m0, ro = .own a ∧ Has m1 a (.lst rs0) m0 ∧ DE X c σ m1 e (fun r m2 => ∃ rs qs m3, Chg m2 a (.lst rs) (.lst (rs ++ qs)) m3 ∧ VU m2 r qs ∧ rs.length + qs.length ≤ 1000000 ∧ K (.dat .non) m3)))
    (hbase : attributeBase o "extend" X.env (eval o X.env) = eval o X.env := by rfl)
    (hfew : ((backTo pos (starEach [e] X.env)).all (fun x => !x.1) && (backToKw pos (keywordEach [] X.env)).all (fun x => x.1.isSome) && decide ([e].length + ([] : List Keyword).length + (if ([] : List Keyword).isEmpty then 0 else 1) < 30)) = true := by rfl)
    (hline : (apos.endLine == pos.line) = true := by rfl) (hst : starEach [e] X.env = (false, eval e X.env) :: starEach [] X.env := by rfl) : DE X c σ m (.Call (.Attribute o "extend" apos) [e] [] pos) K :=
  de_bm PySem.F.plainAttrs_list PySem.F.slot_list_extend PySem.F.type_list_extend mt_extend (h.imp fun ro m1 ⟨a, rs0, m0, er, hh, d⟩ => by
    subst er
    exact ⟨.lst (.own hh), da_cons (d.imp fun r m2 ⟨rs, qs, m3, hc, hu, hl, kk⟩ => da_nil (k_extend hc hu hl kk)) hst⟩) hbase hfew hline hst
theorem d_find3 (h : DE X c σ m o (fun ro m1 => ∃ s, ro = rS s ∧ DE X c σ m1 e (fun r m2 => ∃ t, r = rS t ∧ DE X c σ m2 e2 (fun r2 m3 => ∃ i, r2 = rI i ∧ K (rI (find3 s t i)) m3))))
    (hbase : attributeBase o "find" X.env (eval o X.env) = eval o X.env := by rfl)
    (hfew : ((backTo pos (starEach [e, e2] X.env)).all (fun x => !x.1) && (backToKw pos (keywordEach [] X.env)).all (fun x => x.1.isSome) && decide ([e, e2].length + ([] : List Keyword).length + (if ([] : List Keyword).isEmpty then 0 else 1) < 30)) = true := by rfl)
    (hline : (apos.endLine == pos.line) = true := by rfl) (hs1 : starEach [e, e2] X.env = (false, eval e X.env) :: starEach [e2] X.env := by rfl) (hs2 : starEach [e2] X.env = (false, eval e2 X.env) :: starEach [] X.env := by rfl) (hpl : (backTo pos (starEach [e2] X.env)).any (·.1) = false := by rfl) : DE X c σ m (.Call (.Attribute o "find" apos) [e, e2] [] pos) K :=
  de_bm PySem.F.plainAttrs_str PySem.F.slot_str_find PySem.F.type_str_find mt_find3 (h.imp fun ro m1 ⟨s, er, d⟩ => by
    subst er
    exact ⟨.str, da_cons (d.imp fun r m2 ⟨t, e1, d2⟩ => by
      subst e1
      exact da_cons (d2.imp fun r2 m3 ⟨i, e2', kk⟩ => by
        subst e2'
        exact da_nil (k_find kk)) hs2) hs1⟩) hbase hfew hline hs1 hpl
end
end D2
/-! ## D2Keep -/
set_option Elab.async false
set_option linter.all false
set_option maxRecDepth 100000
set_option maxHeartbeats 2000000
/-! comprehensions over an owned list that stays owned -/
namespace D2
open PySem PySem.Spec PyProof.Rows L2
section
variable {X : Cx} {c : Ct} {σ σb : Sl} {m m0 : Mem} {scope : Scope} {own : List (Str × Nat)} {tg elt : Expr} {ifs : List Expr} {g : TG} {A : R → (Sl → Prop) → Prop} {K : R → Mem → Prop} {k : Nat} {pos px : Pos} {x : Str} {a : Addr}
theorem EnvOk.more {G : Hp} {τ : L2.St} {H : Hp} {o : O} {ho : HO} (e : EnvOk X c σ m G τ H) (ha : a ∉ m.map (·.1)) (hg : G a = none) (hh : H a = some ho) (ro : RelO X.K G o ho) (hc : a ∈ c.mu ∨ c.H0 a = none) : EnvOk X c σ ((a, o) :: m) G τ H where
  nm := e.nm
  names := e.names
  len := e.len
  sub := e.sub
  nd := List.nodup_cons.mpr ⟨ha, e.nd⟩
  mem := fun q hq => by
    rcases List.mem_cons.mp hq with rfl | hq
    · exact ⟨hg, ho, hh, ro⟩
    · exact e.mem q hq
  fr := e.fr
  th := e.th
  ok := fun q hq => by
    rcases List.mem_cons.mp hq with rfl | hq
    · exact hc
    · exact e.ok q hq
  gn := e.gn
  g0 := e.g0
  vis := e.vis
  sl := e.sl
theorem de_lcK {ds : List D} (P : Nat → List R → Mem → Prop) (L : Live X c k) (nd : X.N.Nodup) (ok : BlkOk X.N X.env.scope scope own) (hown : ∀ p ∈ own, scope.names.lookup p.1 = some .local) (hb : Blk scope σ σb) (t : CTgt X scope own σb tg g A)
    (hx : Lk σ x (.own a)) {rs0 : List R} (hrs : rs0 = ds.map .dat) (hc : Has m a (.lst rs0) m0) (hP : P 0 [] m0)
    (turn : ∀ i d rs m', ds[i]? = some d → P i rs m' → A (.dat d) (fun σ2 => Turn1 X scope k σ2 m' ifs elt (fun r m3 => P (i + 1) (rs ++ [r]) m3) (fun m2 => P (i + 1) rs m2))) (hl : ds.length ≤ 1000000)
    (hend : ∀ rs m' p, P ds.length rs m' → K (.own p) ((a, .lst rs0) :: (p, .lst rs) :: m')) : DE X c σ m (.ListComp elt [⟨tg, .Name x px, ifs, 0⟩] scope pos) K := fun pins s τ H G Q I E q => by
  subst hrs
  obtain ⟨i, v, h1, h2, h3, hv⟩ := E.get hx
  obtain ⟨hd, hcd⟩ := E.nm.dbg x (List.mem_of_getElem? h1)
  cases h3
  obtain ⟨ga, ho, hh, ro⟩ := E.mem _ hc.mem
  cases ro with | @lst _ vs ro =>
  have E1 := E.rest hc
  have na : a ∉ m0.map (·.1) := fun z => by
    obtain ⟨p, hp, e⟩ := List.mem_map.mp z
    exact hc.notIn E.nd p hp e
  have acc : a ∈ c.mu ∨ c.H0 a = none := E.ok _ hc.mem
  have kk : KeepK [(a, HO.lst vs)] m0 G H := fun p hp => by
    rw [List.mem_singleton.mp hp]
    exact ⟨hh, na, ga⟩
  refine (pe_lc L.calm nd (pi_list (pe_var h1 hv hd hcd)) ok (fun s H C cl fp => t.pg ok hown nd L.calm s H C cl fp) (fun s H C cl fp => pts_U s H C cl fp) (fun s H C cl fp => pe_U s H C cl fp) (by intro _; rfl)).run pins s τ H Q I ?_
  refine lc_read (K := fun r m' => ∃ p rs m1, r = .own p ∧ m' = (p, .lst rs) :: m1 ∧ P ds.length rs m1) (ds := ds) [(a, HO.lst vs)] P L ok hown hb t turn hl (fun rs m' p hp => ⟨p, rs, m', rfl, rfl, hp⟩) E1 (fun R' hR => ?_) fun r m' G' H' w ⟨p, rs, m1, er, em, hp⟩ x' E' rv kk' => ?_
  · refine ⟨.ref a, h2, a, rfl, ⟨vs, SqL.of hh⟩, hR ds m0 G H _ ⟨rfl, hP⟩ (Ex.refl G) E1 ?_ kk⟩
    intro j H2 eG hk
    have hka := SqL.of (K := X.K) (hk _ (List.mem_singleton.mpr rfl))
    refine ⟨fun d hd' => ?_, fun hle => ⟨vs, hka, by have := ro.length; rw [List.length_map] at this; omega⟩⟩
    obtain ⟨u, hu, ru⟩ := ro.get (show (ds.map R.dat)[j]? = some (.dat d) by rw [List.getElem?_map, hd']; rfl)
    refine ⟨⟨vs, u, hka, hu⟩, fun y H3 ⟨e3, yy⟩ => .inl ⟨e3, ?_⟩⟩
    have z := yy vs hka
    rw [hu] at z; cases z
    cases ru with | dat ru => exact ru
  · subst er em
    obtain ⟨k1, k2, k3⟩ := kk' _ (List.mem_singleton.mpr rfl)
    exact q _ _ G' _ _ (hend rs m1 p hp) x' (E'.more k2 k3 k1 (.lst (ro.mono x')) acc) rv
theorem ds_lcK {ds : List D} {en : En} {y : Str} {py spos : Pos} {f : R → Sl} (P : Nat → List R → Mem → Prop) (L : Live X c k) (nd : X.N.Nodup) (hy : X.env.scope.names.lookup y = some .local) (hpu : PutF σ y f) (ok : BlkOk X.N X.env.scope scope own) (hown : ∀ p ∈ own, scope.names.lookup p.1 = some .local) (hb : Blk scope σ σb) (t : CTgt X scope own σb tg g A)
    (hx : Lk σ x (.own a)) {rs0 : List R} (hrs : rs0 = ds.map .dat) (hc : Has m a (.lst rs0) m0) (hP : P 0 [] m0)
    (turn : ∀ i d rs m', ds[i]? = some d → P i rs m' → A (.dat d) (fun σ2 => Turn1 X scope k σ2 m' ifs elt (fun r m3 => P (i + 1) (rs ++ [r]) m3) (fun m2 => P (i + 1) rs m2))) (hl : ds.length ≤ 1000000)
    (hend : ∀ rs m' p, P ds.length rs m' → en.nx (f (.own p)) ((a, .lst rs0) :: (p, .lst rs) :: m'))
    (hsw : swapsWith (.ListComp elt [⟨tg, .Name x px, ifs, 0⟩] scope pos) (some (.Name y py)) spos.line X.env = pure true) :
    DS X c σ m (.Assign [.Name y py] (.ListComp elt [⟨tg, .Name x px, ifs, 0⟩] scope pos) spos) en := fun F pins s τ H G D I E fx ft => by
  subst hrs
  obtain ⟨i, v, h1, h2, h3, hv⟩ := E.get hx
  obtain ⟨hd, hcd⟩ := E.nm.dbg x (List.mem_of_getElem? h1)
  cases h3
  obtain ⟨ga, ho, hh, ro⟩ := E.mem _ hc.mem
  cases ro with | @lst _ vs ro =>
  have E1 := E.rest hc
  have na : a ∉ m0.map (·.1) := fun z => by
    obtain ⟨p, hp, e⟩ := List.mem_map.mp z
    exact hc.notIn E.nd p hp e
  have acc : a ∈ c.mu ∨ c.H0 a = none := E.ok _ hc.mem
  have kk : KeepK [(a, HO.lst vs)] m0 G H := fun p hp => by
    rw [List.mem_singleton.mp hp]
    exact ⟨hh, na, ga⟩
  have hm : y ∈ X.N := by rw [E.names]; exact hpu.at
  obtain ⟨i0, hi0⟩ := List.mem_iff_getElem?.mp hm
  refine (ps_setLc L.calm nd hi0 hy hsw (pi_list (pe_var h1 hv hd hcd)) ok (fun s H C cl fp => t.pg ok hown nd L.calm s H C cl fp) (fun s H C cl fp => pts_U s H C cl fp) (fun s H C cl fp => pe_U s H C cl fp) (by intro _; rfl)).run pins s τ H D I ?_
  refine lc_read (K := fun r m' => ∃ p rs m1, r = .own p ∧ m' = (p, .lst rs) :: m1 ∧ P ds.length rs m1) (ds := ds) [(a, HO.lst vs)] P L ok hown hb t turn hl (fun rs m' p hp => ⟨p, rs, m', rfl, rfl, hp⟩) E1 (fun R' hR => ?_) fun r m' G' H' w ⟨p, rs, m1, er, em, hp⟩ x' E' rv kk' => ?_
  · refine ⟨.ref a, h2, a, rfl, ⟨vs, SqL.of hh⟩, hR ds m0 G H _ ⟨rfl, hP⟩ (Ex.refl G) E1 ?_ kk⟩
    intro j H2 eG hk
    have hka := SqL.of (K := X.K) (hk _ (List.mem_singleton.mpr rfl))
    refine ⟨fun d hd' => ?_, fun hle => ⟨vs, hka, by have := ro.length; rw [List.length_map] at this; omega⟩⟩
    obtain ⟨u, hu, ru⟩ := ro.get (show (ds.map R.dat)[j]? = some (.dat d) by rw [List.getElem?_map, hd']; rfl)
    refine ⟨⟨vs, u, hka, hu⟩, fun y H3 ⟨e3, yy⟩ => .inl ⟨e3, ?_⟩⟩
    have z := yy vs hka
    rw [hu] at z; cases z
    cases ru with | dat ru => exact ru
  · subst er em
    obtain ⟨k1, k2, k3⟩ := kk' _ (List.mem_singleton.mpr rfl)
    obtain ⟨j, hj, E3⟩ := (E'.more k2 k3 k1 (.lst (ro.mono x')) acc).put (hpu.put (.own p)) (.inl hy) rv
    have ij : i0 = j := nodup_ix nd hi0 hj
    subst ij
    exact ft.nx _ _ G' _ H' (hend rs m1 p hp) (fx.trans x') E3
theorem sw_d {P : Program} {w : World} {Kf : PySem.W.Frag} {mg : Str → Option Value} {base : Heap} {N : List Str} {sc : Scope} {gens : List Comprehension} {y : Str} {py : Pos} {line : Nat} (D : Def X P w Kf mg base N sc) (hk : (if sc.kind.isAnnotationScope then ScopeKind.function else sc.kind) = .function) (hy : sc.names.lookup y = some .local) (hl : py.line = pos.line)
    (hn : (scope.names.any fun x => x.1 == y && (x.2 == .local || x.2 == .cell)) = false) : swapsWith (.ListComp elt gens scope pos) (some (.Name y py)) line X.env = pure true :=
  swaps_true (by unfold Env.blockKind; rw [D.sc]; exact hk) (by unfold Env.kindOf; rw [D.sc]; exact hy) hl hn
end
theorem frzs_f {α : Type} (m : Mem) (f : α → D) (l : List α) : Frzs m (l.map fun x => R.dat (f x)) (l.map f) m := by
  rw [show (l.map fun x => R.dat (f x)) = (l.map f).map R.dat by rw [List.map_map]; rfl]
  exact Frzs.map _ _
section
variable {X : Cx} {c : Ct} {σ : Sl} {m : Mem} {k : Nat} {tg iter : Expr} {body : List Stmt} {pos : Pos} {en : En}
/-- for, over items that only the iterable tells -/
theorem ds_forP (I : List D → Nat → Sl → Mem → Prop) (L : Live X c k) (hit : DIt X c σ m tg iter (fun ds' m1 => I ds' 0 σ m1))
    (hturn : ∀ ds i d σ' m', ds[i]? = some d → I ds i σ' m' → DG X c σ' m' tg (.dat d) (fun σ2 m2 => DSs X c σ2 m2 body { nx := I ds (i + 1), ct := I ds (i + 1), bk := en.nx, rt := en.rt }))
    (hend : ∀ ds σ' m', I ds ds.length σ' m' → en.nx σ' m') (hs : ∀ x, foldedSetIterable iter X.env x = pure x := by intro _; rfl) : DS X c σ m (.For tg iter body [] pos) en := fun F pins s τ H G D Iv E fx ft => by
  obtain ⟨wi, hpi, hw⟩ := hit
  refine (ps_for L.own L.calm hpi pg_t (pss_t (c := c)) hs).run pins s τ H D Iv (hw τ H G _ E fun ds' m1 G1 H1 J z x1 E1 wk => ?_)
  refine ⟨fun i n τ' H' => n = ds'.length - i ∧ i ≤ ds'.length ∧ ∃ σ' m' G', I ds' i σ' m' ∧ EnvOk X c σ' m' G' τ' H' ∧ Ex G1 G', ⟨_, rfl, Nat.zero_le _, σ, m1, G1, z, E1, Ex.refl G1⟩, ?_⟩
  rintro i n τ' H' ⟨rfl, hi, σ', m', G', hI, E', x'⟩
  obtain ⟨w1, w2⟩ := wk i H' (x'.trans E'.sub)
  by_cases hlt : i < ds'.length
  · obtain ⟨go, yl⟩ := w1 ds'[i] (List.getElem?_eq_getElem hlt)
    refine .inr ⟨go, fun τ2 H2 => ∃ σ2 m2 G2, I ds' (i + 1) σ2 m2 ∧ EnvOk X c σ2 m2 G2 τ2 H2 ∧ Ex G1 G2, fun τ2 H2 ⟨σ2, m2, G2, h1, h2, h3⟩ => ⟨ds'.length - (i + 1), by omega, rfl, hlt, σ2, m2, G2, h1, h2, h3⟩, fun x H2 hy => ?_⟩
    have T := hturn ds' i ds'[i] σ' m' (List.getElem?_eq_getElem hlt) hI
    have go2 : ∀ G3 H3, Ex G' G3 → EnvOk X c σ' m' G3 τ' H3 → RelR X.K G3 (.dat ds'[i]) x → gT X tg x τ' H3 fun τ4 H4 => tSs X c body { D with nx := fun τ2 H2 => ∃ σ2 m2 G2, I ds' (i + 1) σ2 m2 ∧ EnvOk X c σ2 m2 G2 τ2 H2 ∧ Ex G1 G2, ct := fun τ2 H2 => ∃ σ2 m2 G2, I ds' (i + 1) σ2 m2 ∧ EnvOk X c σ2 m2 G2 τ2 H2 ∧ Ex G1 G2, bk := D.nx } τ4 H4 := fun G3 H3 x3 E3 r3 =>
      T x τ' H3 G3 _ E3 r3 fun σ4 m4 G4 τ4 H4 z4 x4 E4 => by
        have up : Ex G1 G4 := (x'.trans x3).trans x4
        refine ⟨G4, σ4, m4, G4, _, E4, z4, Ex.refl G4, ?_⟩
        exact ⟨fun σ5 m5 G5 τ5 H5 q y E5 => ⟨σ5, m5, G5, q, E5, up.trans y⟩, fun r σ5 m5 G5 τ5 H5 v q y E5 rv => ft.rt r σ5 m5 G5 τ5 H5 v q (((fx.trans x1).trans up).trans y) E5 rv,
          fun σ5 m5 G5 τ5 H5 q y E5 => ft.nx σ5 m5 G5 τ5 H5 q (((fx.trans x1).trans up).trans y) E5, fun σ5 m5 G5 τ5 H5 q y E5 => ⟨σ5, m5, G5, q, E5, up.trans y⟩⟩
    rcases yl x H2 hy with ⟨eH, rx⟩ | ⟨p, ho, hp, eH, rx⟩
    · subst eH
      exact go2 G' _ (Ex.refl G') E' (.dat (rx.mono x'))
    · subst eH
      have g1 : G' p = none := E'.sub.back hp
      refine go2 (L2.upd G' p ho) _ (Ex.new g1) (E'.newG hp) (.dat (rx.mono ?_))
      exact Ex.both x'
  · have e : i = ds'.length := by omega
    subst e
    exact .inl ⟨w2 (Nat.le_refl _), ft.nx σ' m' G' τ' H' (hend ds' σ' m' hI) ((fx.trans x1).trans x') E'⟩
end
end D2
/-! ## D2For -/
set_option Elab.async false
set_option linter.all false
set_option maxRecDepth 100000
set_option maxHeartbeats 2000000
/-! loops whose body leaves all as it was -/
namespace D2
open PySem PySem.Spec PyProof.Rows L2
section
variable {X : Cx} {c : Ct} {σ : Sl} {m : Mem} {k : Nat} {iter : Expr} {body : List Stmt} {pos px : Pos} {en : En} {x : Str} {f : R → Sl}
/-- for, with a body that leaves all as it was -/
theorem ds_forC (Pd : D → Prop) (L : Live X c k) (hx : Own X x) (hp : PutF σ x f) (hit : DIt X c σ m (.Name x px) iter (fun (ds : List D) m1 => (∀ (i : Nat) (d : D), ds[i]? = some d → Pd d) ∧ m1 = m))
    (hturn : ∀ d Nx, Pd d → Nx σ m → DSs X c (f (.dat d)) m body { nx := Nx, ct := Nx, bk := en.nx, rt := en.rt })
    (hend : en.nx σ m) (hs : ∀ x, foldedSetIterable iter X.env x = pure x := by intro _; rfl) : DS X c σ m (.For (.Name x px) iter body [] pos) en := by
  obtain ⟨wi, hpi, hw⟩ := hit
  refine ds_forP (fun ds i σ' m' => σ' = σ ∧ m' = m ∧ ∀ i d, ds[i]? = some d → Pd d) L ⟨wi, hpi, fun τ H G R' E q => hw τ H G R' E fun ds m' G' H' J ⟨z1, z2⟩ x E' w => q ds m' G' H' J ⟨rfl, z2, z1⟩ x E' w⟩ ?_ ?_ hs
  · rintro ds i d σ' m' hd ⟨rfl, rfl, hP⟩
    exact dg_name hx hp (hturn d _ (hP i d hd) ⟨rfl, rfl, hP⟩)
  · rintro ds σ' m' ⟨rfl, rfl, _⟩
    exact hend
end
end D2
/-! ## D2Head -/
set_option Elab.async false
set_option linter.all false
set_option maxRecDepth 100000
set_option maxHeartbeats 2000000
/-! the head: facts of defs and of exception classes with an own __init__ that calls super().__init__ -/
namespace D2
open PySem PySem.Spec PyProof.Rows L2 NdefX
/-! ### what is asked of the written part -/
abbrev FnC : Type := Option (Str × Str × Arguments × FuncBody × Scope × Addr × List Str × Addr)
def fnC (K : PySem.W.Frag) (f : Addr) : FnC := match K.lookup f with
  | some ⟨_, _, .func fd, _⟩ => some (fd.name, fd.qualname, fd.params, fd.body, fd.scope, fd.globals, fd.closure.map (·.1), fd.builtins)
  | _ => none
/-- a class over ValueError with an own __init__: its name, the __init__ -/
structure IniD where
  cls : Str
  qual : Str
  fld : Str
  st : Stmt
def IniD.val (d : IniD) : FnC := some (("__init__" : Str), d.qual, defArgs d.st, FuncBody.stmts (defBody d.st), defScope d.st, mainGlobals, [("__class__" : Str)], builtinsNs)
def iC (K : PySem.W.Frag) (x : Str) : Addr := He.ga K x
def iF (K : PySem.W.Frag) (x : Str) : Addr := He.ma K (He.ga K x) "__init__"
def oexB (K : PySem.W.Frag) (C : Addr) : Bool := (match K.lookup C with
  | some ⟨.type "type", _, .cls cd, sl⟩ => (match cd.mro, sl.toList with
    | .ref C' :: bm, [_, _, _, _, some (.builtin n), _] => C' == C && n == "ValueError.__new__" && !cd.hasDel && cd.hasDict && PySem.HandSPX.refsVE bm
    | _, _ => false)
  | _ => false) && (decide (PySem.W.findIn K (.ref C) "__setattr__" = some (some (.builtin "object.__setattr__"))) && (decide (PySem.W.subIn K (.ref C) (.type "BaseException") = some true) && (decide (PySem.W.typeIn K (.ref C) = some (.type "type")) && PySem.W.keepIn K (.ref C))))
theorem oexB_ok {K : PySem.W.Frag} {C : Addr} (h : oexB K C = true) : OexC K C := by
  unfold oexB at h
  simp only [Bool.and_eq_true, decide_eq_true_eq] at h
  obtain ⟨h0, h1, h2, h3, h4⟩ := h
  refine ⟨?_, h1, h2, h3, h4⟩
  split at h0
  · rename_i dd cd sl ho
    split at h0
    · rename_i C' bm k0 k1 k2 k3 n k5 hm hs
      simp only [Bool.and_eq_true, beq_iff_eq, Bool.not_eq_true'] at h0
      obtain ⟨⟨⟨⟨rfl, rfl⟩, hdel⟩, hdi⟩, ht⟩ := h0
      obtain ⟨nm, bs, mro, ns, qn, hd, sn, sub, ab, col, del⟩ := cd
      dsimp only at hm hdel hdi
      subst hm hdel hdi
      have hsl : sl = #[k0, k1, k2, k3, some (.builtin "ValueError.__new__"), k5] := by
        obtain ⟨l⟩ := sl
        simp only at hs
        rw [hs]
      subst hsl
      exact ⟨nm, qn, ns, bs, bm, sn, sub, ab, col, dd, k0, k1, k2, k3, k5, ho, ht⟩
    · cases h0
  · cases h0
def excCB (K : PySem.W.Frag) (C : Addr) : Bool := decide (PySem.W.findIn K (.ref C) "__getattribute__" = some (some (.builtin "BaseException.__getattribute__"))) && (decide (PySem.W.findIn K (.ref C) "__getattr__" = some none) && (decide (PySem.W.subIn K (.ref C) (.type "BaseException") = some true) && (PySem.W.hasDictIn K C &&
  (decide (PySem.W.findIn K (.ref C) "__class__" = some (some (.builtin "object.__class__"))) && (decide (PySem.W.specialIn K (.builtin "object.__class__") "__get__" = some (some (.builtin "getset_descriptor.__get__"))) && (decide (PySem.W.takesIn K (.builtin "object.__class__") = some true) && decide (PySem.W.mroIn K C (.type "object") = some true)))))))
theorem excCB_ok {K : PySem.W.Frag} {C : Addr} (h : excCB K C = true) : ExcC K C := by
  unfold excCB at h
  simp only [Bool.and_eq_true, decide_eq_true_eq] at h
  obtain ⟨h1, h2, h3, h4, h5, h6, h7, h8⟩ := h
  exact ⟨h1, h2, h3, h4, h5, h6, h7, h8⟩
/-- the __init__ function: no defaults, a cell of its class, its code in the file pf -/
def iniFB (K : PySem.W.Frag) (pf : Str) (C f : Addr) (q : Str) : Bool := match K.lookup f with
  | some ⟨_, _, .func fd, _⟩ => (match fd.defaults, fd.kwdefaults, fd.annotations, fd.code, fd.closure with
    | .none, .none, none, .ref c, [(_, cc)] => (match K.lookup cc with
      | some ⟨_, _, .cell (some (.ref C')), _⟩ => C' == C
      | _ => false) && (PySem.W.codeIn K (.ref c) q && (match K.lookup c with
      | some ⟨_, _, .fields vs, _⟩ => (match vs[2]? with
        | some (Value.str file _) => pf == file
        | _ => false)
      | _ => false))
    | _, _, _, _, _ => false)
  | _ => false
def IniD.ok (K : PySem.W.Frag) (pf : Str) (d : IniD) : Bool := (He.Fa.glo d.cls).ok K && (oexB K (iC K d.cls) && (excCB K (iC K d.cls) && (xfB K (iC K d.cls) && (iniFB K pf (iC K d.cls) (iF K d.cls) d.qual &&
  (decide (PySem.W.findIn K (.ref (iC K d.cls)) "__init__" = some (some (.ref (iF K d.cls)))) && (decide (PySem.W.typeIn K (.ref (iF K d.cls)) = some (.type "function")) && (PySem.W.keepIn K (.ref (iF K d.cls)) &&
  (decide (PySem.W.findIn K (.ref (iC K d.cls)) d.fld = some none) && (decide (PySem.W.ks_superIn K (iC K d.cls) (iC K d.cls) "__init__" = some (some (.builtin "ValueError.__init__"))) &&
  (decide (PySem.W.subIn K (.ref (iC K d.cls)) (.type "ValueError") = some true) && (decide (PySem.W.nsIn K cStatics "thirdparty.any" = some none) && (decide (PySem.W.mroIn K (iC K d.cls) (.ref (iC K d.cls)) = some true) && ((PySem.W.clsIn K (iC K d.cls)).isSome &&
  decide (PySem.W.exmOne K (.ref (iC K d.cls)) (.ref (iC K d.cls)) = some true))))))))))))))
structure IniOk (P : Program) (K : PySem.W.Frag) (d : IniD) (C : Addr) : Prop where
  glo : (He.Fa.glo d.cls).ok K = true
  ex : ExcC K C
  xf : XfC K C
  no : PySem.W.findIn K (.ref C) d.fld = some none
  exm : PySem.W.exmOne K (.ref C) (.ref C) = some true
  oex : OexC K C
  sup : ∃ f F fd, SupD P K "__init__" d.qual (defArgs d.st) (defBody d.st) (defScope d.st) C f F fd ∧ PySem.W.findIn K (.ref C) "__init__" = some (some (.ref f)) ∧ PySem.W.typeIn K (.ref f) = some (.type "function")
theorem IniD.ok_ok {P : Program} {K : PySem.W.Frag} {d : IniD} (h : d.ok K P.main.file = true) (e : fnC K (iF K d.cls) = d.val) (hp : (P.main.scope.names.lookup ("super" : Str)).isSome = false) : IniOk P K d (iC K d.cls) := by
  unfold IniD.ok at h
  simp only [Bool.and_eq_true, decide_eq_true_eq] at h
  obtain ⟨h1, h2, h3, h4, h5, h6, h7, h8, h9, h10, h11, h12, h13, h14, h15⟩ := h
  have hox := oexB_ok h2
  refine ⟨h1, excCB_ok h3, xfB_ok h4, h9, h15, hox, ?_⟩
  unfold fnC at e
  unfold iniFB at h5
  cases q : K.lookup (iF K d.cls) with
  | none => rw [q] at h5; cases h5
  | some o =>
    obtain ⟨oc, od, dt, osl⟩ := o
    rw [q] at h5 e
    cases dt with
    | func fd =>
      obtain ⟨n1, n2, n3, n4, n5, n6, n7, n8, n9, n10, n11, n12, n13, n14, n15⟩ := fd
      have e2 : (some (n1, n2, n3, n4, n5, n6, n7.map (·.1), n15) : FnC) = (some (("__init__" : Str), d.qual, defArgs d.st, FuncBody.stmts (defBody d.st), defScope d.st, mainGlobals, [("__class__" : Str)], builtinsNs) : FnC) := e
      simp only [Option.some.injEq, Prod.mk.injEq] at e2
      obtain ⟨r1, r2, r3, r4, r5, r6, r7, r8⟩ := e2
      subst r1 r2 r3 r4 r5 r6 r8
      dsimp only at h5
      split at h5
      · rename_i c cx cc
        have r8 : cx = ("__class__" : Str) := by simpa using r7
        subst r8
        simp only [Bool.and_eq_true] at h5
        obtain ⟨u1, u2, u3⟩ := h5
        split at u1
        · rename_i cl cld C' csl hcell
          rw [beq_iff_eq] at u1
          subst u1
          split at u3
          · rename_i ccl cdd vs ccs hco
            split at u3
            · rename_i file tf hv
              refine ⟨iF K d.cls, ⟨"__init__", d.qual, defArgs d.st, defBody d.st, defScope d.st, [("__class__", cc)], c⟩, _, ⟨⟨rfl, rfl, rfl, rfl, rfl⟩, ⟨oc, od, osl, q⟩, ⟨n10, n11, n14, rfl⟩, ⟨cc, cl, cld, csl, rfl, hcell⟩, u2, ⟨ccl, cdd, vs, ccs, file, tf, hco, hv, u3⟩, hox, h10, h11, h12, h13, Option.isSome_iff_exists.mp h14, h8, hp⟩, h6, h7⟩
            · cases u3
          · cases u3
        · cases u1
      · cases h5
    | _ => cases h5
/-! ### the Hook -/
def asS (g : Addr → Option Obj) (n : Nat) : List Addr := He.asD g n ++ [cStatics]
abbrev AlS : Type := He.AlD × (Bool × List FnC)
def obsS (fa : List He.Fa) (fn : List He.DefD) (pf : Str) (ini : List IniD) (ex : PySem.W.Frag → Bool) (K : PySem.W.Frag) : AlS := (He.obsD fa fn K, (ini.all (fun d => d.ok K pf) && ex K, ini.map fun d => fnC K (iF K d.cls)))
def valS (fn : List He.DefD) (ini : List IniD) : AlS := (He.valD fn, (true, ini.map IniD.val))
def SaysS (fa : List He.Fa) (fn : List He.DefD) (pf : Str) (ini : List IniD) (ex : PySem.W.Frag → Bool) (K : PySem.W.Frag) : Prop := obsS fa fn pf ini ex K = valS fn ini
def obsSG (n : Nat) (fa : List He.Fa) (fn : List He.DefD) (pf : Str) (ini : List IniD) (ex : PySem.W.Frag → Bool) (g : Addr → Option Obj) : AlS := obsS fa fn pf ini ex (He.frG g (asS g n))
def hookS (n : Nat) (fa : List He.Fa) (fn : List He.DefD) (pf : Str) (ini : List IniD) (ex : PySem.W.Frag → Bool) : PySem.W.Hook where
  α := AlS
  obs := fun s => obsSG n fa fn pf ini ex s.heap.get?
  val := fun _ => valS fn ini
  says := fun _ h => ∃ K : PySem.W.Frag, K.In h ∧ SaysS fa fn pf ini ex K
  of := fun _ _ e => ⟨_, He.frG_in, e⟩
  keeps := fun _ _ _ ⟨K, hK, c⟩ k => ⟨K, PySem.W.Frag.In.keeps hK k, c⟩
theorem obsSG_eq {n : Nat} {fa : List He.Fa} {fn : List He.DefD} {pf : Str} {ini : List IniD} {ex : PySem.W.Frag → Bool} {g : Addr → Option Obj} {s : Shared} (h : ∀ a, g a = s.heap.get? a) : obsSG n fa fn pf ini ex g = (hookS n fa fn pf ini ex).obs s := by
  have e : g = s.heap.get? := funext h
  rw [e] <;> rfl
section
variable {fa : List He.Fa} {fn : List He.DefD} {pf : Str} {ini : List IniD} {ex : PySem.W.Frag → Bool} {K : PySem.W.Frag}
theorem SaysS.d (c : SaysS fa fn pf ini ex K) : He.SaysD fa fn K := congrArg (fun z : AlS => z.1) c
theorem SaysS.x (c : SaysS fa fn pf ini ex K) : ex K = true := by
  have e : (ini.all (fun d => d.ok K pf) && ex K) = true := congrArg (fun z : AlS => z.2.1) c
  exact (Bool.and_eq_true_iff.mp e).2
theorem SaysS.inis {P : Program} (c : SaysS fa fn P.main.file ini ex K) (hp : (P.main.scope.names.lookup ("super" : Str)).isSome = false) (i : Nat) {d : IniD} (h : ini[i]? = some d := by rfl) : IniOk P K d (iC K d.cls) := by
  have e : (ini.all (fun d => d.ok K P.main.file) && ex K) = true := congrArg (fun z : AlS => z.2.1) c
  have h1 := List.all_eq_true.mp (Bool.and_eq_true_iff.mp e).1 d (List.mem_of_getElem? h)
  have e2 : (ini.map fun d => fnC K (iF K d.cls)) = ini.map IniD.val := congrArg (fun z : AlS => z.2.2) c
  have e3 : (ini.map fun d => fnC K (iF K d.cls))[i]? = (ini.map IniD.val)[i]? := by rw [e2]
  rw [List.getElem?_map, List.getElem?_map, h] at e3
  exact IniD.ok_ok h1 (Option.some.inj e3) hp
end
end D2
/-! ## D2Mk -/
set_option Elab.async false
set_option linter.all false
set_option maxRecDepth 100000
set_option maxHeartbeats 2000000
/-! an own exception class of the head can be raised -/
namespace D2
open PySem PySem.Spec PyProof.Rows L2 NdefX
section
variable {P : Program} {w : World} {K : PySem.W.Frag} {mg : Str → Option Value} {base : Heap} {d : IniD} {C : Addr} {y : Str}
theorem IniOk.mkc {pl : Env → Sem Bool} {ar : Arg} {msg : Str} {kk : Nat} {p0 p1 p2 p3 p4 p5 q1 q2 q3 q4 : Pos} (I : IniOk P K d C) (hg : mg d.cls = some (.ref C)) (hm : mg "super" = none) (S : nscB ["self", y, "__class__"] ["self", y] ["__class__"] (defScope d.st) = true)
    (hy : ((defArgs d.st).posonlyargs ++ (defArgs d.st).args).head? = some ar) (hy2 : ar.arg = "self") (hsu : (defScope d.st).names.lookup ("super" : Str) = some .globalImplicit)
    (hbd : defBody d.st = [.Expr (.Call (.Attribute (.Call (.Name "super" p0) [] [] p1) "__init__" p2) [.Constant (.str msg) kk p5] [] p3) p4, .Assign [.Attribute (.Name "self" q1) d.fld q2] (.Name y q3) q4])
    (hev : ∀ env : Env, eval (.Call (.Attribute (.Call (.Name "super" p0) [] [] p1) "__init__" p2) [.Constant (.str msg) kk p5] [] p3) env = (do
      let ov ← attributeBase (.Call (.Name "super" p0) [] [] p1) "__init__" env (eval (.Call (.Name "super" p0) [] [] p1) env)
      standAt p2.atName
      let (f, first) ← holding [ov] (getMethod ov "__init__" (pl env))
      callWith p3 f first (backTo p3 (starEach [.Constant (.str msg) kk p5] env)) []))
    (hyd : (y == ("__debug__" : Str)) = false ∧ (y == ("__classdict__" : Str)) = false)
    (hb : ∀ (cl : List (Str × Addr)) (c : Addr) (doc pm ctv : Value) (us : List Value), us.length = 2 → bindArgs (PySem.W.fnX "__init__" d.qual (defArgs d.st) (defBody d.st) (defScope d.st) cl .none .none doc pm none (.ref c) ctv) ⟨us, []⟩ = pure (([("self" : Str), y]).zip us)) : MkC P w K mg base d.cls C 1 1 [(d.fld, 0)] (fun _ => True) := by
  obtain ⟨f, F, fd, D, h1, h2⟩ := I.sup
  refine ⟨hg, I.oex, f, fd, ["self", y], h1, h2, ?_, ?_⟩
  · refine ini1 D (nscope_by S) hy hy2 hsu hm hbd I.no hev (fun env => rfl) (fun env => rfl) hyd fun A0 outer s H Q E a v hr _ => ⟨_, pe_str, fun Q' h => h _⟩
  · obtain ⟨doc, pm, ctv, rfl⟩ := D.fd
    obtain ⟨n1, n2, n3, n4, n5⟩ := D.nf
    refine Binds.all fun us hl => ?_
    have z := hb F.cl F.c doc pm ctv us hl
    show bindArgs (PySem.W.fnX F.name F.qual F.params F.body F.scope F.cl .none .none doc pm none (.ref F.c) ctv) ⟨us, []⟩ = _
    rw [n1, n2, n3, n4, n5]
    exact z
end
end D2
/-! ## D2End -/
set_option Elab.async false
set_option linter.all false
set_option maxRecDepth 100000
set_option maxHeartbeats 2000000
/-! the end of a law's proof -/
namespace D2
open PySem PySem.Spec PyProof.Rows L2 NdefX
section
variable {P : Program} {w : World} {K : PySem.W.Frag} {mg : Str → Option Value} {base : Heap} {x qual : Str} {params : Arguments} {body : List Stmt} {scope : Scope} {f : Addr} {fd : FuncData} {k : Nat} {ps : List Str}
theorem callee_of {S : Sp2} (F : FunD K x qual params body scope [] [] f fd) (g : mg x = some (.ref f)) (ok : FnOk P w K mg base (L2N.CX P w) k f fd ps (spOf K S))
    (h : ∀ (kV doc pm : Value) (an : Option Addr) (cdv ct : Value) (us : List Value), us.length = ps.length → bindArgs (PySem.W.fnOf x qual params body scope .none kV doc pm an cdv ct) ⟨us, []⟩ = pure (ps.zip us)) : CalleeG P w K mg base x k S :=
  ⟨f, fd, ps, g, F.kp, F.bindsN h, ok⟩
theorem calleeX_of {S : SpX} (F : FunD K x qual params body scope [] [] f fd) (g : mg x = some (.ref f)) (ok : FnX P w K mg base (L2N.CX P w) k f fd ps (spOfX K S))
    (h : ∀ (kV doc pm : Value) (an : Option Addr) (cdv ct : Value) (us : List Value), us.length = ps.length → bindArgs (PySem.W.fnOf x qual params body scope .none kV doc pm an cdv ct) ⟨us, []⟩ = pure (ps.zip us)) : CalleeX P w K mg base x k S :=
  ⟨f, fd, ps, g, F.kp, F.bindsN h, ok⟩
/-- no exception is wished: none leaves -/
theorem FnOk.noX {sp : Sp} (F : FnOk P w K mg base (L2N.CX P w) k f fd ps sp) : FnOk P w K mg base CX0 k f fd ps (fun vs H Q _ => sp vs H Q fun _ _ _ => False) :=
  ⟨fun vs H Q _ h => F.len vs H Q _ h, fun A outer s H args us vs Q E hr e0 hb r h => codeAny_mono (F.run A outer s H args us vs Q _ hr e0 hb r h) fun a s' hq => by
    match a, hq with
    | .error e, ⟨_, _, _, _, _, _, _, _, _, _, _, _, z⟩ => exact z.elim
    | .ok (.ret u), hq => exact hq⟩
theorem reps_dI {G : Hp} : ∀ ns : List Int, Reps K G (dI ns) (ns.map V.int)
  | [] => .nil
  | _ :: ns => .cons .int (reps_dI ns)
/-- a script of numbers -/
def spScript (n : Nat) : Sp2 := fun rs m Kr Ke => ∃ (ns : List Int), rs = [.dat (.lst (dI ns))] ∧ ns.length ≤ n ∧ m = [] ∧ Kr (rB true) []
theorem script_ok {n : Nat} {H : Hp} {a : Addr} {ns : List Int} (hl : ns.length ≤ n) (hS : SqL K H a (ns.map V.int)) : spOf K (spScript n) [.ref a] H (fun v _ => v = .bl true) fun _ _ _ => False :=
  ⟨[.dat (.lst (dI ns))], [], H, fun r _ => r = rB true, fun _ _ _ => False, ⟨ns, rfl, hl, rfl, rfl⟩, Ex.refl H, List.nodup_nil, (fun p hp => by cases hp), .cons (.dat (.lst hS (reps_dI ns))) .nil, fun r m' G' H' v e _ rv => by
    subst e
    exact bl_of rv, fun _ _ _ _ _ _ z _ _ => z.elim⟩
end
end D2
/-! ## D2Kw -/
set_option Elab.async false
set_option linter.all false
set_option maxRecDepth 100000
set_option maxHeartbeats 2000000
/-! calls with keywords; keyword-only defaults left out -/
namespace D2
open PySem PySem.Spec PyProof.Rows L2
/-- a def some of whose parameters are given by keywords ks, or by their defaults: gR puts positional and keyword data in the parameters' order -/
def CalleeK (P : Program) (w : World) (K : PySem.W.Frag) (mg : Str → Option Value) (base : Heap) (x : Str) (k n : Nat) (ks : List Str) (gR : List R → List R → List R) (S : Sp2) : Prop :=
  ∃ f fd ps g gV, mg x = some (.ref f) ∧ PySem.W.keepIn K (.ref f) = true ∧ KBn K fd ps n ks g gV ∧ FnOk P w K mg base (L2N.CX P w) k f fd ps (spOf K S) ∧
    ∀ (G : Hp) (rs zs : List R) (vs ws : List V), rs.length = n → zs.length = ks.length → RelRs K G rs vs → RelRs K G zs ws → RelRs K G (gR rs zs) (gV vs ws)
section
variable {X : Cx} {c : Ct} {σ : Sl} {m : Mem} {x : Str} {S : Sp2} {k j n : Nat} {e : Expr} {es : List Expr} {K : R → Mem → Prop} {q pos : Pos} {ks : List Str} {gR : List R → List R → List R}
/-- the keywords' values -/
def DKw (X : Cx) (c : Ct) (σ : Sl) (m : Mem) (kws : List Keyword) (K : List R → Mem → Prop) : Prop :=
  ∀ (pos : Pos) (pins : List (Addr × Obj)) (s : Shared) (τ : L2.St) (H G : Hp) (Q : List V → Hp → Prop), Inv X pins τ H s → EnvOk X c σ m G τ H → CA X c σ τ G K Q →
    wpAny (model X.prog X.w) X.A (evalAll ((backToKw pos (keywordEach kws X.env)).map (·.2))) (AP X pins τ Q) X.xe s
theorem dk_nil {K : List R → Mem → Prop} (h : K [] m) : DKw X c σ m [] K := fun pos pins s τ H G Q I E q => wpAny_evalAll_nil ⟨[], H, I, .nil, q [] m G H [] h (Ex.refl G) E .nil⟩
theorem dk_cons {nm : Option Str} {kpos : Pos} {kws : List Keyword} {K : List R → Mem → Prop} (h : DE X c σ m e (fun r m1 => DKw X c σ m1 kws (fun rs m2 => K (r :: rs) m2))) : DKw X c σ m (⟨nm, e, kpos⟩ :: kws) K := fun pos pins s τ H G Q I E q => by
  show wpAny _ _ (evalAll ((do let v ← eval e X.env; standAt pos; pure v) :: (backToKw pos (keywordEach kws X.env)).map (·.2))) _ _ s
  refine wpAny_evalAll_cons (wpAny_bind (thn (h pins s τ H G (fun v H1 => ∃ r m1 G1, Ex G G1 ∧ DKw X c σ m1 kws (fun rs m2 => K (r :: rs) m2) ∧ EnvOk X c σ m1 G1 τ H1 ∧ RelR X.K G1 r v) I E fun r m1 G1 H1 v z x E1 rv => ⟨r, m1, G1, x, z, E1, rv⟩) fun u s1 ⟨v, H1, I1, r1, r, m1, G1, x1, d, E1, rv⟩ => wpAny_bind (wpAny_standAt (wpAny_pure ?_))))
  refine thn (d pos pins s1 τ H1 G1 (fun vs H2 => Q (v :: vs) H2) I1 E1 fun rs m2 G2 H2 vs z x2 E2 rvs => q (r :: rs) m2 G2 H2 (v :: vs) z (x1.trans x2) E2 (.cons (rv.mono x2) rvs)) fun us s2 ⟨xs, H2, I2, r2, q2⟩ => ⟨v :: xs, H2, I2, .cons r1 r2, q2⟩
theorem de_callK {kws : List Keyword} (cl : CalleeK X.prog X.w X.K X.mg X.base x j n ks gR S) (L : Live X c k) (hg : Gl X x) (h : DA X c σ m (e :: es) (fun rs m1 => DKw X c σ m1 kws (fun zs m2 => rs.length = n ∧ zs.length = ks.length ∧ ∃ mf rest, Split m2 mf rest ∧ S (gR rs zs) mf (fun r m' => K r (m' ++ rest)) (fun C fs m' => c.ex σ (m' ++ rest) C fs)))) (hjk : j ≤ k := by decide)
    (hall : (backToKw pos (keywordEach kws X.env)).all (·.1.isSome) = true := by rfl) (hks : (backToKw pos (keywordEach kws X.env)).filterMap (·.1) = ks := by rfl)
    (hdb : (x == ("__debug__" : Str)) = false := by decide) (he : starEach (e :: es) X.env = (false, eval e X.env) :: starEach es X.env := by rfl)
    (hpl : ((backTo pos (starEach (e :: es) X.env)).any (·.1) || (backToKw pos (keywordEach kws X.env)).any (·.1.isNone)) = false := by rfl) : DE X c σ m (.Call (.Name x q) (e :: es) kws pos) K := fun pins s τ H G Q I E qq => by
  obtain ⟨f, fd, ps, g, gV, hm, hk, hb, F, hgr⟩ := cl
  refine wpAny_Call_Name_kw (ld_glob I hg hm ?_ hdb)
  refine PySem.W.callWith_KW (h₀ := X.base) I.ok.mod.kin hk hall (thn (h pos pins s τ H G (fun vs H1 => ∃ rs m1 G1, Ex G G1 ∧ RelRs X.K G1 rs vs ∧ EnvOk X c σ m1 G1 τ H1 ∧ DKw X c σ m1 kws (fun zs m2 => rs.length = n ∧ zs.length = ks.length ∧ ∃ mf rest, Split m2 mf rest ∧ S (gR rs zs) mf (fun r m' => K r (m' ++ rest)) (fun C fs m' => c.ex σ (m' ++ rest) C fs))) I E fun rs m1 G1 H1 vs z x1 E1 rv => ⟨rs, m1, G1, x1, rv, E1, z⟩) fun us s1 ⟨vs, H1, I1, r, rs, m1, G1, x1, rv, E1, d⟩ => ?_) hpl he
  refine thn (d pos pins s1 τ H1 G1 (fun zs H2 => ∃ rs2 m2 G2, Ex G1 G2 ∧ RelRs X.K G2 rs2 zs ∧ EnvOk X c σ m2 G2 τ H2 ∧ rs.length = n ∧ rs2.length = ks.length ∧ ∃ mf rest, Split m2 mf rest ∧ S (gR rs rs2) mf (fun r m' => K r (m' ++ rest)) (fun C fs m' => c.ex σ (m' ++ rest) C fs)) I1 E1 fun rs2 m2 G2 H2 vs z x2 E2 rv2 => ⟨rs2, m2, G2, x2, rv2, E2, z⟩) fun ws s2 ⟨zs, H2, I2, rz, rs2, m2, G2, x2, rv2, E2, l1, l2, mf, rest, hs, z⟩ => ⟨I2.kIn, ?_⟩
  rw [hks]
  refine wpAny_call (codeAny_mono ((F.mono hjk).run X.A X.stack s2 H2 ⟨us, ks.zip ws⟩ (g us ws) (gV vs zs) Q (WE (Wx X c) τ) L.room I2.env0 (hb.to s2 us ws I2.kIn (r.length.symm.trans (by rw [← rv.length]; exact l1)) (rz.length.symm.trans (by rw [← rv2.length]; exact l2))) (hb.rel r rz) (callee_sp E2 hs (hgr G2 rs rs2 vs zs l1 l2 (rv.mono x2) rv2) z (qq.mono (x1.trans x2)))) fun a s' hq => ?_)
  match a, hq with
  | .error e, hq => exact L2N.passAt L.tk τ pins H2 s2 e s' I2 hq
  | .ok (.ret u), hq => exact I2.after hq
/-- a def called with its last defaults left out -/
def CalleeD (P : Program) (w : World) (K : PySem.W.Frag) (mg : Str → Option Value) (base : Heap) (x : Str) (k : Nat) (drs : List R) (S : Sp2) : Prop :=
  ∃ f fd ps ds dvs, mg x = some (.ref f) ∧ PySem.W.keepIn K (.ref f) = true ∧ Binds K fd ps ds ∧ Vals dvs ds ∧ FnOk P w K mg base (L2N.CX P w) k f fd ps (spOf K S) ∧ ∀ G : Hp, RelRs K G drs dvs
theorem de_callD {drs : List R} (cl : CalleeD X.prog X.w X.K X.mg X.base x j drs S) (L : Live X c k) (hg : Gl X x) (h : DA X c σ m (e :: es) (fun rs m1 => ∃ mf rest, Split m1 mf rest ∧ S (rs ++ drs) mf (fun r m' => K r (m' ++ rest)) (fun C fs m' => c.ex σ (m' ++ rest) C fs))) (hjk : j ≤ k := by decide)
    (hdb : (x == ("__debug__" : Str)) = false := by decide) (he : starEach (e :: es) X.env = (false, eval e X.env) :: starEach es X.env := by rfl) (hpl : (backTo pos (starEach es X.env)).any (·.1) = false := by rfl) : DE X c σ m (.Call (.Name x q) (e :: es) [] pos) K := fun pins s τ H G Q I E qq => by
  obtain ⟨f, fd, ps, ds, dvs, hm, hk, hb, hd, F, hdr⟩ := cl
  refine (pe_callSD (F.mono hjk) L.room hg hm hk hb hd (fun τ => L2N.passAt L.tk τ) (pa_t (c := c)) hdb he hpl).run pins s τ H Q I ?_
  exact ⟨σ, m, G, _, E, h, fun rs m1 G1 H1 vs ⟨mf, rest, hs, z⟩ x1 E1 rv => callee_sp E1 hs (rv.append (hdr G1)) z (qq.mono x1)⟩
end
end D2
/-! ## D2Ins -/
set_option Elab.async false
set_option linter.all false
set_option maxRecDepth 100000
set_option maxHeartbeats 2000000
/-! instances of own classes: owned, or data -/
namespace D2
open PySem PySem.Spec PyProof.Rows L2
section
variable {Kf : PySem.W.Frag} {G : Hp}
theorem RepF.relF : ∀ {fs : List (Str × D)} {vs : List (Str × V)}, RepF Kf G fs vs → RelF Kf G (fs.map fun p => (p.1, R.dat p.2)) vs
  | _, _, .nil => .nil
  | _, _, .cons h t => .cons (.dat h) t.relF
theorem RelF.keys : ∀ {fs : List (Str × R)} {vs : List (Str × V)}, RelF Kf G fs vs → vs.map (·.1) = fs.map (·.1)
  | _, _, .nil => rfl
  | _, _, .cons h t => by rw [List.map_cons, List.map_cons, t.keys]
theorem RelF.length {fs : List (Str × R)} {vs : List (Str × V)} (h : RelF Kf G fs vs) : vs.length = fs.length := by
  have := congrArg List.length h.keys
  rwa [List.length_map, List.length_map] at this
theorem RelF.at {f : Str} {r : R} : ∀ {fs : List (Str × R)} {vs : List (Str × V)}, RelF Kf G fs vs → fs.lookup f = some r → ∃ v, vs.lookup f = some v ∧ RelR Kf G r v
  | _, _, .nil, e => by cases e
  | _, _, .cons (k := k) (r := x) (v := v) (rs := rs) (vs := vs) h t, e => by
    rw [List.lookup_cons] at e ⊢
    cases q : (f == k) with
    | true => rw [q] at e; cases e; exact ⟨v, rfl, h⟩
    | false => rw [q] at e; exact RelF.at t e
theorem RelF.off {f : Str} : ∀ {fs : List (Str × R)} {vs : List (Str × V)}, RelF Kf G fs vs → fs.lookup f = none → vs.lookup f = none
  | _, _, .nil, e => rfl
  | _, _, .cons (k := k) (r := x) (v := v) (rs := rs) (vs := vs) h t, e => by
    rw [List.lookup_cons] at e ⊢
    cases q : (f == k) with
    | true => rw [q] at e; cases e
    | false => rw [q] at e; exact RelF.off t e
def putFR (f : Str) (r : R) : List (Str × R) → List (Str × R)
  | [] => [(f, r)]
  | (g, x) :: l => if g = f then (g, r) :: l else (g, x) :: putFR f r l
theorem RelF.put {f : Str} {r : R} {v : V} (rv : RelR Kf G r v) : ∀ {fs : List (Str × R)} {vs : List (Str × V)}, RelF Kf G fs vs → RelF Kf G (putFR f r fs) (putF f v vs)
  | _, _, .nil => .cons rv .nil
  | _, _, .cons (k := k) h t => by
    rw [putFR, putF]
    by_cases q : k = f
    · rw [if_pos q, if_pos q]; exact .cons rv t
    · rw [if_neg q, if_neg q]; exact .cons h (RelF.put rv t)
end
/-- seen as an instance of the class at C with these fields -/
inductive VO (m : Mem) : R → Addr → List (Str × R) → Prop
  | own {a C dx fs m'} : Has m a (.ins C dx fs) m' → VO m (.own a) C fs
  | dat {C fs} : VO m (.dat (.ins C fs)) C (fs.map fun p => (p.1, R.dat p.2))
section
variable {X : Cx} {c : Ct} {σ : Sl} {m m' : Mem} {G : Hp} {τ : L2.St} {H : Hp} {r : R} {v : V} {C : Addr} {fs : List (Str × R)} {f mn x : Str} {e o : Expr} {es : List Expr} {K : R → Mem → Prop} {pos apos pos' p : Pos} {k j : Nat} {S : Sp2}
theorem VO.at (h : VO m r C fs) (E : EnvOk X c σ m G τ H) (rv : RelR X.K G r v) : ∃ a dx vs, v = .ref a ∧ H a = some (.ins C dx vs) ∧ RelF X.K G fs vs := by
  cases h with
  | own hh =>
    cases rv
    obtain ⟨_, ho, eh, ro⟩ := E.mem _ hh.mem
    cases ro with | ins rf => exact ⟨_, _, _, rfl, eh, rf⟩
  | dat =>
    cases rv with | dat rv =>
    cases rv with | ins ea rf => exact ⟨_, _, _, rfl, E.sub _ _ ea, rf.relF⟩
/-- e.f -/
theorem de_fld (cl : Cls X.K C) (na : NoAttr X.K C f) (h : DE X c σ m e (fun ro m1 => ∃ fs r, VO m1 ro C fs ∧ fs.lookup f = some r ∧ K r m1)) (hb : attributeBase e f X.env (eval e X.env) = eval e X.env := by rfl) : DE X c σ m (.Attribute e f pos) K :=
  fun pins s τ H G Q I E q => (pe_fld (pe_t (c := c)) hb).run pins s τ H Q I ⟨σ, m, G, _, E, h, fun ro m1 G1 H1 v ⟨fs, r, hv, hl, z⟩ x1 E1 rv => by
    obtain ⟨a, dx, vs, ev, ea, rf⟩ := hv.at E1 rv
    obtain ⟨u, hu, ru⟩ := rf.at hl
    exact ⟨a, C, dx, vs, u, ev, ea, cl, na, hu, q r m1 G1 H1 u z x1 E1 ru⟩⟩
/-- o.f = e -/
theorem ds_fld {en : En} (cl : Cls X.K C) (na : NoAttr X.K C f) (h : DE X c σ m e (fun rv m1 => DE X c σ m1 o (fun ro m2 => ∃ a dx fs m3, ro = .own a ∧ Chg m2 a (.ins C dx fs) (.ins C dx (putFR f rv fs)) m3 ∧ fs.length < 1000 ∧ en.nx σ m3)))
    (hs : swapsWith e (some (.Attribute o f pos')) pos.line X.env = pure false := by rfl) : DS X c σ m (.Assign [.Attribute o f pos'] e pos) en := fun F pins s τ H G D I E fx ft => by
  refine plainObj_wpAny_Assign_Attribute (thn (h pins s τ H G (fun v H1 => ∃ rv m1 G1, Ex G G1 ∧ EnvOk X c σ m1 G1 τ H1 ∧ RelR X.K G1 rv v ∧ DE X c σ m1 o (fun ro m2 => ∃ a dx fs m3, ro = .own a ∧ Chg m2 a (.ins C dx fs) (.ins C dx (putFR f rv fs)) m3 ∧ fs.length < 1000 ∧ en.nx σ m3)) I E fun rv m1 G1 H1 v z x1 E1 rr => ⟨rv, m1, G1, x1, E1, rr, z⟩) fun u s1 ⟨y, H1, I1, ry, rv, m1, G1, x1, E1, rr, d⟩ => ?_) hs
  refine thn (d pins s1 τ H1 G1 (fun v H2 => ∃ ro m2 G2, Ex G1 G2 ∧ EnvOk X c σ m2 G2 τ H2 ∧ RelR X.K G2 ro v ∧ ∃ a dx fs m3, ro = .own a ∧ Chg m2 a (.ins C dx fs) (.ins C dx (putFR f rv fs)) m3 ∧ fs.length < 1000 ∧ en.nx σ m3) I1 E1 fun ro m2 G2 H2 v z x2 E2 rr2 => ⟨ro, m2, G2, x2, E2, rr2, z⟩) fun ov s2 ⟨z, H2, I2, rz, ro, m2, G2, x2, E2, rr2, a, dx, fs, m3, er, hc, hl, hn⟩ => ?_
  subst er
  cases rr2
  obtain rfl : ov = Value.ref a := rz
  obtain ⟨_, ho, eh, ro⟩ := E2.mem _ hc.mem
  cases ro with | ins rf =>
  refine setattr_ok I2 eh cl na (by rw [rf.length]; exact hl) ry fun s3 I3 => ⟨τ, _, I3, ?_⟩
  exact ft.nx σ m3 G2 τ _ hn ((fx.trans x1).trans x2) (E2.chg hc (.ins (rf.put (rr.mono x2))))
end
/-- the owned objects in another order -/
theorem dss_perm {X : Cx} {c : Ct} {σ : Sl} {m m' : Mem} {sts : List Stmt} {en : En} (p : m.Perm m') (h : DSs X c σ m' sts en) : DSs X c σ m sts en := fun F pins s τ H G D I E x f =>
  h F pins s τ H G D I (E.drop (fun q hq => p.mem_iff.mpr hq) ((p.map _).nodup_iff.mp E.nd)) x f
theorem ds_perm {X : Cx} {c : Ct} {σ : Sl} {m m' : Mem} {st : Stmt} {en : En} (p : m.Perm m') (h : DS X c σ m' st en) : DS X c σ m st en := fun F pins s τ H G D I E x f =>
  h F pins s τ H G D I (E.drop (fun q hq => p.mem_iff.mpr hq) ((p.map _).nodup_iff.mp E.nd)) x f
theorem de_perm {X : Cx} {c : Ct} {σ : Sl} {m m' : Mem} {e : Expr} {K : R → Mem → Prop} (p : m.Perm m') (h : DE X c σ m' e K) : DE X c σ m e K := fun pins s τ H G Q I E q =>
  h pins s τ H G Q I (E.drop (fun q hq => p.mem_iff.mpr hq) ((p.map _).nodup_iff.mp E.nd)) q
theorem perm3 {α : Type} {a b c : α} {l : List α} : (a :: b :: c :: l).Perm (c :: b :: a :: l) := ((List.Perm.swap b a (c :: l)).trans ((List.Perm.swap c a l).cons b)).trans (List.Perm.swap c b (a :: l))
/-- a method of the class at C keeps a promise -/
structure CalleeM (P : Program) (w : World) (K : PySem.W.Frag) (mg : Str → Option Value) (base : Heap) (C : Addr) (mn : Str) (k : Nat) (S : Sp2) : Prop where
  cls : Cls K C
  run : ∃ f fd ps, Meth K C mn f ∧ Binds K fd ps [] ∧ FnOk P w K mg base (L2N.CX P w) k f fd ps (spOf K S)
/-- the class called x is made by its __init__ -/
structure CalleeI (P : Program) (w : World) (K : PySem.W.Frag) (mg : Str → Option Value) (base : Heap) (x : Str) (C : Addr) (k : Nat) (S : Sp2) : Prop where
  gl : mg x = some (.ref C)
  run : ∃ f fd ps, Mk K C f ∧ Binds K fd ps [] ∧ FnOk P w K mg base (L2N.CX P w) k f fd ps (spOf K S)
section
variable {X : Cx} {c : Ct} {σ : Sl} {m m' : Mem} {G : Hp} {τ : L2.St} {H : Hp} {r : R} {v : V} {C : Addr} {fs : List (Str × R)} {f mn x : Str} {e o : Expr} {es : List Expr} {K : R → Mem → Prop} {pos apos pos' p : Pos} {k j : Nat} {S : Sp2}
/-- what is asked of a method's call -/
abbrev MPost (X : Cx) (c : Ct) (σ : Sl) (S : Sp2) (K : R → Mem → Prop) (ro : R) (rs : List R) (m2 : Mem) : Prop := ∃ mf rest, Split m2 mf rest ∧ S (ro :: rs) mf (fun r m' => K r (m' ++ rest)) (fun C fs m' => c.ex σ (m' ++ rest) C fs)
/-- o.m(e, ..) -/
theorem de_meth {pl : Sem Bool} (cl : CalleeM X.prog X.w X.K X.mg X.base C mn j S) (L : Live X c k) (h : DE X c σ m o (fun ro m1 => (∃ fs, VO m1 ro C fs ∧ fs.lookup mn = none) ∧ DA X c σ m1 (e :: es) (fun rs m2 => MPost X c σ S K ro rs m2))) (hjk : j ≤ k := by decide)
    (hst : starEach (e :: es) X.env = (false, eval e X.env) :: starEach es X.env := by rfl) (hpl : (backTo pos (starEach es X.env)).any (·.1) = false := by rfl)
    (ht : eval (.Call (.Attribute o mn apos) (e :: es) [] pos) X.env = (do
      let ov ← eval o X.env
      standAt apos.atName
      let (f, first) ← holding [ov] (getMethod ov mn pl)
      callWith pos f first (backTo pos (starEach (e :: es) X.env)) (backToKw pos (keywordEach [] X.env))) := by rfl) :
    DE X c σ m (.Call (.Attribute o mn apos) (e :: es) [] pos) K := fun pins s τ H G Q I E q => by
  obtain ⟨cls, f, fd, ps, hm, hb, F⟩ := cl
  refine PySem.W.methodCall_KW (pl := pl) (thn (h pins s τ H G (fun v H1 => ∃ ro m1 G1, Ex G G1 ∧ EnvOk X c σ m1 G1 τ H1 ∧ RelR X.K G1 ro v ∧ (∃ fs, VO m1 ro C fs ∧ fs.lookup mn = none) ∧ DA X c σ m1 (e :: es) (fun rs m2 => MPost X c σ S K ro rs m2)) I E fun ro m1 G1 H1 v z x1 E1 rr => ⟨ro, m1, G1, x1, E1, rr, z.1, z.2⟩) fun u s1 ⟨x, H1, I1, rx, ro, m1, G1, x1, E1, rr, ⟨fs, hv, hl⟩, d⟩ => ?_) ht
  obtain ⟨a, dx, vs, rfl, ea, rf⟩ := hv.at E1 rr
  obtain rfl : u = Value.ref a := rx
  refine getmeth_ok I1 ea cls hm (rf.off hl) ?_
  refine PySem.W.callWith_K (first := [.ref a]) (h₀ := X.base) I.ok.mod.kin hm.kp (thn (d pos pins s1 τ H1 G1 (fun vs H2 => ∃ rs m2 G2, Ex G1 G2 ∧ EnvOk X c σ m2 G2 τ H2 ∧ RelRs X.K G2 rs vs ∧ MPost X c σ S K ro rs m2) I1 E1 fun rs m2 G2 H2 vs z x2 E2 rr2 => ⟨rs, m2, G2, x2, E2, rr2, z⟩) fun us s2 ⟨vs, H2, I2, r2, rs, m2, G2, x2, E2, rr2, mf, rest, hs, z⟩ => ⟨I2.kIn, ?_⟩) hst hpl
  exact run_fnS (E := WE (Wx X c)) (us := .ref a :: us) (vs := .ref a :: vs) (F.mono hjk) L.room hb (L2N.passAt L.tk τ) I2 (.cons rfl r2) (callee_sp E2 hs (.cons (rr.mono x2) rr2) z (q.mono (x1.trans x2)))
/-- o.m() -/
theorem de_meth0 {pl : Sem Bool} (cl : CalleeM X.prog X.w X.K X.mg X.base C mn j S) (L : Live X c k) (h : DE X c σ m o (fun ro m1 => (∃ fs, VO m1 ro C fs ∧ fs.lookup mn = none) ∧ MPost X c σ S K ro [] m1)) (hjk : j ≤ k := by decide)
    (ht : eval (.Call (.Attribute o mn apos) [] [] pos) X.env = (do
      let ov ← eval o X.env
      standAt apos.atName
      let (f, first) ← holding [ov] (getMethod ov mn pl)
      callWith pos f first (backTo pos (starEach [] X.env)) (backToKw pos (keywordEach [] X.env))) := by rfl) :
    DE X c σ m (.Call (.Attribute o mn apos) [] [] pos) K := fun pins s τ H G Q I E q => by
  obtain ⟨cls, f, fd, ps, hm, hb, F⟩ := cl
  refine PySem.W.methodCall_KW (pl := pl) (thn (h pins s τ H G (fun v H1 => ∃ ro m1 G1, Ex G G1 ∧ EnvOk X c σ m1 G1 τ H1 ∧ RelR X.K G1 ro v ∧ (∃ fs, VO m1 ro C fs ∧ fs.lookup mn = none) ∧ MPost X c σ S K ro [] m1) I E fun ro m1 G1 H1 v z x1 E1 rr => ⟨ro, m1, G1, x1, E1, rr, z.1, z.2⟩) fun u s1 ⟨x, H1, I1, rx, ro, m1, G1, x1, E1, rr, ⟨fs, hv, hl⟩, mf, rest, hs, z⟩ => ?_) ht
  obtain ⟨a, dx, vs, rfl, ea, rf⟩ := hv.at E1 rr
  obtain rfl : u = Value.ref a := rx
  refine getmeth_ok I1 ea cls hm (rf.off hl) ?_
  exact PySem.W.callWith_K0 (first := [.ref a]) I1.kIn hm.kp (run_fnS (E := WE (Wx X c)) (us := [.ref a]) (vs := [.ref a]) (F.mono hjk) L.room hb (L2N.passAt L.tk τ) I1 (.cons rfl .nil) (callee_sp E1 hs (.cons rr .nil) z (q.mono x1)))
/-- what is asked of a class's call -/
abbrev IPost (X : Cx) (c : Ct) (σ : Sl) (S : Sp2) (C : Addr) (K : R → Mem → Prop) (rs : List R) (m1 : Mem) : Prop :=
  ∀ p dx, ∃ mf rest, Split m1 mf rest ∧ S (.own p :: rs) ((p, .ins C dx []) :: mf) (fun r m' => r = .dat .non ∧ K (.own p) (m' ++ rest)) (fun C' fs m' => c.ex σ (m' ++ rest) C' fs)
theorem split_in {p : Addr} {o : O} {m mf rest : Mem} (h : Split m mf rest) : Split ((p, o) :: m) ((p, o) :: mf) rest := .cons .here h
theorem run_init {f : Addr} {fd : FuncData} {ps : List Str} {pins : List (Addr × Obj)} {s : Shared} {us : List Value} {vs : List V} {rs : List R} {Q : VK} (M : Mk X.K C f) (hb : Binds X.K fd ps []) (F : FnOk X.prog X.w X.K X.mg X.base (L2N.CX X.prog X.w) j f fd ps (spOf X.K S)) (L : Live X c k) (hjk : j + 1 ≤ k)
    (I : Inv X pins τ H s) (E : EnvOk X c σ m G τ H) (r : Vals vs us) (rr : RelRs X.K G rs vs) (h : IPost X c σ S C K rs m) (q : CK X c σ τ G K Q) : wpAny (model X.prog X.w) X.A (call (.ref C) us) (EP X pins τ Q) X.xe s := by
  have hx : H (s.heap.objs.size + 1) = none := I.hok.fresh (Nat.le_succ _)
  have hdx : H s.heap.objs.size = none := I.hok.fresh (Nat.le_refl _)
  have ne : s.heap.objs.size + 1 ≠ s.heap.objs.size := Nat.succ_ne_self _
  have I2 := Inv.made (C := C) I
  have r2 : Vals (V.ref (s.heap.objs.size + 1) :: vs) (Value.ref (s.heap.objs.size + 1) :: us) := .cons rfl r
  have E2 : EnvOk X c σ m (L2.upd G s.heap.objs.size (.own (s.heap.objs.size + 1))) τ (L2.upd H s.heap.objs.size (.own (s.heap.objs.size + 1))) := E.newG hdx
  have E3 := E2.new (p := s.heap.objs.size + 1) (o := .ins C s.heap.objs.size []) (ho := .ins C s.heap.objs.size []) (by rw [upd_ne ne]; exact hx) (.ins .nil)
  have gdx : G s.heap.objs.size = none := E.sub.back hdx
  obtain ⟨mf, rest, hs, z⟩ := h (s.heap.objs.size + 1) s.heap.objs.size
  have hq := callee_sp (K := fun r m' => r = .dat .non ∧ K (.own (s.heap.objs.size + 1)) m') (Q := fun v H2 => v = .non ∧ Q (.ref (s.heap.objs.size + 1)) H2) E3 (split_in hs) (.cons .own (rr.mono (Ex.new gdx))) z (fun r m' G' H' v ⟨er, kz⟩ x' E' rv => by
    subst er
    cases rv with | dat rv => cases rv; exact ⟨rfl, q _ m' G' H' _ kz ((Ex.new gdx).trans x') E' .own⟩)
  have hl : (Value.ref (s.heap.objs.size + 1) :: us).length = ps.length := by
    have e := r2.length
    rw [F.len _ _ _ _ hq] at e
    exact e.symm
  have b := hb { s with heap := (s.heap.push PySem.W.emptyDict).push (PySem.W.instObj C s.heap.objs.size) } (Value.ref (s.heap.objs.size + 1) :: us) I2.kIn (by rw [List.append_nil]; exact hl)
  rw [List.append_nil] at b
  refine wpAny_call (make_map (f := f) I.kIn M.makes M.init (beq_iff_eq.mp M.fn) (codeAny_mono ((F.mono (show j ≤ j from Nat.le_refl j)).run _ X.stack _ _ ⟨Value.ref (s.heap.objs.size + 1) :: us, []⟩ (Value.ref (s.heap.objs.size + 1) :: us) _ _ (WE (Wx X c) τ) ((L.room.mono hjk).make C us [])
    (I2.env0.make C us []) b r2 hq) fun r s' hq' => ?_))
  cases r with
  | error e => exact L2N.passAt L.tk τ pins _ _ e s' I2 hq'
  | ok fl =>
    cases fl with
    | ret u =>
      obtain ⟨v, H', I3, rv, ev, q3⟩ := I2.after hq'
      subst ev
      exact ⟨rv, ⟨V.ref (s.heap.objs.size + 1), H', I3, rfl, q3⟩⟩
    | next => exact False.elim hq'
    | brk => exact False.elim hq'
    | cont => exact False.elim hq'
/-- C(e, ..) -/
theorem de_make (cl : CalleeI X.prog X.w X.K X.mg X.base x C j S) (L : Live X c k) (hg : Gl X x) (h : DA X c σ m (e :: es) (fun rs m1 => IPost X c σ S C K rs m1)) (hjk : j + 1 ≤ k := by decide)
    (hdb : (x == ("__debug__" : Str)) = false := by decide) (he : starEach (e :: es) X.env = (false, eval e X.env) :: starEach es X.env := by rfl) (hpl : (backTo pos (starEach es X.env)).any (·.1) = false := by rfl) : DE X c σ m (.Call (.Name x p) (e :: es) [] pos) K := fun pins s τ H G Q I E q => by
  obtain ⟨hm, f, fd, ps, M, hb, F⟩ := cl
  refine wpAny_Call_Name_kw (ld_glob I hg hm ?_ hdb)
  refine PySem.W.callWith_K (h₀ := X.base) I.ok.mod.kin M.kp (thn (h pos pins s τ H G (fun vs H1 => ∃ rs m1 G1, Ex G G1 ∧ EnvOk X c σ m1 G1 τ H1 ∧ RelRs X.K G1 rs vs ∧ IPost X c σ S C K rs m1) I E fun rs m1 G1 H1 vs z x1 E1 rr => ⟨rs, m1, G1, x1, E1, rr, z⟩) fun us s1 ⟨vs, H1, I1, r, rs, m1, G1, x1, E1, rr, z⟩ => ⟨I1.kIn, ?_⟩) he hpl
  exact run_init M hb F L hjk I1 E1 r rr z (q.mono x1)
/-- C() -/
theorem de_make0 (cl : CalleeI X.prog X.w X.K X.mg X.base x C j S) (L : Live X c k) (hg : Gl X x) (h : IPost X c σ S C K [] m) (hjk : j + 1 ≤ k := by decide)
    (hdb : (x == ("__debug__" : Str)) = false := by decide) : DE X c σ m (.Call (.Name x p) [] [] pos) K := fun pins s τ H G Q I E q => by
  obtain ⟨hm, f, fd, ps, M, hb, F⟩ := cl
  refine wpAny_Call_Name_kw (ld_glob I hg hm ?_ hdb)
  exact PySem.W.callWith_K0 I.kIn M.kp (run_init M hb F L hjk I E .nil .nil h q)
end
section
variable {P : Program} {w : World} {K : PySem.W.Frag} {mg : Str → Option Value} {base : Heap} {C : Addr} {mn x : Str} {k : Nat} {S : Sp2} {X : Cx} {N : List Str} {sc : Scope}
theorem Def.calleeM (D : Def X P w K mg base N sc) (h : CalleeM P w K mg base C mn k S) : CalleeM X.prog X.w X.K X.mg X.base C mn k S := by
  rw [D.prog, D.w, D.K, D.mg, D.base]; exact h
theorem Def.calleeI (D : Def X P w K mg base N sc) (h : CalleeI P w K mg base x C k S) : CalleeI X.prog X.w X.K X.mg X.base x C k S := by
  rw [D.prog, D.w, D.K, D.mg, D.base]; exact h
theorem Def.cls (D : Def X P w K mg base N sc) (h : Cls K C) : Cls X.K C := by rw [D.K]; exact h
theorem Def.noat (D : Def X P w K mg base N sc) {f : Str} (h : NoAttr K C f) : NoAttr X.K C f := by rw [D.K]; exact h
end
end D2
/-! ## D2N -/
set_option Elab.async false
set_option linter.all false
set_option maxRecDepth 100000
set_option maxHeartbeats 2000000
/-! dicts read: d[k], k in d, k not in d; dicts with nested keys -/
namespace D2
open PySem PySem.Spec PyProof.Rows L2
theorem tail_D {prog : Program} {w : World} {A : Around} {E : Value → Shared → Prop} {s : Shared} {value slice : Expr} {T id : String} {o i : Value} {Q : Value → Shared → Prop}
    (hT : s.TypeIs o T) (hl : typeLookup (.type T) "__getitem__" = pure (some (.builtin id))) (hs : subscripted slice false o i = operate [o, i] (getItem o i))
    (h₂ : wpAny (model prog w) A (getItem o i) Q E s) : wpAny (model prog w) A (subscriptTail value slice o i) Q E s := by
  unfold subscriptTail
  refine wpAny_bind ?_
  rw [getitemInPython_of_ne hT.not_modules]
  refine wpAny_bind (wpAny_specialOf hT hl ?_)
  have fin : wpAny (model prog w) A (subscripted slice false o i) (fun r s₃ => wpAny (model prog w) A (letTemporaryGo value o r >>= fun _ => pure r) Q E s₃) E s := by
    rw [hs]
    exact wpAny_operating (wpAny_mono h₂ (fun r s₃ h₃ => wpAny_bind (wpAny_letTemporaryGo (wpAny_pure h₃))) fun _ _ x => x)
  first
    | exact wpAny_pure (wpAny_bind fin)
    | exact wpAny_bind (wpAny_pure (wpAny_bind fin))
    | exact wpAny_bind fin
section
variable {X : Cx} {c : Ct} {σ : Sl} {m m' : Mem} {k : Nat} {K : R → Mem → Prop} {ea eb : Expr} {a : Addr} {rk r : R} {kk : Key} {kvs : List (Key × R)}
def valR {κ : Type} [DecidableEq κ] (kvs : List (κ × R)) (k : κ) : Option R := (kvs.find? fun kv => decide (kv.1 = k)).map (·.2)
theorem relK_val {Kf : PySem.W.Frag} {G : Hp} {kvs : List (Key × R)} {vs : List (Key × V)} (h : RelK Kf G kvs vs) (k : Key) : (∀ r, valR kvs k = some r → ∃ v, valV vs k = some v ∧ RelR Kf G r v) ∧ (valR kvs k = none → valV vs k = none) := by
  induction h with
  | nil => exact ⟨(fun r e => by cases e), fun _ => rfl⟩
  | @cons k' r' v' kvs vs h1 h2 ih =>
    unfold valR valV
    rw [List.find?_cons, List.find?_cons]
    by_cases e : k' = k
    · rw [decide_eq_true e]
      exact ⟨fun r q => by cases q; exact ⟨_, rfl, h1⟩, fun q => by cases q⟩
    · rw [decide_eq_false e]
      exact ih
/-- d[k] -/
theorem x_dk (L : Live X c k) (hh : Has m a (.dk kvs) m') (hk : IsKey rk kk) (hv : valR kvs kk = some r) (z : K r m) : IX X c σ m ea eb (.own a) rk K := fun pins s τ H G v1 v2 u1 u2 Q I E q1 q2 p1 p2 q hs => by
  cases q1
  obtain rfl : u1 = Value.ref a := p1
  obtain ⟨_, ho, hho, ro⟩ := E.mem _ hh.mem
  cases ro with | @dk _ vs ro =>
  obtain ⟨v, e1, rv⟩ := (relK_val ro kk).1 r hv
  rw [hk.v q2] at p2
  have g : DGet H a (kV kk) (some v) := by rw [← e1]; exact DGet.k hho
  refine tail_D (dict_typeIs I g) PySem.F.slot_dict_getitem.lookup hs (d_getItem (by have := L.room.units; omega) I g p2 fun w' s' I' rw' => ?_)
  exact ⟨v, H, I', rw', q.now z E rv⟩
/-- k in d -/
theorem o_inK (L : Live X c k) (hh : Has m a (.dk kvs) m') (hk : IsKey rk kk) (z : K (rB (valR kvs kk).isSome) m) : OP X c σ m (compareOp .In) rk (.own a) K := fun pins s τ H G v1 v2 u1 u2 Q I E q1 q2 p1 p2 q => by
  cases q2
  obtain rfl : u2 = Value.ref a := p2
  obtain ⟨_, ho, hho, ro⟩ := E.mem _ hh.mem
  cases ro with | @dk _ vs ro =>
  rw [hk.v q1] at p1
  have e : (valV vs kk).isSome = (valR kvs kk).isSome := by
    cases hv : valR kvs kk with
    | none => rw [(relK_val ro kk).2 hv]; rfl
    | some r =>
      obtain ⟨v, e1, _⟩ := (relK_val ro kk).1 r hv
      rw [e1]; rfl
  refine d_in (by have := L.room.units; omega) I (DGet.k hho) p1 fun s' I' => ⟨.bl _, H, I', rfl, ?_⟩
  rw [e]
  exact q.now z E (.dat .bl)
end

/-! ### dicts with nested keys -/
section
variable {X : Cx} {pins : List (Addr × Obj)} {τ : L2.St} {H : Hp} {s : Shared} {G : Hp}
mutual
theorem key_is (I : Inv X pins τ H s) (e : Ex G H) : ∀ (k : NestedKey) {v : V} {u : Value}, Rep X.K G (nD k) v → RelV v u → NestedIs s.heap k u
  | .none, _, _, h, r => by
    cases h
    cases (show _ = _ from r)
    exact .none
  | .num i, _, _, h, r => by
    cases h
    obtain ⟨t, rfl⟩ := r
    exact .int i t
  | .text x, _, _, h, r => by
    cases h
    obtain ⟨t, rfl⟩ := r
    rw [sOf_lit]
    exact .text x t
  | .tup ks, _, _, h, r => by
    cases h with | @tup a xs vs hs rr =>
    cases r
    obtain ⟨its, rv, ⟨o, ho, hc, n, hd⟩, _⟩ := I.tuple (ex_t e hs)
    exact .tup ho hc hd (by simpa using keys_is I e ks rr rv)
theorem keys_is (I : Inv X pins τ H s) (e : Ex G H) : ∀ (ks : List NestedKey) {vs : List V} {us : List Value}, Reps X.K G (nDs ks) vs → Vals vs us → NestedAll s.heap ks us
  | [], _, _, .nil, .nil => .nil
  | k :: ks, _, _, .cons h t, .cons r q => .cons (key_is I e k h r) (keys_is I e ks t q)
end
theorem KeyAt.is {k : NestedKey} {b : Addr} (I : Inv X pins τ H s) (e : Ex G H) (h : KeyAt X.K G k b) : (nestedKind X.prog X.w).is s.heap k b := ⟨key_is I e k h.1 rfl, h.2⟩
abbrev findA (xs : List (NestedKey × Addr × V)) (k : NestedKey) : Option (NestedKey × Addr × V) := xs.find? fun x => decide (x.1 = k)
def putA (xs : List (NestedKey × Addr × V)) (k : NestedKey) (b : Addr) (v : V) : List (NestedKey × Addr × V) := if (findA xs k).isSome = true then xs.map (fun x => if x.1 = k then (x.1, x.2.1, v) else x) else xs ++ [(k, b, v)]
def putN (kvs : List (NestedKey × R)) (k : NestedKey) (r : R) : List (NestedKey × R) := if (valR kvs k).isSome = true then kvs.map (fun kv => if kv.1 = k then (kv.1, r) else kv) else kvs ++ [(k, r)]
theorem relN_len {Kf : PySem.W.Frag} {kvs : List (NestedKey × R)} {xs : List (NestedKey × Addr × V)} (h : RelN Kf G kvs xs) : kvs.length = xs.length := by
  induction h with
  | nil => rfl
  | cons _ _ _ ih => simp [ih]
theorem relN_some {Kf : PySem.W.Frag} {kvs : List (NestedKey × R)} {xs : List (NestedKey × Addr × V)} (h : RelN Kf G kvs xs) (k : NestedKey) : (valR kvs k).isSome = (findA xs k).isSome := by
  induction h with
  | nil => rfl
  | @cons k' r b v kvs xs h1 h2 _ ih =>
    unfold valR findA
    rw [List.find?_cons, List.find?_cons]
    by_cases e : k' = k
    · rw [decide_eq_true e] <;> rfl
    · rw [decide_eq_false e]; exact ih
theorem relN_val {Kf : PySem.W.Frag} {kvs : List (NestedKey × R)} {xs : List (NestedKey × Addr × V)} (h : RelN Kf G kvs xs) {k : NestedKey} {r : R} (hv : valR kvs k = some r) : ∃ b v, findA xs k = some (k, b, v) ∧ RelR Kf G r v := by
  induction h with
  | nil => cases hv
  | @cons k' r' b v kvs xs h1 h2 _ ih =>
    unfold valR at hv
    unfold findA
    rw [List.find?_cons] at hv ⊢
    by_cases e : k' = k
    · rw [decide_eq_true e] at hv ⊢
      cases hv
      exact ⟨b, v, by rw [e], h2⟩
    · rw [decide_eq_false e] at hv ⊢
      exact ih hv
theorem relN_snoc {Kf : PySem.W.Frag} {kvs : List (NestedKey × R)} {xs : List (NestedKey × Addr × V)} {k : NestedKey} {r : R} {b : Addr} {v : V} (h : RelN Kf G kvs xs) (hk : KeyAt Kf G k b) (rv : RelR Kf G r v) : RelN Kf G (kvs ++ [(k, r)]) (xs ++ [(k, b, v)]) := by
  induction h with
  | nil => exact .cons hk rv .nil
  | cons h1 h2 _ ih => exact .cons h1 h2 ih
theorem relN_put {Kf : PySem.W.Frag} {kvs : List (NestedKey × R)} {xs : List (NestedKey × Addr × V)} {k : NestedKey} {r : R} {b : Addr} {v : V} (h : RelN Kf G kvs xs) (hk : KeyAt Kf G k b) (rv : RelR Kf G r v) : RelN Kf G (putN kvs k r) (putA xs k b v) := by
  unfold putN putA
  rw [relN_some h k]
  split
  · rename_i hc
    clear hk hc
    induction h with
    | nil => exact .nil
    | @cons k' r' b' v' kvs xs h1 h2 _ ih =>
      rw [List.map_cons, List.map_cons]
      by_cases e : k' = k
      · rw [if_pos e, if_pos e]
        exact .cons h1 rv ih
      · rw [if_neg e, if_neg e]
        exact .cons h1 h2 ih
  · exact relN_snoc h hk rv
abbrev PairN (p : NestedKey × Addr × V) (q : NestedKey × Addr × Value) : Prop := p.1 = q.1 ∧ p.2.1 = q.2.1 ∧ RelV p.2.2 q.2.2
theorem pair_find {xs : List (NestedKey × Addr × V)} {ys : List (NestedKey × Addr × Value)} (h : Paired PairN xs ys) (k : NestedKey) : (findA xs k).isSome = (atKey ys k).isSome ∧ ∀ b v, findA xs k = some (k, b, v) → ∃ u, atKey ys k = some (b, u) ∧ RelV v u := by
  induction h with
  | nil => exact ⟨rfl, fun b v e => by cases e⟩
  | @cons p q xs ys h1 _ ih =>
    obtain ⟨k1, b1, v1⟩ := p
    obtain ⟨k2, b2, u2⟩ := q
    obtain ⟨e1, e2, rv⟩ := h1
    dsimp only at e1 e2 rv
    subst e1 e2
    unfold findA atKey
    rw [List.find?_cons, List.find?_cons]
    by_cases e : k1 = k
    · rw [decide_eq_true e]
      exact ⟨rfl, fun b v q => by cases q; exact ⟨u2, rfl, rv⟩⟩
    · rw [decide_eq_false e]; exact ih
theorem pair_put {xs : List (NestedKey × Addr × V)} {ys : List (NestedKey × Addr × Value)} (h : Paired PairN xs ys) {k : NestedKey} {b : Addr} {v : V} {u : Value} (rv : RelV v u) : Paired PairN (putA xs k b v) (storedH ys k b u) := by
  unfold putA storedH
  rw [(pair_find h k).1]
  split
  · rename_i hc
    clear hc
    induction h with
    | nil => exact .nil
    | @cons p q xs ys h1 _ ih =>
      rw [List.map_cons, List.map_cons]
      refine .cons ?_ ih
      obtain ⟨k1, b1, v1⟩ := p
      obtain ⟨k2, b2, u2⟩ := q
      obtain ⟨e1, e2, r1⟩ := h1
      dsimp only at e1 e2 r1
      subst e1 e2
      unfold putAt
      by_cases e : k1 = k
      · rw [if_pos e, if_pos e]; exact ⟨rfl, rfl, rv⟩
      · rw [if_neg e, if_neg e]; exact ⟨rfl, rfl, r1⟩
  · rename_i hc
    clear hc
    induction h with
    | nil => exact .cons ⟨rfl, rfl, rv⟩ .nil
    | cons h1 _ ih => exact .cons h1 ih
/-- the object as the model's rules want it -/
theorem dnO_of {a : Addr} {kvs : List (NestedKey × R)} {xs : List (NestedKey × Addr × V)} (I : Inv X pins τ H s) (e : Ex G H) (h : H a = some (dnO X.prog X.w a xs)) (r : RelN X.K G kvs xs) :
    (a == sysModules) = false ∧ ∃ ys, Paired PairN xs ys ∧ s.heap.DictOfH (nestedKind X.prog X.w) a ys := by
  obtain ⟨⟨hs, ys, o, es, ep, hp, ho, hx, hd, he, hn⟩, w1, w2⟩ := I.hok a _ h
  refine ⟨hs, ys, hp, o, es, ep, ho, hx, hd, he, ?_, hn⟩
  clear he hn hd hx ho h w1 w2
  induction r generalizing ys with
  | nil => cases hp; intro x hx; cases hx
  | @cons k r b v kvs xs h1 h2 _ ih =>
    cases hp with | @cons _ q _ ys q1 q2 =>
    intro x hx
    rcases List.mem_cons.mp hx with rfl | hx
    · obtain ⟨e1, e2, _⟩ := q1
      dsimp only at e1 e2
      rw [← e1, ← e2]
      exact h1.is I e
    · exact ih ys q2 x hx
theorem dnO_new {P : Program} {w : World} {a : Addr} {xs : List (NestedKey × Addr × V)} {ys : List (NestedKey × Addr × Value)} {H' : Hp} {h' : Heap} (hs : (a == sysModules) = false) (hp : Paired PairN xs ys) (d : h'.DictOfH (nestedKind P w) a ys) : ObjOk P w H' h' a (dnO P w a xs) := by
  obtain ⟨o, es, ep, ho, hx, hd, he, _, hn⟩ := d
  exact ⟨⟨hs, ys, o, es, ep, hp, ho, hx, hd, he, hn⟩, ⟨o, ho⟩, fun h1 h2 ⟨hs, ys, o, es, ep, hp, ho, r⟩ k => ⟨hs, ys, o, es, ep, hp, k _ ho, r⟩⟩
end
section
variable {X : Cx} {c : Ct} {σ : Sl} {m m' : Mem} {k : Nat} {K : R → Mem → Prop} {ea eb : Expr} {a : Addr} {r : R} {ks : List NestedKey} {kvs : List (NestedKey × R)} {pos : Pos}
/-- a tuple that can be a key -/
theorem keyAt_of {Kf : PySem.W.Frag} {G : Hp} {v : V} (hd : (NestedKey.tup ks).depth ≤ 8) (h : RelR Kf G (.dat (.tup (nDs ks))) v) : ∃ b, v = .ref b ∧ KeyAt Kf G (.tup ks) b := by
  cases h with | dat h =>
  cases h with | @tup b xs vs hs rr =>
  exact ⟨b, rfl, .tup hs rr, hd⟩
theorem roomN (L : Live X c k) : (nestedKind X.prog X.w).room X.A.in1 := by
  have := L.room.un
  show X.A.units + 1 + 8 < cLine
  omega
/-- {} whose keys will be nested -/
theorem d_newN (h : ∀ p, K (.own p) ((p, .dn X.prog X.w p []) :: m)) : DE X c σ m (.Dict [] [] pos) K := fun pins s τ H G Q I E q => by
  have hp : H s.heap.objs.size = none := I.hok.fresh (Nat.le_refl _)
  have d : (s.heap.push { cls := .type "dict", data := .dict #[] }).DictOfH (nestedKind X.prog X.w) s.heap.objs.size [] := Heap.DictOfH.new s.heap
  have hs : (s.heap.objs.size == sysModules) = false := by
    have := I.big
    exact beq_eq_false_iff_ne.mpr fun e => by rw [e] at this; exact absurd this (by decide)
  refine wpAny_Dict_empty ⟨.ref s.heap.objs.size, _, I.laid (a := s.heap.objs.size) (o := dnO X.prog X.w s.heap.objs.size []) (t' := s.toks) (fun _ _ q => Heap.get?_push_of_some _ q) (Nat.le_refl _) (dnO_new hs .nil d), rfl, ?_⟩
  exact q _ _ G _ _ (h _) (Ex.refl G) (E.new hp (.dn .nil)) .own
/-- k in d, k not in d -/
theorem o_inN (L : Live X c k) (hh : Has m a (.dn X.prog X.w a kvs) m') (hd : (NestedKey.tup ks).depth ≤ 8) (z : K (rB (valR kvs (.tup ks)).isSome) m) : OP X c σ m (compareOp .In) (.dat (.tup (nDs ks))) (.own a) K := fun pins s τ H G v1 v2 u1 u2 Q I E q1 q2 p1 p2 q => by
  cases q2
  obtain rfl : u2 = Value.ref a := p2
  obtain ⟨b, rfl, hk⟩ := keyAt_of hd q1
  obtain rfl : u1 = Value.ref b := p1
  obtain ⟨_, ho, hho, ro⟩ := E.mem _ hh.mem
  cases ro with | @dn _ _ _ _ xs ro =>
  obtain ⟨hs, ys, hp, dd⟩ := dnO_of I E.sub hho ro
  refine wpAny_in_heap (roomN L) (hk.is I E.sub) hs dd ⟨.bl _, H, I.tok _, rfl, ?_⟩
  rw [← (pair_find hp _).1, ← relN_some ro]
  exact q.now z E (.dat .bl)
theorem o_ninN (L : Live X c k) (hh : Has m a (.dn X.prog X.w a kvs) m') (hd : (NestedKey.tup ks).depth ≤ 8) (z : K (rB (!(valR kvs (.tup ks)).isSome)) m) : OP X c σ m (compareOp .NotIn) (.dat (.tup (nDs ks))) (.own a) K := fun pins s τ H G v1 v2 u1 u2 Q I E q1 q2 p1 p2 q => by
  cases q2
  obtain rfl : u2 = Value.ref a := p2
  obtain ⟨b, rfl, hk⟩ := keyAt_of hd q1
  obtain rfl : u1 = Value.ref b := p1
  obtain ⟨_, ho, hho, ro⟩ := E.mem _ hh.mem
  cases ro with | @dn _ _ _ _ xs ro =>
  obtain ⟨hs, ys, hp, dd⟩ := dnO_of I E.sub hho ro
  show wpAny _ _ (do return Value.bool (!(← contains (.ref a) (.ref b)))) _ _ s
  refine wpAny_bind (wpAny_contains_heap (roomN L) (hk.is I E.sub) hs dd (wpAny_pure ⟨.bl _, H, I.tok _, rfl, ?_⟩))
  rw [← (pair_find hp _).1, ← relN_some ro]
  exact q.now z E (.dat .bl)
/-- d[k] -/
theorem x_dn (L : Live X c k) (hh : Has m a (.dn X.prog X.w a kvs) m') (hd : (NestedKey.tup ks).depth ≤ 8) (hv : valR kvs (.tup ks) = some r) (z : K r m) : IX X c σ m ea eb (.own a) (.dat (.tup (nDs ks))) K := fun pins s τ H G v1 v2 u1 u2 Q I E q1 q2 p1 p2 q hs' => by
  cases q1
  obtain rfl : u1 = Value.ref a := p1
  obtain ⟨b, rfl, hk⟩ := keyAt_of hd q2
  obtain rfl : u2 = Value.ref b := p2
  obtain ⟨_, ho, hho, ro⟩ := E.mem _ hh.mem
  cases ro with | @dn _ _ _ _ xs ro =>
  obtain ⟨hs, ys, hp, dd⟩ := dnO_of I E.sub hho ro
  obtain ⟨b', v, hf, rv⟩ := relN_val ro hv
  obtain ⟨u, hu, ru⟩ := (pair_find hp _).2 b' v hf
  refine tail_D dd.typeIs PySem.F.slot_dict_getitem.lookup hs' (wpAny_getItem_heap (roomN L) (hk.is I E.sub) dd hu ?_)
  exact ⟨v, H, I.tok _, ru, q.now z E rv⟩
def tSetN (X : Cx) : TSet := fun o i v H Q => ∃ (a b : Addr) (k : NestedKey) (xs : List (NestedKey × Addr × V)) (G : Hp) (kvs : List (NestedKey × R)), o = .ref a ∧ i = .ref b ∧ H a = some (dnO X.prog X.w a xs) ∧ Ex G H ∧ RelN X.K G kvs xs ∧ KeyAt X.K G k b ∧ kvs.length < 1000000 ∧ Q (upd H a (dnO X.prog X.w a (putA xs k b v)))
theorem set_dn (L : Live X c k) : PSet X (tSetN X) := by
  intro pins s σ H o i v ov iv u Q I ro ri rv h
  obtain ⟨a, b, kk, xs, G, kvs, eo, ei, hH, ex, rel, hk, hl, q⟩ := h
  subst eo ei
  cases (show ov = Value.ref a from ro)
  cases (show iv = Value.ref b from ri)
  obtain ⟨hs, ys, hp, dd⟩ := dnO_of I ex hH rel
  have hlen : xs.length = ys.length := Paired.length hp
  refine wpAny_setItem_heap (hsz := by rw [← hlen, ← relN_len rel]; exact Nat.le_of_lt (Nat.lt_of_lt_of_le hl (by decide))) (roomN L) (hk.is I ex) dd fun h' hm' hsb => ?_
  obtain ⟨o', es, ep, ho', _⟩ := id hm'
  exact ⟨_, d_write I (by rw [hH]; exact True.intro) hsb ⟨_, ho'⟩ (dnO_new hs (pair_put hp rv) hm'), q⟩
/-- d[k] = v -/
theorem ds_setN {e : Expr} {en : En} (L : Live X c k) {px : Pos} (h : DE X c σ m e (fun rv m1 => DE X c σ m1 ea (fun ro m2 => DE X c σ m2 eb (fun ri m3 => ∃ q kvs ks m4, ro = .own q ∧ ri = .dat (.tup (nDs ks)) ∧ (NestedKey.tup ks).depth ≤ 8 ∧ Chg m3 q (.dn X.prog X.w q kvs) (.dn X.prog X.w q (putN kvs (.tup ks) rv)) m4 ∧ kvs.length < 1000000 ∧ en.nx σ m4))))
    (hs : swapsWithSole [.Subscript ea eb px] e pos.line X.env = pure false := by rfl) (hw : swappedStores [.Subscript ea eb px] e X.env = pure none := by rfl) (h1 : (assignEach [.Subscript ea eb px] X.env).map (·.2) = [assign (.Subscript ea eb px) X.env] := by rfl)
    (ha : ∀ v, assign (.Subscript ea eb px) X.env v = (do
      let ov ← holding [v] (eval ea X.env)
      let iv ← holding [v, ov] (eval eb X.env)
      standAt px
      holding [v, ov, iv] (setItem ov iv v)
      release [v, ov, iv] []) := by intro _; rfl) :
    DS X c σ m (.Assign [.Subscript ea eb px] e pos) en := fun F pins s τ H G D I E fx ft => by
  refine (ps_asg (pe_t (c := c)) (pg_sub (pe_t (c := c)) (pe_t (c := c)) (set_dn L) ha) hs hw h1).run pins s τ H D I ?_
  refine ⟨σ, m, G, _, E, h, fun rv m1 G1 H1 v d1 x1 E1 r1 => ?_⟩
  refine ⟨σ, m1, G1, _, E1, d1, fun ro m2 G2 H2 vo d2 x2 E2 r2 => ?_⟩
  refine ⟨σ, m2, G2, _, E2, d2, fun ri m3 G3 H3 vi ⟨q, kvs, ks, m4, e1, e2, hd, hc, hl, z⟩ x3 E3 r3 => ?_⟩
  subst e1 e2
  have r2' := r2.mono x3
  cases r2'
  obtain ⟨b, rfl, hk⟩ := keyAt_of hd r3
  obtain ⟨_, ho, hh, rr⟩ := E3.mem _ hc.mem
  cases rr with | @dn _ _ _ _ xs rr =>
  refine ⟨q, b, .tup ks, xs, G3, kvs, rfl, rfl, hh, E3.sub, rr, hk, hl, ?_⟩
  exact ft.nx σ m4 G3 τ _ z (((fx.trans x1).trans x2).trans x3) (E3.chg hc (.dn (relN_put rr hk (r1.mono (x2.trans x3)))))
/-- len(d) -/
theorem d_lenN {e : Expr} {p : Pos} (hg : Gl X "len") (hm : X.mg "len" = none) (h : DE X c σ m e (fun r m1 => ∃ a kvs m2, r = .own a ∧ Has m1 a (.dn X.prog X.w a kvs) m2 ∧ kvs.length ≤ 1000000 ∧ K (rI kvs.length) m1)) (hst : starEach [e] X.env = (false, eval e X.env) :: starEach [] X.env := by rfl) : DE X c σ m (.Call (.Name "len" p) [e] [] pos) K := by
  have cr : CallR X (.builtin "len") (fun xs H Q => ∃ (a : Addr) (xs' : List (NestedKey × Addr × V)) (G : Hp) (kvs : List (NestedKey × R)), xs = [V.ref a] ∧ H a = some (dnO X.prog X.w a xs') ∧ Ex G H ∧ RelN X.K G kvs xs' ∧ kvs.length ≤ 1000000 ∧ Q (.int kvs.length) H) := by
    intro pins s σ H xs us Q I r h
    obtain ⟨a, xs', G, kvs, rfl, hH, ex, rel, hl, q⟩ := h
    obtain ⟨u, rfl, ru⟩ := vals1 r
    obtain rfl : u = Value.ref a := ru
    obtain ⟨hs, ys, hp, dd⟩ := dnO_of I ex hH rel
    have e1 : kvs.length = ys.length := by rw [relN_len rel, Paired.length hp]
    refine call_len_dictH hs dd (by rw [← e1]; omega) ?_
    rw [← e1]
    exact ⟨.int kvs.length, H, I.tok _, ⟨_, rfl⟩, q⟩
  refine de_callB cr hg hm boot_len (da_cons (h.imp fun r m1 ⟨a, kvs, m2, er, hh, hl, z⟩ => da_nil ?_) hst) (he := hst)
  intro τ H G vs Q E rv q
  subst er
  obtain ⟨v, rfl, r1⟩ := one_of rv
  cases r1
  obtain ⟨_, ho, hho, ro⟩ := E.mem _ hh.mem
  cases ro with | @dn _ _ _ _ xs ro =>
  exact ⟨a, xs, G, kvs, rfl, hho, E.sub, ro, hl, q.now z E (.dat .int)⟩
theorem d_lenK {e : Expr} {p : Pos} (hg : Gl X "len") (hm : X.mg "len" = none) (h : DE X c σ m e (fun r m1 => ∃ (a : Addr) (kvs : List (Key × R)) (m2 : Mem), r = .own a ∧ Has m1 a (.dk kvs) m2 ∧ K (rI kvs.length) m1)) (hst : starEach [e] X.env = (false, eval e X.env) :: starEach [] X.env := by rfl) : DE X c σ m (.Call (.Name "len" p) [e] [] pos) K := by
  refine de_callB call_lenD hg hm boot_len (da_cons (h.imp fun r m1 ⟨a, kvs, m2, er, hh, z⟩ => da_nil ?_) hst) (he := hst)
  intro τ H G vs Q E rv q
  subst er
  obtain ⟨v, rfl, r1⟩ := one_of rv
  cases r1
  obtain ⟨_, ho, hho, ro⟩ := E.mem _ hh.mem
  cases ro with | @dk _ vs ro =>
  refine ⟨a, vs, rfl, hho, ?_⟩
  rw [← ro.length]
  exact q.now z E (.dat .int)
end
end D2
/-! ## D2W -/
set_option Elab.async false
set_option linter.all false
set_option maxRecDepth 100000
set_option maxHeartbeats 2000000
/-! ==, in of data told as nested keys -/
namespace D2
open PySem PySem.Spec PyProof.Rows L2
abbrev rN (k : NestedKey) : R := .dat (nD k)
mutual
theorem pv_nD (m : Mem) : ∀ k : NestedKey, PV m (.dat (nD k)) k.data
  | .none => .non
  | .num i => .int
  | .text x => by
    have h : PV m (rS (lit x)) (.str (sOf (lit x))) := .str
    rw [sOf_lit] at h
    exact h
  | .tup ks => .tup (pvs_nD m ks)
theorem pvs_nD (m : Mem) : ∀ ks : List NestedKey, PVs m ((nDs ks).map .dat) (NestedKey.datas ks)
  | [] => .nil
  | k :: ks => .cons (pv_nD m k) (pvs_nD m ks)
end
theorem nDs_map : ∀ ks : List NestedKey, nDs ks = ks.map nD
  | [] => rfl
  | k :: ks => by rw [nDs, nDs_map ks]; rfl
theorem datas_map : ∀ ks : List NestedKey, NestedKey.datas ks = ks.map NestedKey.data
  | [] => rfl
  | k :: ks => by rw [NestedKey.datas, datas_map ks]; rfl
mutual
theorem eqv_key : ∀ a b : NestedKey, PyData.eqv a.data b.data = NestedKey.beq a b
  | .none, .none => rfl
  | .num a, .num b => by simp [NestedKey.data, PyData.eqv, NestedKey.beq, Bool.beq_eq_decide_eq]
  | .text a, .text b => by simp [NestedKey.data, PyData.eqv, NestedKey.beq, Bool.beq_eq_decide_eq]
  | .tup a, .tup b => by
    rw [NestedKey.data, NestedKey.data, PyData.eqv, NestedKey.beq]
    exact eqv_keys a b
  | .none, .num _ | .none, .text _ | .none, .tup _ => by simp [NestedKey.data, PyData.eqv, NestedKey.beq]
  | .num _, .none | .num _, .text _ | .num _, .tup _ => by simp [NestedKey.data, PyData.eqv, NestedKey.beq]
  | .text _, .none | .text _, .num _ | .text _, .tup _ => by simp [NestedKey.data, PyData.eqv, NestedKey.beq]
  | .tup _, .none | .tup _, .num _ | .tup _, .text _ => by simp [NestedKey.data, PyData.eqv, NestedKey.beq]
theorem eqv_keys : ∀ a b : List NestedKey, PyData.eqvAll (NestedKey.datas a) (NestedKey.datas b) = NestedKey.beqAll a b
  | [], [] => rfl
  | a :: as, b :: bs => by
    rw [NestedKey.datas, NestedKey.datas, PyData.eqvAll, NestedKey.beqAll, eqv_key a b, eqv_keys as bs]
  | [], _ :: _ => rfl
  | _ :: _, [] => rfl
end
theorem eqv_dec (a b : NestedKey) : PyData.eqv a.data b.data = decide (a = b) := by rw [eqv_key, NestedKey.decide_eq]
mutual
theorem plain_key : ∀ k : NestedKey, k.data.plain = true
  | .none => rfl
  | .num _ => rfl
  | .text _ => rfl
  | .tup ks => plain_keys ks
theorem plain_keys : ∀ ks : List NestedKey, PyData.plainAll (NestedKey.datas ks) = true
  | [] => rfl
  | k :: ks => by rw [NestedKey.datas, PyData.plainAll, plain_key k, plain_keys ks]; rfl
end
mutual
theorem depth_key : ∀ k : NestedKey, k.data.depth = k.depth
  | .none => rfl
  | .num _ => rfl
  | .text _ => rfl
  | .tup ks => by rw [NestedKey.data, PyData.depth, NestedKey.depth, depth_keys ks]
theorem depth_keys : ∀ ks : List NestedKey, PyData.depthAll (NestedKey.datas ks) = NestedKey.depthAll ks
  | [] => rfl
  | k :: ks => by rw [NestedKey.datas, PyData.depthAll, NestedKey.depthAll, depth_key k, depth_keys ks]
end
theorem any_key (k : NestedKey) (ks : List NestedKey) : ((NestedKey.datas ks).any fun y => PyData.eqv y k.data) = decide (k ∈ ks) := by
  induction ks with
  | nil => rfl
  | cons a ks ih =>
    rw [NestedKey.datas, List.any_cons, ih, eqv_dec, Bool.eq_iff_iff]
    simp only [Bool.or_eq_true, decide_eq_true_eq, List.mem_cons]
    exact ⟨fun h => h.imp Eq.symm id, fun h => h.imp Eq.symm id⟩
section
variable {X : Cx} {c : Ct} {σ : Sl} {m : Mem} {kk : Nat} {K : R → Mem → Prop} {a b k : NestedKey} {ks : List NestedKey} {r1 r2 : R}
theorem o_eqN (L : Live X c kk) (ha : a.depth ≤ 60) (hb : b.depth ≤ 60) (z : K (rB (decide (a = b))) m) : OP X c σ m (compareOp .Eq) (rN a) (rN b) K :=
  o_eqD L (pv_nD m a) (pv_nD m b) ⟨plain_key a, by rw [depth_key]; exact ha⟩ ⟨plain_key b, by rw [depth_key]; exact hb⟩ (by rw [eqv_dec]; exact z)
theorem o_neN (L : Live X c kk) (ha : a.depth ≤ 60) (hb : b.depth ≤ 60) (z : K (rB (!decide (a = b))) m) : OP X c σ m (compareOp .NotEq) (rN a) (rN b) K :=
  o_neD L (pv_nD m a) (pv_nD m b) ⟨plain_key a, by rw [depth_key]; exact ha⟩ ⟨plain_key b, by rw [depth_key]; exact hb⟩ (by rw [eqv_dec]; exact z)
/-- k in (..) -/
theorem o_inT (L : Live X c kk) (hd : k.depth ≤ 60) (z : K (rB (decide (k ∈ ks))) m) : OP X c σ m (compareOp .In) (rN k) (.dat (.tup (nDs ks))) K := fun pins s τ H G v1 v2 u1 u2 Q I E q1 q2 rx ry q => by
  obtain ⟨as, a1⟩ := Dp.reads I k.data v1 u1 ((pv_nD m k).dp E q1) rx
  obtain ⟨bs, a2⟩ := Dp.reads I (.tuple (NestedKey.datas ks)) v2 u2 (PV.dp E (PV.tup (pvs_nD m ks)) q2) ry
  refine SeqAt.in_tuple_data a2 a1 (plain_keys ks) (plain_key k) (by have := L.room.units; have := depth_key k; have := Nat.min_le_right (PyData.depthAll (NestedKey.datas ks)) k.data.depth; omega) ⟨.bl _, H, I, rfl, ?_⟩
  rw [any_key]
  exact q.now z E (.dat .bl)
theorem o_ninT (L : Live X c kk) (hd : k.depth ≤ 60) (z : K (rB (!decide (k ∈ ks))) m) : OP X c σ m (compareOp .NotIn) (rN k) (.dat (.tup (nDs ks))) K := fun pins s τ H G v1 v2 u1 u2 Q I E q1 q2 rx ry q => by
  obtain ⟨as, a1⟩ := Dp.reads I k.data v1 u1 ((pv_nD m k).dp E q1) rx
  obtain ⟨bs, a2⟩ := Dp.reads I (.tuple (NestedKey.datas ks)) v2 u2 (PV.dp E (PV.tup (pvs_nD m ks)) q2) ry
  refine SeqAt.notIn_tuple_data a2 a1 (plain_keys ks) (plain_key k) (by have := L.room.units; have := depth_key k; have := Nat.min_le_right (PyData.depthAll (NestedKey.datas ks)) k.data.depth; omega) ⟨.bl _, H, I, rfl, ?_⟩
  rw [any_key]
  exact q.now z E (.dat .bl)
/-- k in [..] -/
theorem o_ninL (L : Live X c kk) (hd : k.depth ≤ 60) (hv : VL m r2 ((nDs ks).map .dat)) (z : K (rB (!decide (k ∈ ks))) m) : OP X c σ m (compareOp .NotIn) (rN k) r2 K := fun pins s τ H G v1 v2 u1 u2 Q I E q1 q2 rx ry q => by
  obtain ⟨as, a1⟩ := Dp.reads I k.data v1 u1 ((pv_nD m k).dp E q1) rx
  obtain ⟨bs, a2⟩ := Dp.reads I (.list (NestedKey.datas ks)) v2 u2 (PV.dp E (PV.lst hv (pvs_nD m ks)) q2) ry
  refine SeqAt.notIn_list_data a2 a1 (plain_keys ks) (plain_key k) (by have := L.room.units; have := depth_key k; have := Nat.min_le_right (PyData.depthAll (NestedKey.datas ks)) k.data.depth; omega) ⟨.bl _, H, I, rfl, ?_⟩
  rw [any_key]
  exact q.now z E (.dat .bl)
/-! ### s.strip(chars) -/
theorem d_stripC {o e : Expr} {pos apos : Pos} (h : DE X c σ m o (fun ro m1 => ∃ s, ro = rS s ∧ s.length ≤ 1000000 ∧ DE X c σ m1 e (fun r m2 => ∃ t, r = rS t ∧ K (rS (lit (Txt.stripChars (sOf s) (sOf t)))) m2)))
    (hbase : attributeBase o "strip" X.env (eval o X.env) = eval o X.env := by rfl)
    (hfew : ((backTo pos (starEach [e] X.env)).all (fun x => !x.1) && (backToKw pos (keywordEach [] X.env)).all (fun x => x.1.isSome) && decide ([e].length + ([] : List Keyword).length + (if ([] : List Keyword).isEmpty then 0 else 1) < 30)) = true := by rfl)
    (hline : (apos.endLine == pos.line) = true := by rfl) (hst : starEach [e] X.env = (false, eval e X.env) :: starEach [] X.env := by rfl) : DE X c σ m (.Call (.Attribute o "strip" apos) [e] [] pos) K :=
  de_bm PySem.F.plainAttrs_str PySem.F.slot_str_strip PySem.F.type_str_strip mt_stripChars (h.imp fun ro m1 ⟨s, er, hl, d⟩ => by
    subst er
    refine ⟨.str, da_cons (d.imp fun r m2 ⟨t, e1, kk⟩ => da_nil ?_) hst⟩
    intro τ H G v vs Q E ro rv q
    subst e1
    cases str_of ro
    obtain ⟨u1, rfl, r1⟩ := one_of rv
    cases str_of r1
    refine ⟨_, _, rfl, rfl, by rw [sOf_len]; exact Nat.le_trans hl (by decide), ?_⟩
    have z := q.now (v := .str (Txt.stripChars (sOf s) (sOf t))) kk E (by have := (Rep.str (K := X.K) (G := G) (s := lit (Txt.stripChars (sOf s) (sOf t)))); rw [sOf_lit] at this; exact .dat this)
    exact z) hbase hfew hline hst
end
end D2
/-! ## D2Fz -/
set_option Elab.async false
set_option linter.all false
set_option maxRecDepth 100000
set_option maxHeartbeats 2000000
/-! a dict that is only read from here on: frozen, walked, read -/
namespace D2
open PySem PySem.Spec PyProof.Rows L2
section
variable {X : Cx} {c : Ct} {σ : Sl} {m m' : Mem} {k : Nat} {K : R → Mem → Prop} {x : Str} {a : Addr} {xs : List (Key × D)} {f : R → Sl} {en : En} {sts : List Stmt}
theorem relK_repk {Kf : PySem.W.Frag} {G : Hp} : ∀ {xs : List (Key × D)} {vs : List (Key × V)}, RelK Kf G (xs.map fun p => (p.1, R.dat p.2)) vs → Repk Kf G xs vs
  | [], _, h => by cases h; exact .nil
  | (k, d) :: xs, _, h => by
    cases h with | cons h t =>
    cases h with | dat h => exact .cons h (relK_repk t)
/-- x's dict is read only from here on -/
theorem dss_frzK (hx : Lk σ x (.own a)) (hp : PutF σ x f) (hh : Has m a (.dk (xs.map fun p => (p.1, R.dat p.2))) m') (h : DSs X c (f (.dat (.dk xs))) m' sts en) : DSs X c σ m sts en := fun F pins s τ H G D I E fx ft => by
  obtain ⟨i, v, h1, h2, h3, hv⟩ := E.get hx
  obtain ⟨ga, ho, hho, ro⟩ := E.mem _ hh.mem
  cases ro with | @dk _ vs ro =>
  obtain ⟨od, I1⟩ := I.lock hho True.intro
  obtain ⟨m2, hc2, hr2⟩ := hh.chg (.any (.frz od (.dK vs)))
  obtain ⟨u, hu, _, _, E3⟩ := (E.chg hc2 (RelO.any (o := .frz od (.dK vs)))).frz hr2
  rw [upd_same] at hu
  cases hu
  have x1 : Ex G (L2.upd G a (.frz od (.dK vs))) := Ex.new ga
  have rep : Rep X.K (L2.upd G a (.frz od (.dK vs))) (.dk xs) (.ref a) := .dk upd_same ((relK_repk ro).mono x1)
  cases h3
  obtain ⟨j, hj, E4⟩ := E3.put (hp.put (.dat (.dk xs))) hv (.dat rep)
  have ij : i = j := nodup_ix E.nm.nd h1 hj
  subst ij
  have et : τ.set i (some (.ref a)) = τ := by
    refine List.ext_getElem? fun n => ?_
    by_cases e : i = n
    · subst e
      have hl : i < τ.length := by
        by_cases q : i < τ.length
        · exact q
        · rw [List.getElem?_eq_none (by omega)] at h2; cases h2
      rw [List.getElem?_set_self hl, h2]
    · rw [List.getElem?_set_ne e]
  rw [et] at E4
  exact h F pins s τ _ _ D I1 E4 (fx.trans x1) ft
def valD (xs : List (Key × D)) (k : Key) : Option D := (xs.find? fun p => decide (p.1 = k)).map (·.2)
theorem repk_val {Kf : PySem.W.Frag} {G : Hp} : ∀ {xs : List (Key × D)} {vs : List (Key × V)}, Repk Kf G xs vs → ∀ (k : Key), (∀ d, valD xs k = some d → ∃ v, valV vs k = some v ∧ Rep Kf G d v) ∧ (valD xs k = none → valV vs k = none)
  | [], _, .nil, k => ⟨(fun d e => by cases e), fun _ => rfl⟩
  | (k', d') :: xs, _, .cons h t, k => by
    have ih := repk_val t k
    unfold valD valV at ih ⊢
    rw [List.find?_cons, List.find?_cons]
    by_cases e : k' = k
    · rw [decide_eq_true e]
      exact ⟨(fun d q => by cases q; exact ⟨_, rfl, h⟩), fun q => by cases q⟩
    · rw [decide_eq_false e]
      exact ih
/-- d[k], d read only -/
theorem x_fk {ea eb : Expr} {rk : R} {kk : Key} {d : D} (L : Live X c k) (hk : IsKey rk kk) (hv : valD xs kk = some d) (z : K (.dat d) m) : IX X c σ m ea eb (.dat (.dk xs)) rk K := fun pins s τ H G v1 v2 u1 u2 Q I E q1 q2 p1 p2 q hs => by
  cases q1 with | dat q1 =>
  cases q1 with | @dk a _ vs o hg rr =>
  obtain rfl : u1 = Value.ref a := p1
  obtain ⟨v, e1, rv⟩ := (repk_val rr kk).1 d hv
  rw [hk.v q2] at p2
  have g : DGet H a (kV kk) (some v) := by rw [← e1]; exact .inl ⟨vs, kk, .inr ⟨o, E.sub _ _ hg⟩, rfl, rfl⟩
  refine tail_D (dict_typeIs I g) PySem.F.slot_dict_getitem.lookup hs (d_getItem (by have := L.room.units; omega) I g p2 fun w' s' I' rw' => ?_)
  exact ⟨v, H, I', rw', q.now z E (.dat rv)⟩
/-! ### walks -/
theorem repk_at {Kf : PySem.W.Frag} {G : Hp} : ∀ {xs : List (Key × D)} {vs : List (Key × V)}, Repk Kf G xs vs → xs.length = vs.length ∧ ∀ (i : Nat) (p : Key × D), xs[i]? = some p → ∃ v, vs[i]? = some (p.1, v) ∧ Rep Kf G p.2 v
  | [], _, .nil => ⟨rfl, fun i p e => by cases e⟩
  | (k', d') :: xs, _, .cons h t => by
    obtain ⟨l, ih⟩ := repk_at t
    refine ⟨by simp [l], fun i p e => ?_⟩
    cases i with
    | zero => cases e; exact ⟨_, rfl, h⟩
    | succ i => exact ih i p e
variable {tg iter : Expr} {Ki : List D → Mem → Prop}
/-- for k in d -/
theorem it_fk (h : DE X c σ m iter (fun r m1 => ∃ xs, r = .dat (.dk xs) ∧ Ki (xs.map fun p => kD p.1) m1)) : DIt X c σ m tg iter Ki := by
  refine ⟨_, pi_keys (pe_t (c := c)), fun τ H G R' E q => ⟨σ, m, G, _, E, h, fun r m1 G1 H1 v ⟨xs, er, z⟩ x1 E1 rv => ?_⟩⟩
  subst er
  cases rv with | dat rv =>
  cases rv with | @dk a _ vs o hg rr =>
  obtain ⟨hl, hat⟩ := repk_at rr
  refine ⟨a, o, rfl, .inl ⟨vs, E1.sub _ _ hg, q _ m1 G1 H1 _ z x1 E1 fun i H2 ex => ⟨fun d hd => ?_, fun hle => ⟨ex _ _ hg, by rw [List.length_map] at hle; omega⟩⟩⟩⟩
  rw [List.getElem?_map] at hd
  cases hp : xs[i]? with
  | none => rw [hp] at hd; cases hd
  | some p =>
    rw [hp] at hd
    cases hd
    obtain ⟨v, hv, rv⟩ := hat i p hp
    refine ⟨⟨ex _ _ hg, (List.getElem?_eq_some_iff.mp hv).1⟩, fun x H' ⟨e, k, v', ev, ex'⟩ => .inl ⟨e, ?_⟩⟩
    rw [hv] at ev
    cases ev
    rw [ex']
    exact kD_rep _
/-- for k, v in d.items() -/
theorem it_items {o : Expr} {apos cpos tpos : Pos} {elts : List Expr} {kk : Nat} (h : DE X c σ m o (fun r m1 => ∃ xs, r = .dat (.dk xs) ∧ Ki (xs.map fun p => .tup [kD p.1, p.2]) m1))
    (hbase : attributeBase o "items" X.env (eval o X.env) = eval o X.env := by rfl) (hline : (apos.endLine == cpos.line) = true := by rfl) : DIt X c σ m (.Tuple elts kk tpos) (.Call (.Attribute o "items" apos) [] [] cpos) Ki := by
  refine ⟨_, pi_items (pe_t (c := c)) hbase hline, fun τ H G R' E q => ⟨σ, m, G, _, E, h, fun r m1 G1 H1 v ⟨xs, er, z⟩ x1 E1 rv => ?_⟩⟩
  subst er
  cases rv with | dat rv =>
  cases rv with | @dk a _ vs o hg rr =>
  obtain ⟨hl, hat⟩ := repk_at rr
  refine ⟨a, o, vs, rfl, E1.sub _ _ hg, q _ m1 G1 H1 _ z x1 E1 fun i H2 ex => ⟨fun d hd => ?_, fun hle => ⟨ex _ _ hg, by rw [List.length_map] at hle; omega⟩⟩⟩
  rw [List.getElem?_map] at hd
  cases hp : xs[i]? with
  | none => rw [hp] at hd; cases hd
  | some p =>
    rw [hp] at hd
    cases hd
    obtain ⟨v, hv, rv⟩ := hat i p hp
    refine ⟨⟨ex _ _ hg, (List.getElem?_eq_some_iff.mp hv).1⟩, fun x H' ⟨T, k, v', ev, ex', hT, eH⟩ => .inr ⟨T, _, hT, eH, ?_⟩⟩
    rw [hv] at ev
    cases ev
    rw [ex']
    have gT : G1 T = none := by
      cases q : G1 T with
      | none => rfl
      | some o => rw [ex _ _ q] at hT; cases hT
    exact .tup (.inl (.inl upd_same)) (.cons (kD_rep _) (.cons (rv.mono (Ex.new gT)) .nil))
end
end D2
/-! ## D2T -/
set_option Elab.async false
set_option linter.all false
set_option maxRecDepth 100000
set_option maxHeartbeats 2000000
/-! texts repeated; tuples joined, made of lists -/
namespace D2
open PySem PySem.Spec PyProof.Rows L2
theorem Reps.app {Kf : PySem.W.Frag} {G : Hp} : ∀ {ds es : List D} {vs us : List V}, Reps Kf G ds vs → Reps Kf G es us → Reps Kf G (ds ++ es) (vs ++ us)
  | _, _, _, _, .nil, h => h
  | _, _, _, _, .cons a t, h => .cons a (Reps.app t h)
section
variable {X : Cx} {c : Ct} {σ : Sl} {m : Mem} {kk : Nat} {K : R → Mem → Prop} {s : List Nat} {n : Int}
theorem rep_arr (a : Array Nat) : ∀ (k : Nat) (acc : Array Nat), ((List.replicate k a).foldl (· ++ ·) acc).toList = acc.toList ++ (List.replicate k a.toList).flatten
  | 0, acc => by simp
  | k + 1, acc => by
    rw [List.replicate_succ, List.foldl_cons, rep_arr a k, List.replicate_succ, List.flatten_cons, Array.toList_append, List.append_assoc]
/-- s * n -/
theorem o_mulStr (h0 : 0 ≤ n) (h1 : n ≤ 1000000) (h2 : s.length * n.toNat ≤ 1000000) (hs : s.length ≤ 1000000) (z : K (rS (List.replicate n.toNat s).flatten) m) : OP X c σ m (binaryOp .Mult) (rS s) (rI n) K := fun pins st τ H G v1 v2 u1 u2 Q I E q1 q2 p1 p2 q => by
  cases str_of q1
  cases int_of q2
  obtain ⟨t, rfl⟩ := p1
  obtain ⟨u, rfl⟩ := p2
  have hlen : (sOf s).length = s.length := by simp [sOf, Str.length]
  have hQ : Q (.str (sOf (List.replicate n.toNat s).flatten)) H := q.now z E (.dat .str)
  refine P.mul_str ?_ (fun _ _ => ?_) (fun _ _ => ?_) ?_
  · rw [decide_eq_false (by omega), decide_eq_false (by omega)]; rfl
  · rename_i hn _
    have hn' : 0 < n := by omega
    have hm : (s.length : Int) * n ≤ 1000000 := by
      have e : n = ((n.toNat : Nat) : Int) := by omega
      rw [e, ← Int.natCast_mul]
      exact Int.ofNat_le.mpr h2
    have := (Int.le_ediv_iff_mul_le hn' (a := (s.length : Int)) (b := 2 ^ 63 - 1)).mpr (by omega)
    rw [hlen]
    omega
  · unfold Builtin.Str.tooLong
    rw [hlen, sizeLine_eq]
    exact decide_eq_false (by omega)
  · have key : ∀ x : Str, x = sOf (List.replicate n.toNat s).flatten → ∀ t : Nat, EP X pins τ Q (.str x t) { st with toks := st.toks + 1 } := fun x e t => ⟨.str (sOf (List.replicate n.toNat s).flatten), H, I.tok _, by rw [← e]; exact ⟨t, rfl⟩, hQ⟩
    have flen : (List.replicate n.toNat s).flatten.length = n.toNat * s.length := by simp
    split
    · rename_i hn
      have : n.toNat = 0 := by omega
      exact ⟨by decide, key _ (by rw [this]; rfl) _⟩
    · rename_i hn
      split
      · rename_i he
        have e : (List.replicate n.toNat s).flatten = s := by
          rw [Bool.or_eq_true, beq_iff_eq, beq_iff_eq, hlen] at he
          rcases he with he | he
          · rw [he]; simp
          · rw [List.length_eq_zero_iff.mp he]; simp
        refine ⟨.str (sOf (List.replicate n.toNat s).flatten), H, I, ?_, hQ⟩
        rw [e]
        exact ⟨t, rfl⟩
      · have e : (⟨(List.replicate n.toNat (sOf s).cps).foldl (· ++ ·) #[]⟩ : Str) = sOf (List.replicate n.toNat s).flatten := by
          refine congrArg Str.mk ?_
          refine Array.ext' ?_
          rw [rep_arr]
          simp
        refine ⟨?_, key _ e _⟩
        rw [e, show (sOf (List.replicate n.toNat s).flatten).length = (List.replicate n.toNat s).flatten.length by simp [Str.length], flen, sizeLine_eq, Nat.mul_comm]
        omega
/-! ### tuples -/
theorem cat_tup0 {prog : Program} {w : World} {A : Around} {E : Value → Shared → Prop} {st : Shared} {t b : Addr} {ws : Array Value} {Q : Value → Shared → Prop} (ht : IsTup st.heap t #[]) (hb : IsTup st.heap b ws) (h : Q (.ref b) st) : wpAny (model prog w) A (binaryOp .Add (.ref t) (.ref b)) Q E st := by
  obtain ⟨⟨cls, dd, data, sl⟩, ho, hc, n, hd⟩ := id ht
  obtain ⟨⟨cls2, dd2, data2, sl2⟩, ho2, hc2, n2, hd2⟩ := id hb
  simp only at hc hd hc2 hd2
  subst hc hd hc2 hd2
  exact concat_meets ⟨_, ho, rfl⟩ ⟨_, ho2, rfl⟩ noFill_tuple_add seq_tuple_add PySem.F.slot_tuple_add PySem.F.entry_tuple_add (PySem.F.args_tuple_add_2 _ _) (tuple_addW0 t b #[] ws n n2 dd dd2 sl sl2 rfl) ⟨ho, ho2, h⟩
/-- t + u -/
theorem o_catT {ds es : List D} (hl : ds.length + es.length ≤ 1000000) (z : K (.dat (.tup (ds ++ es))) m) : OP X c σ m (binaryOp .Add) (.dat (.tup ds)) (.dat (.tup es)) K := fun pins st τ H G v1 v2 u1 u2 Q I E q1 q2 p1 p2 q => by
  cases q1 with | dat q1 =>
  cases q2 with | dat q2 =>
  cases q1 with | @tup a xs vs hs rr =>
  cases q2 with | @tup b ys us hs2 rr2 =>
  have l1 := rr.length
  have l2 := rr2.length
  by_cases hd : ds = []
  · subst hd
    cases rr
    obtain rfl : u1 = Value.ref a := p1
    obtain rfl : u2 = Value.ref b := p2
    obtain ⟨its, r1, t1, _⟩ := I.tuple (ex_t E.sub hs)
    obtain ⟨its2, r2, t2, _⟩ := I.tuple (ex_t E.sub hs2)
    cases r1
    exact cat_tup0 t1 t2 ⟨.ref b, H, I, rfl, q.now z E (.dat (.tup hs2 rr2))⟩
  · refine op_catT pins st τ H _ _ u1 u2 Q I p1 p2 ⟨a, b, vs, us, rfl, rfl, ex_t E.sub hs, ex_t E.sub hs2, fun e => ?_, by rw [sizeLine_eq]; omega, fun e => ?_, fun e p hp => ?_⟩
    · rw [e] at l1; exact hd (List.length_eq_zero_iff.mp l1)
    · have : es = [] := List.length_eq_zero_iff.mp (by rw [l2, e]; rfl)
      rw [this, List.append_nil] at z
      exact q.now z E (.dat (.tup hs rr))
    · have gp : G p = none := E.sub.back hp
      have x1 : Ex G (L2.upd G p (.tup (vs ++ us))) := Ex.new gp
      exact q _ m _ _ _ z x1 (E.newG hp) (.dat (.tup (.inl (.inl upd_same)) ((rr.app rr2).mono x1)))
/-- tuple(xs), xs a list of data -/
theorem d_tupleL {e : Expr} {p pos : Pos} (hg : Gl X "tuple") (hm : X.mg "tuple" = none) (h : DE X c σ m e (fun r m1 => ∃ ds : List D, VL m1 r (ds.map .dat) ∧ K (.dat (.tup ds)) m1)) (hst : starEach [e] X.env = (false, eval e X.env) :: starEach [] X.env := by rfl) : DE X c σ m (.Call (.Name "tuple" p) [e] [] pos) K := by
  refine de_callT call_tuple_of hg hm (by decide +kernel) (da_cons (h.imp fun r m1 ⟨ds, hv, z⟩ => da_nil ?_) hst) (he := hst)
  intro τ H G vs Q E rv q
  obtain ⟨v, rfl, r1⟩ := one_of rv
  obtain ⟨a, us, rfl, hs, rr⟩ := hv.at E r1
  refine ⟨a, us, rfl, .inl ⟨hs, fun p hp => ?_⟩⟩
  have gp : G p = none := E.sub.back hp
  have x1 : Ex G (L2.upd G p (.tup us)) := Ex.new gp
  exact q _ m1 _ _ _ z x1 (E.newG hp) (.dat (.tup (.inl (.inl upd_same)) (rr.reps.mono x1)))
end
end D2
/-! ## D2V -/
set_option Elab.async false
set_option linter.all false
set_option maxRecDepth 100000
set_option maxHeartbeats 2000000
/-! d.values(), list of it; max with a default; sorted of a tuple -/
namespace D2
open PySem PySem.Spec PyProof.Rows L2
section
variable {X : Cx} {c : Ct} {σ : Sl} {m : Mem} {k : Nat} {K : R → Mem → Prop} {o e : Expr} {apos cpos p pos : Pos}
/-- d.values() -/
theorem d_values (h : DE X c σ m o (fun r m1 => ∃ xs, r = .dat (.dk xs) ∧ ∀ v a, K (.own v) ((v, .vw v a xs) :: m1)))
    (hbase : attributeBase o "values" X.env (eval o X.env) = eval o X.env := by rfl) (hline : (apos.endLine == cpos.line) = true := by rfl) : DE X c σ m (.Call (.Attribute o "values" apos) [] [] cpos) K := fun pins s τ H G Q I E q => by
  have d := h pins s τ H G (fun v H1 => ∃ xs m1 G1, Ex G G1 ∧ (∀ w a, K (.own w) ((w, .vw w a xs) :: m1)) ∧ EnvOk X c σ m1 G1 τ H1 ∧ RelR X.K G1 (.dat (.dk xs)) v) I E fun r m1 G1 H1 v ⟨xs, er, z⟩ x1 E1 rv => by subst er; exact ⟨xs, m1, G1, x1, z, E1, rv⟩
  refine wpAny_Call_method (T := "dict") (id := "dict.values") hbase rfl hline F.plainAttrs_dict F.slot_dict_values F.type_dict_values (thn d fun u s1 ⟨v, H1, I1, ru, xs, m1, G1, x1, z, E1, rv⟩ => ?_)
  cases rv with | dat rv =>
  cases rv with | @dk a _ vs ob hg rr =>
  obtain rfl : u = Value.ref a := ru
  obtain ⟨hs, hgd, hx, es, ep, us, hdt, hsz, kv, hm⟩ := I1.frzK (E1.sub _ _ hg)
  refine ⟨hm.dictOf.typeIs, hm.dictOf.mapOf.noDict, ?_⟩
  have hn : H1 s1.heap.objs.size = none := I1.hok.fresh (Nat.le_refl _)
  have I2 : Inv X pins τ (L2.upd H1 s1.heap.objs.size (vwO s1.heap.objs.size a)) { s1 with heap := s1.heap.push { cls := .type "dict_values", data := .fields #[.ref a] } } :=
    I1.laid (t' := s1.toks) (fun b ob q => Heap.get?_push_of_some _ q) (Nat.le_refl _) ⟨⟨_, Heap.get?_push_size _ rfl⟩, ⟨_, Heap.get?_push_size _ rfl⟩, fun h1 h2 ⟨sl, e⟩ kp => ⟨sl, kp _ e⟩⟩
  have fin : EP X pins τ Q (.ref s1.heap.objs.size) { s1 with heap := s1.heap.push { cls := .type "dict_values", data := .fields #[.ref a] } } :=
    ⟨.ref s1.heap.objs.size, _, I2, rfl, q _ _ G1 _ _ (z _ a) x1 (E1.new hn (.vw (.dk hg rr))) .own⟩
  show wpAny _ _ (callWith cpos (.builtin "dict.values") [.ref a] [] []) _ X.xe s1
  exact method_meetsIn F.slot_dict_values F.entry_dict_values rfl (PySem.evalArgs_none ⟨rfl, hm.dictOf.typeIs, F.args_dict_values_1 _, _, meets_dict_values (mixKind X.prog X.w) a hs, ⟨us, hm.dictOf⟩, fin⟩)
theorem kv_vals {kvs : List (Key × V)} {us : List (Key × Value)} (h : KV kvs us) : ∀ {acc : List Value}, acc.length = us.length → (∀ (j : Nat) (v : Value), acc[j]? = some v → ∃ k : Key, us[j]? = some (k, v)) → Vals (kvs.map (·.2)) acc := by
  induction h with
  | nil => intro acc hl _; rw [List.length_eq_zero_iff.mp hl]; exact .nil
  | @cons p q kvs us h1 _ ih =>
    intro acc hl ha
    cases acc with
    | nil => simp at hl
    | cons u acc =>
      obtain ⟨k, e⟩ := ha 0 u rfl
      simp at e
      subst e
      exact .cons h1.2 (ih (by simpa using hl) fun j v ej => ha (j + 1) v ej)
/-- list of a dict's values -/
theorem call_listV (hc : X.calm = true) : CallR X (.type "list") (fun xs H Q => ∃ (v a : Addr) (ob : Obj) (kvs : List (Key × V)), xs = [.ref v] ∧ H v = some (vwO v a) ∧ H a = some (.frz ob (.dK kvs)) ∧ ∀ p, H p = none → Q (.ref p) (L2.upd H p (.lst (kvs.map (·.2))))) := by
  intro pins s τ H xs us Q I r ⟨v, a, ob, kvs, ex, hv, ha, q⟩
  subst ex
  obtain ⟨u, eu, rx⟩ := vals1 r
  subst eu
  cases rx
  obtain ⟨hs, hgd, hx, es, ep, ws, hdt, hsz, kv, hm⟩ := I.frzK ha
  obtain ⟨⟨sl, hvo⟩, _, _⟩ := I.hok v _ hv
  have hlen : kvs.length = ws.length := Paired.length kv
  have hz : kvs.length ≤ sizeLine := (I.hok a _ ha).2.1
  refine PySem.W.kdl_call (PySem.W.kdl_values (knd := mixKind X.prog X.w) (kvs := ws) (ep := ep) (r := v) (d := a)) (I.ok.hd hc) ⟨⟨_, hvo, rfl, rfl⟩, hm⟩ (by rw [← hlen]; exact hz) fun h' tk acc c' hk hD hacc => ?_
  have hvals : Vals (kvs.map (·.2)) acc.toList := kv_vals kv (by rw [Array.length_toList]; exact hacc.1) fun j w e => hacc.2 j w (by rw [← Array.getElem?_toList]; exact e)
  exact ⟨.ref s.heap.objs.size, _, I.laid (t' := tk) hk (Nat.le_refl _) (show ObjOk X.prog X.w _ _ _ (.lst (kvs.map (·.2))) from ⟨by rw [List.length_map]; exact hz, acc.toList, c', hvals, by rw [Array.toArray_toList]; exact hD⟩), rfl, q _ (I.hok.fresh (Nat.le_refl _))⟩
theorem repk_snd {Kf : PySem.W.Frag} {G : Hp} : ∀ {xs : List (Key × D)} {vs : List (Key × V)}, Repk Kf G xs vs → Reps Kf G (xs.map (·.2)) (vs.map (·.2))
  | [], _, .nil => .nil
  | _ :: _, _, .cons h t => .cons h (repk_snd t)
theorem d_listV (L : Live X c k) (hg : Gl X "list") (hm : X.mg "list" = none) (h : DE X c σ m e (fun r m1 => ∃ v a xs m2, r = .own v ∧ Has m1 v (.vw v a xs) m2 ∧ ∀ p, K (.own p) ((p, .lst (xs.map fun x => R.dat x.2)) :: m2)))
    (hst : starEach [e] X.env = (false, eval e X.env) :: starEach [] X.env := by rfl) : DE X c σ m (.Call (.Name "list" p) [e] [] pos) K :=
  de_callT (call_listV L.calm) hg hm (by decide +kernel) (da_cons (h.imp fun r m1 ⟨v, a, xs, m2, er, hh, z⟩ => da_nil fun τ H G vs Q E rv q => by
    subst er
    obtain ⟨w, rfl, r1⟩ := one_of rv
    cases r1
    obtain ⟨_, ho, hho, ro⟩ := E.mem _ hh.mem
    cases ro with | vw ro =>
    cases ro with | @dk _ _ us ob hg rr =>
    refine ⟨v, a, ob, us, rfl, hho, E.sub _ _ hg, fun p hp => ?_⟩
    have er : (xs.map fun x => R.dat x.2) = (xs.map (·.2)).map R.dat := by rw [List.map_map]; rfl
    have z2 := z p
    rw [er] at z2
    exact q _ _ G _ _ z2 (Ex.refl G) ((E.rest hh).new hp (.lst (repk_snd rr).rel)) .own) hst) (he := hst)
end
/-! ### max(xs, default=d), xs not empty -/
section
variable {X : Cx} {c : Ct} {σ : Sl} {m : Mem} {k : Nat} {K : R → Mem → Prop} {e e2 : Expr} {p pos kpos : Pos}
theorem dp_ints {Kf : PySem.W.Frag} {H : Hp} : ∀ ns : List Int, DpAll Kf H (ns.map V.int) (ns.map PyData.int)
  | [] => .nil
  | n :: ns => .cons (.int n) (dp_ints ns)
theorem foldl_max (n : Int) : ∀ ns : List Int, (ns.foldl max n) ∈ n :: ns ∧ ∀ y ∈ n :: ns, y ≤ ns.foldl max n
  | [] => ⟨List.mem_cons_self, fun y hy => by rw [List.mem_singleton.mp hy]; exact Int.le_refl _⟩
  | a :: ns => by
    obtain ⟨h1, h2⟩ := foldl_max (max n a) ns
    rw [List.foldl_cons]
    have g := h2 _ List.mem_cons_self
    refine ⟨?_, fun y hy => ?_⟩
    · rcases List.mem_cons.mp h1 with q | q
      · rw [q]
        rcases Int.le_total n a with z | z
        · rw [Int.max_eq_right z]; exact List.mem_cons_of_mem _ List.mem_cons_self
        · rw [Int.max_eq_left z]; exact List.mem_cons_self
      · exact List.mem_cons_of_mem _ (List.mem_cons_of_mem _ q)
    · rcases List.mem_cons.mp hy with q | q
      · subst q; have := Int.le_max_left y a; omega
      · rcases List.mem_cons.mp q with q | q
        · subst q; have := Int.le_max_right n y; omega
        · exact h2 y (List.mem_cons_of_mem _ q)
theorem call_maxDf (hc : X.calm = true) (hu : X.A.units + 64 < cLine) : CallRK X (.builtin "max") [("default" : Str)] (fun xs zs H Q => ∃ (a : Addr) (ns : List Int) (d : V), xs = [.ref a] ∧ zs = [d] ∧ SqL X.K H a (ns.map V.int) ∧ ns ≠ [] ∧ ∀ M, M ∈ ns → (∀ y ∈ ns, y ≤ M) → Q (.int M) H) := by
  intro pins s τ H xs zs us ws Q I r rz ⟨a, ns, d, ex, ez, hS, hne, q⟩
  subst ex ez
  obtain ⟨u, eu, rx⟩ := vals1 r
  subst eu
  cases rx
  obtain ⟨dv, ed, rd⟩ := vals1 rz
  subst ed
  obtain ⟨its, rv, pl, hz⟩ := I.list hS
  obtain ⟨as, rr⟩ := Dp.readsAll I _ _ _ (dp_ints ns) rv
  have hd : PyData.depthAll (ns.map PyData.int) = 0 := PySem.W.depth_ints ns
  refine PySem.W.max_list_default (xs := ns.map PyData.int) (I.ok.hd hc) pl.isList (by simpa using rr) ⟨fun x hx y hy => ?_, fun x hx => ?_⟩ (by rw [hd]; omega) (fun e => absurd (List.map_eq_nil_iff.mp e) hne) fun y ys i v h' tk bs ey hv hr hk => ?_
  · obtain ⟨i, _, rfl⟩ := List.mem_map.mp hx
    obtain ⟨j, _, rfl⟩ := List.mem_map.mp hy
    rfl
  · obtain ⟨i, _, rfl⟩ := List.mem_map.mp hx
    exact fun z => by cases z
  · cases ns with
    | nil => exact absurd rfl hne
    | cons n ns =>
      rw [List.map_cons] at ey
      cases ey
      rw [PySem.W.maxD_ints] at hr
      cases hr with | int M t =>
      obtain ⟨h1, h2⟩ := foldl_max n ns
      exact ⟨.int _, H, I.kept (t' := tk) hk, ⟨_, rfl⟩, q _ h1 h2⟩
theorem de_maxD (L : Live X c k) (hg : Gl X "max") (hm : X.mg "max" = none) (h : DE X c σ m e (fun r m1 => DE X c σ m1 e2 (fun _ m2 => ∃ ns : List Int, VI m2 r ns ∧ ns ≠ [] ∧ ∀ M, M ∈ ns → (∀ y ∈ ns, y ≤ M) → K (rI M) m2)))
    (he : backTo pos (starEach [e] X.env) = (false, eval e X.env) :: backTo pos (starEach [] X.env) := by rfl) (hst : starEach [e] X.env = (false, eval e X.env) :: starEach [] X.env := by rfl) (hpl : (backTo pos (starEach [e] X.env)).any (·.1) = false := by rfl)
    (hall : (backToKw pos (keywordEach [⟨some "default", e2, kpos⟩] X.env)).all (·.1.isSome) = true := by rfl) (hnone : (backToKw pos (keywordEach [⟨some "default", e2, kpos⟩] X.env)).any (·.1.isNone) = false := by rfl) (hks : (backToKw pos (keywordEach [⟨some "default", e2, kpos⟩] X.env)).filterMap (·.1) = ([("default" : Str)] : List Str) := by rfl) :
    DE X c σ m (.Call (.Name "max" p) [e] [⟨some "default", e2, kpos⟩] pos) K := by
  refine de_of (pe_callBK (call_maxDf L.calm (by have := L.room.units; omega)) hg hm (by decide +kernel) (pa_cons (pe_t (c := c)) pa_nil hst) (pk_cons (pe_t (c := c)) pk_nil) (he := he) (hpl := hpl) (hall := hall) (hnone := hnone) (hks := hks)) fun τ H G Q E q => ?_
  refine ⟨σ, m, G, _, E, h, fun r m1 G1 H1 v d x1 E1 rv => ⟨σ, m1, G1, _, E1, d, fun r2 m2 G2 H2 v2 ⟨ns, hv, hne, z⟩ x2 E2 rv2 => ?_⟩⟩
  obtain ⟨a, us, rfl, hs, rr⟩ := VL.at hv E2 (rv.mono x2)
  have eu : us = ns.map V.int := by
    clear hne z hs hv
    induction ns generalizing us with
    | nil => cases rr; rfl
    | cons n ns ih =>
      cases rr with | cons h1 h2 =>
      cases int_of h1
      rw [ih _ h2]; rfl
  subst eu
  exact ⟨a, ns, v2, rfl, rfl, hs, hne, fun M h1 h2 => q _ m2 G2 H2 _ (z M h1 h2) (x1.trans x2) E2 (.dat .int)⟩
end
end D2
/-! ## D2X -/
set_option Elab.async false
set_option linter.all false
set_option maxRecDepth 100000
set_option maxHeartbeats 2000000
/-! the truth of a list -/
namespace D2
open PySem PySem.Spec PyProof.Rows L2
section
variable {X : Cx} {c : Ct} {σ : Sl} {m : Mem} {e : Expr} {pos : Pos}
theorem dt_lst {K : Bool → Mem → Prop} (h : DE X c σ m e (fun r m1 => ∃ rs, VL m1 r rs ∧ K (decide (0 < rs.length)) m1)) (he : ∀ whole, isTrue e X.env whole = (do let v ← whole; standAt e.pos; holding [v] (truthy v)) := by intro _; rfl) : DT X c σ m e K :=
  fun wh pins s τ H G Q hw I E k => by
    subst hw
    refine (pt_truth (pe_t (c := c)) he).run pins s τ H Q I ⟨σ, m, G, _, E, h, fun r m1 G1 H1 v ⟨rs, hv, z⟩ x1 E1 rv => ?_⟩
    obtain ⟨a, us, rfl, hs, rr⟩ := VL.at hv E1 rv
    refine ⟨!us.isEmpty, .inl ⟨us, hs, rfl⟩, k _ _ _ _ ?_ x1 E1⟩
    have hl := rr.length
    cases us with
    | nil => cases rr; exact z
    | cons u us => cases rr; exact z
theorem dt_I {K : Bool → Mem → Prop} (h : DE X c σ m e (fun r m1 => ∃ ns : List Int, VI m1 r ns ∧ K (decide (0 < ns.length)) m1)) (he : ∀ whole, isTrue e X.env whole = (do let v ← whole; standAt e.pos; holding [v] (truthy v)) := by intro _; rfl) : DT X c σ m e K :=
  dt_lst (h.imp fun r m1 ⟨ns, hv, z⟩ => ⟨_, hv, by rw [List.length_map]; exact z⟩) he
end
end D2
namespace D2
open PySem PySem.Spec PyProof.Rows L2
/-! ### constants of the module -/
section
variable {X : Cx} {c : Ct} {σ : Sl} {m : Mem} {x : Str} {K : R → Mem → Prop} {px pos : Pos}
def TupG (Kf : PySem.W.Frag) (mg : Str → Option Value) (x : Str) (ss : List (List Nat)) : Prop := ∃ a, mg x = some (.ref a) ∧ ∀ H, SqT Kf H a (ss.map fun s => V.str (sOf s))
def IntG (mg : Str → Option Value) (x : Str) (i : Int) : Prop := ∃ t, mg x = some (.int i t)
theorem reps_S {Kf : PySem.W.Frag} {G : Hp} : ∀ ss : List (List Nat), Reps Kf G (dS ss) (ss.map fun s => V.str (sOf s))
  | [] => .nil
  | _ :: ss => .cons .str (reps_S ss)
theorem de_tupG {ss : List (List Nat)} (hg : Gl X x) (hm : TupG X.K X.mg x ss) (kk : K (.dat (.tup (dS ss))) m) (hd : (x == ("__debug__" : Str)) = false := by decide) : DE X c σ m (.Name x px) K := by
  obtain ⟨a, ha, hs⟩ := hm
  exact de_of (pe_glob (v := .ref a) hg ha rfl hd) fun τ H G Q E q => q.now kk E (.dat (.tup (hs G) (reps_S ss)))
theorem o_ninS {k : Nat} {s : List Nat} {ss : List (List Nat)} (L : Live X c k) (z : K (rB (!decide (s ∈ ss))) m) : OP X c σ m (compareOp .NotIn) (rS s) (.dat (.tup (dS ss))) K := by
  have h : OP X c σ m (compareOp .NotIn) (rN (.text (sOf s))) (.dat (.tup (nDs (ss.map fun t => NestedKey.text (sOf t))))) K := o_ninT L (by rw [NestedKey.depth]; omega) (by
    have e : decide (NestedKey.text (sOf s) ∈ ss.map fun t => NestedKey.text (sOf t)) = decide (s ∈ ss) := by
      rw [Bool.eq_iff_iff, decide_eq_true_eq, decide_eq_true_eq, List.mem_map]
      constructor
      · rintro ⟨t, ht, e⟩
        have e2 : sOf t = sOf s := NestedKey.text.inj e
        have e3 : t = s := by rw [← lit_sOf t, e2, lit_sOf]
        rw [← e3]; exact ht
      · exact fun h => ⟨s, h, rfl⟩
    rw [e]; exact z)
  rw [nDs_map, List.map_map] at h
  exact h
/-- {} -/
theorem d_new0 (h : ∀ p, K (.own p) ((p, .dk []) :: m)) : DE X c σ m (.Dict [] [] pos) K :=
  de_of pe_dnewK fun τ H G Q E q p hp => q _ _ G _ _ (h p) (Ex.refl G) (E.new hp (.dk .nil)) .own
end
/-! ### str.strip(of signs) -/
theorem tw_all {g : Nat → Bool} : ∀ l : List Nat, (l.takeWhile g).length = l.length ↔ ∀ c ∈ l, g c = true
  | [] => by simp
  | c :: l => by
    by_cases h : g c = true
    · simp [h, tw_all l]
    · simp [h]
theorem tw_head {g : Nat → Bool} : ∀ l : List Nat, (∀ c ∈ l.drop (l.takeWhile g).length, g c = true) → ∀ c ∈ l, g c = true
  | [], _ => by simp
  | c :: l, h => by
    by_cases hc : g c = true
    · have h2 : ∀ d ∈ l.drop (l.takeWhile g).length, g d = true := by simpa [hc] using h
      intro d hd
      rcases List.mem_cons.mp hd with rfl | hd
      · exact hc
      · exact tw_head l h2 d hd
    · have h2 := h c (by simp [hc])
      exact absurd h2 hc
theorem strip_nil (s t : List Nat) : lit (Txt.stripChars (sOf s) (sOf t)) = [] ↔ ∀ c ∈ s, c ∈ t := by
  have e : Txt.stripChars (sOf s) (sOf t) = PySem.Builtin.Str.strSub (sOf s) (stripLo (sOf t).cps.contains true (sOf s)) (stripHi (sOf t).cps.contains true (sOf s) (stripLo (sOf t).cps.contains true (sOf s))) := stripBy_eq _ _ _ _
  have hg : ∀ c : Nat, (sOf t).cps.contains c = true ↔ c ∈ t := fun c => by simp [sOf]
  generalize (sOf t).cps.contains = g at e hg
  have e1 : stripLo g true (sOf s) = (s.takeWhile g).length := rfl
  rw [e1] at e
  have e2 : stripHi g true (sOf s) (s.takeWhile g).length = s.length - ((s.drop (s.takeWhile g).length).reverse.takeWhile g).length := by
    unfold stripHi
    rw [if_pos rfl]
    show (sOf s).length - _ = _
    rw [sOf_len]
  rw [e2] at e
  have e3 : lit (PySem.Builtin.Str.strSub (sOf s) (s.takeWhile g).length (s.length - ((s.drop (s.takeWhile g).length).reverse.takeWhile g).length)) = (s.take (s.length - ((s.drop (s.takeWhile g).length).reverse.takeWhile g).length)).drop (s.takeWhile g).length := by
    simp [PySem.Builtin.Str.strSub, lit, sOf]
    rw [List.drop_take]
  rw [e, e3, ← List.length_eq_zero_iff]
  have hl : (s.takeWhile g).length ≤ s.length := (List.takeWhile_sublist g).length_le
  have h2 := tw_all (g := g) (s.drop (s.takeWhile g).length).reverse
  have h3 : ((s.drop (s.takeWhile g).length).reverse.takeWhile g).length ≤ (s.drop (s.takeWhile g).length).reverse.length := (List.takeWhile_sublist g).length_le
  simp only [List.length_drop, List.length_take, List.length_reverse] at h2 h3 ⊢
  constructor
  · intro h
    have h4 := h2.mp (by omega)
    have h5 := tw_head s fun c hc => h4 c (List.mem_reverse.mpr hc)
    exact fun c hc => (hg c).mp (h5 c hc)
  · intro h
    have h6 := (tw_all (g := g) s).mpr fun c hc => (hg c).mpr (h c hc)
    omega
end D2
/-! ## D2Con -/
set_option Elab.async false
set_option linter.all false
set_option maxRecDepth 100000
set_option maxHeartbeats 2000000
/-! constants of the module: texts, whole numbers -/
namespace D2
open PySem PySem.Spec PyProof.Rows L2
def StrG (mg : Str → Option Value) (x : Str) (s : List Nat) : Prop := ∃ t, mg x = some (.str (sOf s) t)
theorem strG_of {mg : Str → Option Value} {x z : Str} {s : List Nat} (h : ∃ t, mg x = some (.str z t)) (e : z = sOf s := by decide +kernel) : StrG mg x s := by
  subst e; exact h
section
variable {X : Cx} {c : Ct} {σ : Sl} {m : Mem} {x : Str} {K : R → Mem → Prop} {px : Pos}
theorem de_strG {s : List Nat} (hg : Gl X x) (hm : StrG X.mg x s) (kk : K (rS s) m) (hd : (x == ("__debug__" : Str)) = false := by decide) : DE X c σ m (.Name x px) K := by
  obtain ⟨t, ha⟩ := hm
  exact de_of (pe_glob (v := .str (sOf s)) hg ha ⟨t, rfl⟩ hd) fun τ H G Q E q => q.now kk E (.dat .str)
theorem de_intG {i : Int} (hg : Gl X x) (hm : IntG X.mg x i) (kk : K (rI i) m) (hd : (x == ("__debug__" : Str)) = false := by decide) : DE X c σ m (.Name x px) K := by
  obtain ⟨t, ha⟩ := hm
  exact de_of (pe_glob (v := .int i) hg ha ⟨t, rfl⟩ hd) fun τ H G Q E q => q.now kk E (.dat .int)
end
end D2
/-! ## D2Enum -/
set_option Elab.async false
set_option linter.all false
set_option maxRecDepth 100000
set_option maxHeartbeats 2000000
/-! for i, ch in enumerate(a text) -/
namespace D2
open PySem PySem.Spec PyProof.Rows L2
/-- the signs of x, each in a new pair with its place -/
def Ites (x : Str) : It :=
  ⟨fun i _ => i < x.cps.size, fun i H v H' => ∃ T c, v = .ref T ∧ H T = none ∧ H' = upd H T (.tup [.int (i : Nat), .str ⟨#[c]⟩]) ∧ x.cps[i]? = some c, fun i _ => x.cps.size ≤ i⟩
theorem nextOf_str_end {prog : Program} {w : World} {A : Around} {E : Value → Shared → Prop} {s : Shared} {it : Addr} {x : Str} {t : Tok} {i : Nat} {Q : Value → Shared → Prop} (hh : A.handled = none) (hit : s.heap.IsStrIter it (strIterType x) x t i) (hx : x.cps[i]? = none)
    (hE : ∀ h' e, Heap.ExtBut it s.heap h' → (∃ o, h'.get? e = some o ∧ o.cls = .type "StopIteration") → E (.ref e) { s with heap := h' }) : wpAny (model prog w) A (Builtin.SmallTypes.nextOf (.ref it)) Q E s := by
  cases ha : x.cps.all (· < 128)
  · simp only [strIterType, ha, Bool.false_eq_true, if_false] at hit
    exact wpAny_nextOf_wide_end hh hit hx hE
  · simp only [strIterType, ha, if_true] at hit
    exact wpAny_nextOf_ascii_end hh hit hx hE
theorem next_enumS_end {prog : Program} {w : World} {A : Around} {E : Value → Shared → Prop} {s : Shared} {e it : Addr} {x : Str} {t : Tok} {i : Nat} {j : Int} {old : Value} {Q : Option Value → Shared → Prop} (hh : A.in1.handled = none) (he : IsEnum s.heap e it j old) (hit : s.heap.IsStrIter it (strIterType x) x t i) (hx : x.cps[i]? = none)
    (hQ : ∀ h', Heap.ExtBut it s.heap h' → Q none { s with heap := h' }) : wpAny (model prog w) A (pyNext (.ref e)) Q E s := by
  have hT : s.TypeIs (.ref e) "enumerate" := ⟨_, he, rfl⟩
  unfold pyNext
  refine wpAny_bind (wpAny_attempt (wpAny_callSpecial?_slot (name := Str.ofString "__next__") hT F.slot_enumerate_next
    (wpAny_call_entry F.slot_enumerate_next hT F.entry_enumerate_next ?_ (F.args_enumerate_next_1 _))))
  show wpAny _ _ (field (.ref e) 2 >>= _) _ _ _
  refine wpAny_bind (wpAny_field he rfl (x := .ref it) rfl ?_)
  refine wpAny_bind (nextOf_str_end hh hit hx fun h' x he' hx' => ?_)
  obtain ⟨o, ho, hc⟩ := hx'
  refine wpAny_bind (wpAny_isInstance (T := "StopIteration") (b := true) ⟨o, ho, hc⟩ isSubtype_stop ?_)
  exact wpAny_pure (hQ _ he')
theorem turn_enumS {P : Program} {w : World} {K : PySem.W.Frag} {elts : List Expr} {kk : Nat} {tpos : Pos} (x : Str) (t : Tok) (e it : Addr) :
    Turn P w K (.Tuple elts kk tpos) (Ites x) [e, it] e (fun i h => (∃ old, IsEnum h e it ((i : Nat) : Int) old) ∧ h.IsStrIter it (strIterType x) x t i ∧ e ≠ it) where
  mem := by simp
  obj := fun i h st b hb => by
    obtain ⟨⟨old, he⟩, ⟨o, ho, hc, hd⟩, _⟩ := st
    have e' : b = e ∨ b = it := by simpa using hb
    rcases e' with z | z
    · rw [z]; exact ⟨_, he, fun v q => nomatch q⟩
    · rw [z]; exact ⟨o, ho, fun v q => by rw [hd] at q; cases q⟩
  keep := fun i h h' st k => let ⟨⟨old, he⟩, ⟨o, ho, r⟩, hne⟩ := st; ⟨⟨old, k e (by simp) _ he⟩, ⟨o, k it (by simp) o ho, r⟩, hne⟩
  item := by
    intro X hP hw hK hc i pins s σ H E I hf st hg
    subst hP hw hK
    obtain ⟨⟨old, he⟩, hit, hne⟩ := st
    have hel : e < s.heap.objs.size := Heap.lt_size he
    have hil : it < s.heap.objs.size := by obtain ⟨_, q, _⟩ := hit; exact Heap.lt_size q
    have Dr := Draws.text (prog := X.prog) (w := X.w) (A := X.A.in1) (I.ok.hd hc) it x t
    refine wpAny_pyNext_enum_itemD Dr he hit hg hne (by simpa using hne) fun u h' tk hu ho hit' hT hsz hk => ?_
    obtain ⟨c, tc, hcx, eu⟩ := hu
    refine ⟨_, rfl, wpAny_letOwnedTupleGo_enum (s := { s with heap := h', toks := tk + 1 }) ho fun h'' he' sb => ?_⟩
    have hT2 : h''.get? s.heap.objs.size = some { cls := .type "tuple", data := .seq #[.int i tk, u] } := (sb.2 _ (Nat.ne_of_gt hel)).trans hT
    have new : ObjOk X.prog X.w (upd H s.heap.objs.size (.tup [.int (i : Nat), .str ⟨#[c]⟩])) h'' s.heap.objs.size (.tup [.int (i : Nat), .str ⟨#[c]⟩]) :=
      ⟨by show 2 ≤ sizeLine; decide, [.int i tk, u], .cons ⟨_, rfl⟩ (.cons ⟨tc, eu⟩ .nil), ⟨_, hT2, rfl, _, rfl⟩⟩
    have I1 : Inv X pins σ (upd H s.heap.objs.size (.tup [.int (i : Nat), .str ⟨#[c]⟩])) { s with heap := h'', toks := tk + 1 } :=
      I.turnedNew (ch := [e, it]) (fun b ob hb q => (sb.2 b (fun z => hb (by simp [z]))).trans (hk b ob (fun z => hb (by simp [z])) (fun z => hb (by simp [z])) q)) hf (Nat.le_refl _) new
    refine ⟨.ref s.heap.objs.size, _, I1, rfl, ⟨_, c, rfl, I.hok.fresh (Nat.le_refl _), rfl, hcx⟩, ⟨⟨u, ?_⟩, ?_, hne⟩, fun b hb => ?_⟩
    · have e1 : ((i + 1 : Nat) : Int) = (i : Int) + 1 := by omega
      rw [e1]; exact he'
    · obtain ⟨oi, q1, q2⟩ := hit'
      exact ⟨oi, (sb.2 it (Ne.symm hne)).trans q1, q2⟩
    · have hb' : b < s.heap.objs.size := by
        have e' : b = e ∨ b = it := by simpa using hb
        rcases e' with z | z
        · rw [z]; exact hel
        · rw [z]; exact hil
      rw [upd_ne (Nat.ne_of_lt hb')]
      exact (hf b hb).1
  done := by
    intro X hP hw hK hc i pins s σ H E I hf st hg
    subst hP hw hK
    obtain ⟨⟨old, he⟩, hit, hne⟩ := st
    obtain ⟨f0, f1, f2, f3, f4, f5⟩ := hf it (by simp)
    have hx : x.cps[i]? = none := Array.getElem?_eq_none hg
    have hh : X.A.handled = none := I.ok.hd hc
    have hh1 : X.A.in1.handled = none := hh
    exact next_enumS_end hh1 he hit hx fun h' eb => ⟨rfl, I.turned (t' := s.toks) (fun b o hb q => eb b o hb q) f0 f1 f3 f4 f5⟩
  self := fun A i s Q E st h => let ⟨⟨_, he⟩, _⟩ := st; wpAny_pyIter_enum he h
def iEnumS (ta : TA) : TI := fun σ H R => ta σ H fun vs H1 => ∃ x, vs = [.str x] ∧ R (Ites x) H1
theorem pi_enumS {X : Cx} {e : Expr} {ta : TA} {p pos tpos : Pos} {elts : List Expr} {kk : Nat} (hg : Gl X "enumerate") (hm : X.mg "enumerate" = none) (ha : PA X [e] ta) (hs : starEach [e] X.env = [(false, eval e X.env)] := by rfl) :
    PI X (.Tuple elts kk tpos) (.Call (.Name "enumerate" p) [e] [] pos) (iEnumS ta) := by
  refine ⟨fun pins s σ H R I h => ?_⟩
  refine Call_ (ld_blt I hg hm boot_enumerate (PyProof.Rows.callWith_type1 (thn (ha.run pos pins s σ H _ I h) fun us s1 ⟨vs, H1, I1, r1, q1⟩ => ?_) hs rfl))
  obtain ⟨x, ex, q⟩ := q1
  subst ex
  cases r1 with
  | cons r rr =>
    cases rr
    obtain ⟨t, rfl⟩ := r
    refine call_enumerate_str fun h' he hit hsz hk => wpAny_pyIter_enum he ?_
    have I2 : Inv X pins σ H1 { s1 with heap := h' } := I1.kept (t' := s1.toks) hk
    refine ⟨s1.heap.objs.size + 1, [s1.heap.objs.size + 1, s1.heap.objs.size], _, _, H1, rfl, I2, turn_enumS x t (s1.heap.objs.size + 1) s1.heap.objs.size, ⟨⟨.none, he⟩, hit, Nat.succ_ne_self _⟩, fun b hb => ?_, q⟩
    have e' : b = s1.heap.objs.size + 1 ∨ b = s1.heap.objs.size := by simpa using hb
    have hle : s1.heap.objs.size ≤ b := by
      rcases e' with z | z
      · rw [z]; exact Nat.le_add_right _ _
      · rw [z]; exact Nat.le_refl _
    exact I1.fpOk hle (I1.hok.fresh hle)
section
variable {X : Cx} {c : Ct} {σ : Sl} {m : Mem} {elts : List Expr} {kk : Nat} {tpos p pos : Pos} {e : Expr} {K : List D → Mem → Prop}
/-- the pairs of a text's places and signs -/
def enumS (s : List Nat) : List D := (List.range s.length).map fun (i : Nat) => .tup [.int (i : Int), .str [s.getD i 0]]
theorem enumS_at {s : List Nat} {i : Nat} {d : D} (h : (enumS s)[i]? = some d) : ∃ hi : i < s.length, d = .tup [.int (i : Int), .str [s[i]]] := by
  unfold enumS at h
  rw [List.getElem?_map] at h
  by_cases hi : i < s.length
  · rw [List.getElem?_range hi] at h
    cases h
    exact ⟨hi, by show D.tup [D.int (i : Int), D.str [s.getD i 0]] = _; rw [List.getD_eq_getElem?_getD, List.getElem?_eq_getElem hi]; rfl⟩
  · rw [List.getElem?_eq_none (by simpa using Nat.le_of_not_lt hi)] at h
    cases h
theorem enumS_len (s : List Nat) : (enumS s).length = s.length := by simp [enumS]
theorem it_enumS (hg : Gl X "enumerate") (hm : X.mg "enumerate" = none) (h : DE X c σ m e (fun r m1 => ∃ s, r = rS s ∧ K (enumS s) m1)) (hs : starEach [e] X.env = [(false, eval e X.env)] := by rfl) : DIt X c σ m (.Tuple elts kk tpos) (.Call (.Name "enumerate" p) [e] [] pos) K := by
  refine ⟨_, pi_enumS hg hm (pa_t (c := c)) hs, fun τ H G R' E q => ⟨σ, m, G, fun rs m1 => ∃ s, rs = [rS s] ∧ K (enumS s) m1, E, ?_, ?_⟩⟩
  · exact da_cons (h.imp fun r m1 ⟨s, e, z⟩ => da_nil ⟨s, by rw [e], z⟩) hs
  · intro rs m1 G1 H1 vs ⟨s, e, z⟩ x1 E1 rv
    subst e
    obtain ⟨v, rfl, r1⟩ := one_of rv
    cases str_of r1
    refine ⟨sOf s, rfl, q _ m1 G1 H1 _ z x1 E1 fun i H2 ex => ⟨fun d hd => ?_, fun hl => ?_⟩⟩
    · obtain ⟨hi, rfl⟩ := enumS_at hd
      refine ⟨by show i < (sOf s).cps.size; simpa [sOf] using hi, fun x H' hy => .inr ?_⟩
      obtain ⟨T, ch, ex', hT, eH, hc⟩ := hy
      have hc' : s[i]? = some ch := by simpa [sOf] using hc
      have hce : s[i] = ch := by
        rw [List.getElem?_eq_getElem hi] at hc'
        exact Option.some.inj hc'
      subst ex' eH
      refine ⟨T, .tup [.int (i : Nat), .str ⟨#[ch]⟩], hT, rfl, ?_⟩
      refine .tup (.inl (.inl upd_same)) (.cons .int (.cons ?_ .nil))
      rw [hce]
      exact Rep.str (s := [ch])
    · show (sOf s).cps.size ≤ i
      rw [enumS_len] at hl
      simpa [sOf] using hl
end
end D2
/-! ## D2Bit -/
set_option Elab.async false
set_option linter.all false
set_option maxRecDepth 100000
set_option maxHeartbeats 2000000
/-! 1 << k, a | b of numbers not below 0 -/
namespace D2
open PySem PySem.Spec PyProof.Rows L2
section
variable {X : Cx} {c : Ct} {σ : Sl} {m : Mem} {K : R → Mem → Prop}
theorem o_shl1 {k : Nat} (h : k ≤ 1000000) (z : K (rI ((2 ^ k : Nat) : Int)) m) : OP X c σ m (binaryOp .LShift) (rI 1) (rI (k : Int)) K :=
  o_shl ⟨by omega, by omega, by decide⟩ (by rw [Int.one_mul, Int.toNat_natCast]; rw [Int.natCast_pow] at z; exact z)
theorem o_orN {a b : Nat} (z : K (rI ((a ||| b : Nat) : Int)) m) : OP X c σ m (binaryOp .BitOr) (rI (a : Int)) (rI (b : Int)) K := by
  have e : Builtin.bitOr (a : Int) (b : Int) = ((a ||| b : Nat) : Int) := by rw [bitOr_nn (by omega) (by omega), Int.toNat_natCast, Int.toNat_natCast]
  exact opI0 L2.op_or (by rw [e]; exact z)
variable {m' : Mem} {a : Addr} {kvs : List (Key × R)} {rk : R} {kk : Key} {k : Nat}
theorem o_ninK (L : Live X c k) (hh : Has m a (.dk kvs) m') (hk : IsKey rk kk) (z : K (rB (!(valR kvs kk).isSome)) m) : OP X c σ m (compareOp .NotIn) rk (.own a) K := fun pins s τ H G v1 v2 u1 u2 Q I E q1 q2 p1 p2 q => by
  cases q2
  obtain rfl : u2 = Value.ref a := p2
  obtain ⟨_, ho, hho, ro⟩ := E.mem _ hh.mem
  cases ro with | @dk _ vs ro =>
  rw [hk.v q1] at p1
  have e : (valV vs kk).isSome = (valR kvs kk).isSome := by
    cases hv : valR kvs kk with
    | none => rw [(relK_val ro kk).2 hv]; rfl
    | some r =>
      obtain ⟨v, e1, _⟩ := (relK_val ro kk).1 r hv
      rw [e1]; rfl
  refine d_notIn (by have := L.room.units; omega) I (DGet.k hho) p1 fun s' I' => ⟨.bl _, H, I', rfl, ?_⟩
  rw [e]
  exact q.now z E (.dat .bl)
end
end D2
namespace D2
open PySem PySem.Spec PyProof.Rows L2
section
variable {X : Cx} {c : Ct} {σ : Sl} {m : Mem} {K : R → Mem → Prop} {k : Nat} {e e2 : Expr} {p pos : Pos}
/-- max(a, b) -/
theorem d_max2 (L : Live X c k) (hg : Gl X "max") (hm : X.mg "max" = none) (h : DA X c σ m [e, e2] (fun rs m1 => ∃ i j, rs = [rI i, rI j] ∧ K (rI (if j > i then j else i)) m1))
    (he : starEach [e, e2] X.env = (false, eval e X.env) :: starEach [e2] X.env := by rfl) (hpl : (backTo pos (starEach [e2] X.env)).any (·.1) = false := by rfl) : DE X c σ m (.Call (.Name "max" p) [e, e2] [] pos) K := by
  refine de_callB (call_max2 L.calm) hg hm (by decide +kernel) (fun ps pins s τ H G Q I E q => h ps pins s τ H G Q I E fun rs m1 G1 H1 vs ⟨i, j, er, z⟩ x1 E1 rv => q rs m1 G1 H1 vs ?_ x1 E1 rv) (he := he) (hpl := hpl)
  intro τ H G vs Q E rv q
  subst er
  cases rv with | cons r1 t =>
  cases t with | cons r2 t =>
  cases t
  cases int_of r1
  cases int_of r2
  exact ⟨i, j, rfl, q.now z E (.dat .int)⟩
end
end D2
namespace D2
open PySem PySem.Spec PyProof.Rows L2
section
variable {X : Cx} {c : Ct} {σ : Sl} {m m' : Mem} {en : En} {sts : List Stmt} {x : Str} {a : Addr} {f : R → Sl} {d : D}
/-- x's list is read only from here on -/
theorem dss_frzL (hx : Lk σ x (.own a)) (hp : PutF σ x f) (hz : Frz m (.own a) d m') (h : DSs X c (f (.dat d)) m' sts en) : DSs X c σ m sts en := fun F pins s τ H G D I E fx ft => by
  obtain ⟨i, v, h1, h2, h3, hv⟩ := E.get hx
  obtain ⟨G2, x1, E3, rep⟩ := hz.env E h3
  obtain ⟨j, hj, E4⟩ := E3.put (hp.put (.dat d)) hv (.dat rep)
  have ij : i = j := nodup_ix E.nm.nd h1 hj
  subst ij
  have et : τ.set i (some v) = τ := by
    refine List.ext_getElem? fun n => ?_
    by_cases e : i = n
    · subst e
      have hl : i < τ.length := by
        by_cases q : i < τ.length
        · exact q
        · rw [List.getElem?_eq_none (by omega)] at h2; cases h2
      rw [List.getElem?_set_self hl, h2]
    · rw [List.getElem?_set_ne e]
  rw [et] at E4
  exact h F pins s τ H _ D I E4 (fx.trans x1) ft
end
end D2
namespace D2
open PySem PySem.Spec PyProof.Rows L2
/-- a test that tells False on all its roads -/
theorem dt_no {X : Cx} {c : Ct} {σ : Sl} {m : Mem} {e : Expr} {K : Bool → Mem → Prop} (h : DT X c σ m e (fun b m1 => b = false ∧ m1 = m)) (k : K false m) : DT X c σ m e K :=
  fun wh pins s τ H G Q hw I E kq => h wh pins s τ H G Q hw I E (fun b m1 G1 H1 ⟨e1, e2⟩ x E1 => by subst e1 e2; exact kq _ _ _ _ k x E1)
end D2
namespace D2
open PySem PySem.Spec PyProof.Rows L2
/-- one statement, then the rest from a middle -/
theorem dss_mid {X : Cx} {c : Ct} {σ : Sl} {m : Mem} {st : Stmt} {sts : List Stmt} {en : En} (I : Sl → Mem → Prop) (h1 : DS X c σ m st (nxTo en I)) (h2 : ∀ σ' m', I σ' m' → DSs X c σ' m' sts en) : DSs X c σ m (st :: sts) en :=
  dss_cons fun F pins s τ H G D Iv E fx ft => h1 F pins s τ H G D Iv E fx ⟨fun σ' m' G' τ' H' hI x E' => ft.nx σ' m' G' τ' H' (h2 σ' m' hI) x E', ft.rt, ft.bk, ft.ct⟩
end D2
/-! ## D2Isi -/
set_option Elab.async false
set_option linter.all false
set_option maxRecDepth 100000
set_option maxHeartbeats 2000000
/-! isinstance of built-in types, told -/
namespace D2
open PySem PySem.Spec PyProof.Rows L2
theorem kitb_NoneType_int : kitB "NoneType" "int" = some false := by decide +kernel
theorem kitb_NoneType_bool : kitB "NoneType" "bool" = some false := by decide +kernel
theorem kitb_NoneType_str : kitB "NoneType" "str" = some false := by decide +kernel
theorem kitb_NoneType_list : kitB "NoneType" "list" = some false := by decide +kernel
theorem kitb_NoneType_tuple : kitB "NoneType" "tuple" = some false := by decide +kernel
theorem kitb_NoneType_dict : kitB "NoneType" "dict" = some false := by decide +kernel
theorem kitb_bool_int : kitB "bool" "int" = some true := by decide +kernel
theorem kitb_bool_bool : kitB "bool" "bool" = some true := by decide +kernel
theorem kitb_bool_str : kitB "bool" "str" = some false := by decide +kernel
theorem kitb_bool_list : kitB "bool" "list" = some false := by decide +kernel
theorem kitb_bool_tuple : kitB "bool" "tuple" = some false := by decide +kernel
theorem kitb_bool_dict : kitB "bool" "dict" = some false := by decide +kernel
theorem kitb_int_int : kitB "int" "int" = some true := by decide +kernel
theorem kitb_int_bool : kitB "int" "bool" = some false := by decide +kernel
theorem kitb_int_str : kitB "int" "str" = some false := by decide +kernel
theorem kitb_int_list : kitB "int" "list" = some false := by decide +kernel
theorem kitb_int_tuple : kitB "int" "tuple" = some false := by decide +kernel
theorem kitb_int_dict : kitB "int" "dict" = some false := by decide +kernel
theorem kitb_str_int : kitB "str" "int" = some false := by decide +kernel
theorem kitb_str_bool : kitB "str" "bool" = some false := by decide +kernel
theorem kitb_str_str : kitB "str" "str" = some true := by decide +kernel
theorem kitb_str_list : kitB "str" "list" = some false := by decide +kernel
theorem kitb_str_tuple : kitB "str" "tuple" = some false := by decide +kernel
theorem kitb_str_dict : kitB "str" "dict" = some false := by decide +kernel
theorem kitb_list_int : kitB "list" "int" = some false := by decide +kernel
theorem kitb_list_bool : kitB "list" "bool" = some false := by decide +kernel
theorem kitb_list_str : kitB "list" "str" = some false := by decide +kernel
theorem kitb_list_list : kitB "list" "list" = some true := by decide +kernel
theorem kitb_list_tuple : kitB "list" "tuple" = some false := by decide +kernel
theorem kitb_list_dict : kitB "list" "dict" = some false := by decide +kernel
theorem kitb_tuple_int : kitB "tuple" "int" = some false := by decide +kernel
theorem kitb_tuple_bool : kitB "tuple" "bool" = some false := by decide +kernel
theorem kitb_tuple_str : kitB "tuple" "str" = some false := by decide +kernel
theorem kitb_tuple_list : kitB "tuple" "list" = some false := by decide +kernel
theorem kitb_tuple_tuple : kitB "tuple" "tuple" = some true := by decide +kernel
theorem kitb_tuple_dict : kitB "tuple" "dict" = some false := by decide +kernel
theorem kitb_dict_int : kitB "dict" "int" = some false := by decide +kernel
theorem kitb_dict_bool : kitB "dict" "bool" = some false := by decide +kernel
theorem kitb_dict_str : kitB "dict" "str" = some false := by decide +kernel
theorem kitb_dict_list : kitB "dict" "list" = some false := by decide +kernel
theorem kitb_dict_tuple : kitB "dict" "tuple" = some false := by decide +kernel
theorem kitb_dict_dict : kitB "dict" "dict" = some true := by decide +kernel
section
variable {X : Cx} {c : Ct} {σ : Sl} {m : Mem} {k : Nat} {K : R → Mem → Prop} {e e2 : Expr} {p pos : Pos}
/-- min(a, b) -/
theorem d_min2 (L : Live X c k) (hg : Gl X "min") (hm : X.mg "min" = none) (h : DA X c σ m [e, e2] (fun rs m1 => ∃ i j, rs = [rI i, rI j] ∧ K (rI (if j < i then j else i)) m1))
    (he : starEach [e, e2] X.env = (false, eval e X.env) :: starEach [e2] X.env := by rfl) (hpl : (backTo pos (starEach [e2] X.env)).any (·.1) = false := by rfl) : DE X c σ m (.Call (.Name "min" p) [e, e2] [] pos) K := by
  refine de_callB (call_min2 L.calm) hg hm (by decide +kernel) (fun ps pins s τ H G Q I E q => h ps pins s τ H G Q I E fun rs m1 G1 H1 vs ⟨i, j, er, z⟩ x1 E1 rv => q rs m1 G1 H1 vs ?_ x1 E1 rv) (he := he) (hpl := hpl)
  intro τ H G vs Q E rv q
  subst er
  cases rv with | cons r1 t =>
  cases t with | cons r2 t =>
  cases t
  cases int_of r1
  cases int_of r2
  exact ⟨i, j, rfl, q.now z E (.dat .int)⟩
end
end D2
/-! ## D2S -/
set_option Elab.async false
set_option linter.all false
set_option maxRecDepth 100000
set_option maxHeartbeats 2000000
/-! sorted(a tuple of data) -/
namespace D2
open PySem PySem.Spec PyProof.Rows L2
section
open PySem.W
variable {prog : Program} {w : World} {A : Around} {E : Value → Shared → Prop} {s : Shared} {β : Type} {vs : List Value} {bs : List β} {enc : β → PyData} {RR : Value → β → Prop}
theorem sorted_tupD {t : Addr} {o : Obj} {n : Nat} {Q : Value → Shared → Prop} (ho : s.heap.get? t = some o) (hc : o.cls = .type "tuple") (hd : o.data = .seq vs.toArray n) (e : EachIs RR vs bs)
    (er : EachIs (fun v b => ∃ as, Reads s.heap v (enc b) as) vs bs) (hal : AllAlike (bs.map enc)) (hk : Sortable (bs.map enc)) (hL : bs.length ≤ sizeLine) (hu : ∀ b, b ∈ bs → A.units + 2 + (enc b).depth < cLine)
    (h : ∀ (hp : Heap) (out : List Value), (∀ b u, s.heap.get? b = some u → hp.get? b = some u) → EachIs RR out (bs.mergeSort (dataLe false enc)) → Q (.ref hp.objs.size) { s with heap := sortedHeap (hp.push (seqObj "list" vs.toArray 0)) hp.objs.size vs out.toArray }) :
    wpAny (model prog w) A (call (.builtin "sorted") [.ref t]) Q E s := by
  have hlen : vs.length ≤ sizeLine := by rw [e.length]; exact hL
  refine call_function_entry_kw kind_sorted plain_sorted entry_sorted (args_sorted1 _) ?_
  unfold Builtin.«sorted»
  refine wpAny_bind (m := checkCount "sorted" 1 1 _) (wpAny_pure (wpAny_bind ?_))
  refine wpAny_collect_seq t (.inr rfl) ho hc hd (fun hp kp => ?_) (by rw [List.size_toArray]; exact hlen)
  refine wpAny_bind (wpAny_newList ?_ (by simpa using hlen))
  have hat : (hp.push (seqObj "list" vs.toArray 0)).get? hp.objs.size = some (seqObj "list" vs.toArray 0) := Heap.get?_push_size _ rfl
  have old : ∀ b u, s.heap.get? b = some u → (hp.push (seqObj "list" vs.toArray 0)).get? b = some u := fun b u q => Heap.get?_push_of_some _ (kp b u q)
  have hlt : ∀ b u, s.heap.get? b = some u → b ≠ hp.objs.size := fun b u q => Nat.ne_of_lt (Heap.lt_size (kp b u q))
  have er' : EachIs (fun v b => ∃ as, Reads (sortingHeap (hp.push (seqObj "list" vs.toArray 0)) hp.objs.size vs) v (enc b) as) vs bs := er.mono fun _ _ ⟨as, r⟩ => ⟨as, PyProof.Rows.Reads.keeps (fun b u q => sortingHeap_old (hlt b u q) (old b u q)) r⟩
  refine wpAny_bind (wpAny_holding (wpAny_call_entry_kw slot_list_sort ⟨_, hat, rfl⟩ entry_list_sort ?body (args_list_sort _)))
  refine wpAny_mono (list_sort_vals (P := fun f s' => f = .done (.ret .none) ∧ Q (.ref hp.objs.size) s') (s := { s with heap := hp.push (seqObj "list" vs.toArray 0) }) (E := fun _ _ => False) hat (SortsAt.data (s := { s with heap := sortingHeap (hp.push (seqObj "list" vs.toArray 0)) hp.objs.size vs }) (each_map (R := fun v d => ∃ as, Reads (sortingHeap (hp.push (seqObj "list" vs.toArray 0)) hp.objs.size vs) v d as) enc er') hal hk (bound_map hu)) hlen ⟨rfl, h hp _ kp (sortVals_data false e er' hal)⟩) (fun f s' hf => ?_) fun _ _ z => z.elim
  obtain ⟨rfl, hq⟩ := hf
  exact ⟨_, rfl, wpAny_pure ⟨_, rfl, hq⟩⟩
end
section
variable {X : Cx}
def rSortedT (K : PySem.W.Frag) : List V → Hp → VK → Prop := fun xs H Q => ∃ (a : Addr) (ys : List (V × PyData)), xs = [.ref a] ∧ SqT K H a (ys.map (·.1)) ∧ DpAll K H (ys.map (·.1)) (ys.map (·.2)) ∧ PySem.W.AllAlike (ys.map (·.2)) ∧ PySem.W.Sortable (ys.map (·.2)) ∧ ys.length ≤ 1000000 ∧ (∀ y ∈ ys, y.2.depth ≤ 60) ∧
  ∀ p, H p = none → Q (.ref p) (L2.upd H p (.lst ((ys.mergeSort (PySem.W.dataLe false (·.2))).map (·.1))))
theorem call_sortedTu (hu : X.A.units + 64 < cLine) : CallR X (.builtin "sorted") (rSortedT X.K) := by
  intro pins s τ H xs us Q I r h
  obtain ⟨a, ys, ex, hq, hdp, hal, hso, hl, hdep, q⟩ := h
  subst ex
  obtain rfl := Vals.ref1 r
  obtain ⟨its, rv, pl, hz⟩ := I.tuple hq
  obtain ⟨as, rd⟩ := Dp.readsAll I _ _ _ hdp rv
  have e1 : ∀ {ys : List (V × PyData)} {its : List Value} {as : List Addr}, Vals (ys.map (·.1)) its → ReadsAll s.heap its (ys.map (·.2)) as →
      PySem.W.EachIs (fun u y => L2.RelV y.1 u) its ys ∧ PySem.W.EachIs (fun u y => ∃ as, Reads s.heap u y.2 as) its ys := by
    intro ys
    induction ys with
    | nil => intro its as r1 r2; cases r1; exact ⟨.nil, .nil⟩
    | cons y ys ih =>
      intro its as r1 r2
      cases r1 with | cons p ps =>
      cases r2 with | cons t ts =>
      obtain ⟨i1, i2⟩ := ih ps ts
      exact ⟨.cons p i1, .cons ⟨_, t⟩ i2⟩
  obtain ⟨g1, g2⟩ := e1 rv rd
  obtain ⟨ob, n, ho, hc, hd⟩ : ∃ (ob : Obj) (n : Nat), s.heap.get? a = some ob ∧ ob.cls = .type "tuple" ∧ ob.data = .seq its.toArray n := by
    obtain ⟨ob, h1, h2, n, h3⟩ := pl
    exact ⟨ob, n, h1, h2, h3⟩
  refine sorted_tupD (bs := ys) (enc := (·.2)) (RR := fun u y => L2.RelV y.1 u) ho hc hd g1 g2 hal hso (Nat.le_trans hl (by decide)) (fun y hy => by have := hdep y hy; omega) fun hp out kp eo => ?_
  have g3 : ∀ {ys : List (V × PyData)} {out : List Value}, PySem.W.EachIs (fun u y => L2.RelV y.1 u) out ys → Vals (ys.map (·.1)) out := by
    intro ys
    induction ys with
    | nil => intro out r; cases r; exact .nil
    | cons y ys ih => intro out r; cases r with | cons p ps => exact .cons p (ih ps)
  have hlen : ((ys.mergeSort (PySem.W.dataLe false (·.2))).map (·.1)).length ≤ sizeLine := by
    rw [List.length_map, List.length_mergeSort]; exact Nat.le_trans hl (by decide)
  have hat : (hp.push (seqObj "list" its.toArray 0)).get? hp.objs.size = some (seqObj "list" its.toArray 0) := Heap.get?_push_size _ rfl
  obtain ⟨cn, hcn⟩ := sortedHeap_at (vs := its) (out := out.toArray) hat
  have hg : s.heap.get? hp.objs.size = none := by
    cases q0 : s.heap.get? hp.objs.size with
    | none => rfl
    | some u => exact absurd (Heap.lt_size (kp _ _ q0)) (Nat.lt_irrefl _)
  have hn : H hp.objs.size = none := HOk.fresh (HOk.kept I.hok kp) (Nat.le_refl _)
  exact ⟨.ref hp.objs.size, _, L2.Inv.laidN I (a := hp.objs.size) (o := .lst ((ys.mergeSort (PySem.W.dataLe false (·.2))).map (·.1))) (t' := s.toks) (fun b o e => by
    have hb := kp b o e
    rw [sortedHeap_old (Nat.ne_of_lt (Heap.lt_size hb)) (by rw [size_push']; exact Nat.lt_succ_of_lt (Heap.lt_size hb))]
    exact Heap.get?_push_of_some _ hb) hg hn ⟨hlen, out, cn, g3 eo, hcn⟩, rfl, q _ hn⟩
variable {c : Ct} {σ : Sl} {m : Mem} {k : Nat} {e : Expr} {K : R → Mem → Prop} {px pos : Pos} {β : Type} {f : β → D} {g : β → PyData}
theorem d_sortedT (L : Live X c k) (hg : Gl X "sorted") (hm : X.mg "sorted" = none)
    (h : DE X c σ m e (fun r m1 => ∃ xs : List β, r = .dat (.tup (xs.map f)) ∧ (∀ x, PV m1 (.dat (f x)) (g x)) ∧ PySem.W.AllAlike (xs.map g) ∧ PySem.W.Sortable (xs.map g) ∧ xs.length ≤ 1000000 ∧ (∀ x ∈ xs, (g x).depth ≤ 60) ∧
      ∀ p, K (.own p) ((p, .lst ((xs.mergeSort (PySem.W.dataLe false g)).map fun x => .dat (f x))) :: m1)))
    (hst : starEach [e] X.env = (false, eval e X.env) :: starEach [] X.env := by rfl) : DE X c σ m (.Call (.Name "sorted" px) [e] [] pos) K :=
  de_callB (call_sortedTu L.room.units) hg hm (by decide +kernel) (da_cons (h.imp fun r m1 ⟨xs, er, hp, hal, hso, hl, hd, z⟩ => da_nil fun τ H G vs Q E rv q => by
    subst er
    obtain ⟨v, rfl, r1⟩ := one_of rv
    obtain ⟨a, us, rfl, hs, rr⟩ : ∃ (a : Addr) (us : List V), v = .ref a ∧ SqT X.K H a us ∧ RelRs X.K G (xs.map fun x => .dat (f x)) us := by
      cases r1 with | dat r1 =>
      cases r1 with | @tup a _ us hs rr =>
      refine ⟨a, us, rfl, ex_t E.sub hs, ?_⟩
      have := rr.rel
      rwa [List.map_map] at this
    have hlen : us.length = xs.length := by rw [← rr.length, List.length_map]
    have pvs : ∀ xs : List β, PVs m1 (xs.map fun x => .dat (f x)) (xs.map g) := fun xs => by
      induction xs with
      | nil => exact .nil
      | cons x xs ih => exact .cons (hp x) ih
    let zs : List (V × β) := us.zip xs
    let ys : List (V × PyData) := zs.map fun z => (z.1, g z.2)
    have y1 : ys.map (·.1) = us := by
      show ((us.zip xs).map fun z => (z.1, g z.2)).map (·.1) = us
      rw [List.map_map]
      show (us.zip xs).map Prod.fst = us
      rw [List.map_fst_zip]
      omega
    have y2 : ys.map (·.2) = xs.map g := by
      show ((us.zip xs).map fun z => (z.1, g z.2)).map (·.2) = _
      rw [List.map_map]
      show (us.zip xs).map (g ∘ Prod.snd) = _
      rw [← List.map_map, List.map_snd_zip]
      omega
    refine ⟨a, ys, rfl, by rw [y1]; exact hs, by rw [y1, y2]; exact PVs.dp E (pvs xs) rr, by rw [y2]; exact hal, by rw [y2]; exact hso, ?_, ?_, fun p hp' => ?_⟩
    · have hy : us.length = ys.length := by rw [← y1]; simp only [List.length_map]
      rw [← hy, hlen]
      exact hl
    · intro y hy
      obtain ⟨w, hw, rfl⟩ := List.mem_map.mp hy
      exact hd w.2 (List.of_mem_zip hw).2
    · have srt : (ys.mergeSort (PySem.W.dataLe false (·.2))).map (·.1) = (zs.mergeSort (PySem.W.dataLe false fun z => g z.2)).map (·.1) := by
        have q1 : (zs.mergeSort (PySem.W.dataLe false fun z => g z.2)).map (fun z => (z.1, g z.2)) = ys.mergeSort (PySem.W.dataLe false (·.2)) := List.map_mergeSort fun _ _ _ _ => rfl
        rw [← q1, List.map_map]
        rfl
      have srt2 : (zs.mergeSort (PySem.W.dataLe false fun z => g z.2)).map (·.2) = xs.mergeSort (PySem.W.dataLe false g) := by
        have q1 : (zs.mergeSort (PySem.W.dataLe false fun z => g z.2)).map (·.2) = (zs.map (·.2)).mergeSort (PySem.W.dataLe false g) := List.map_mergeSort fun _ _ _ _ => rfl
        rw [q1]
        congr 1
        show (us.zip xs).map Prod.snd = xs
        rw [List.map_snd_zip]
        omega
      have rel : ∀ {l : List (V × β)}, (∀ z ∈ l, RelR X.K G (.dat (f z.2)) z.1) → RelRs X.K G ((l.map (·.2)).map fun x => .dat (f x)) (l.map (·.1)) := fun {l} hl => by
        induction l with
        | nil => exact .nil
        | cons z l ih => exact .cons (hl z List.mem_cons_self) (ih fun w hw => hl w (List.mem_cons_of_mem _ hw))
      have allz : ∀ {us : List V} {xs : List β}, RelRs X.K G (xs.map fun x => .dat (f x)) us → ∀ z ∈ us.zip xs, RelR X.K G (.dat (f z.2)) z.1 := fun {us xs} h => by
        intro z hz
        induction xs generalizing us with
        | nil => simp at hz
        | cons x xs ih =>
          cases h with | cons h1 h2 =>
          rw [List.zip_cons_cons] at hz
          rcases List.mem_cons.mp hz with rfl | hz
          · exact h1
          · exact ih h2 hz
      have R1 := rel (l := zs.mergeSort (PySem.W.dataLe false fun z => g z.2)) fun z hz => allz rr z ((List.mergeSort_perm _ _).mem_iff.mp hz)
      rw [srt2] at R1
      rw [srt]
      exact q _ _ G _ _ (z p) (Ex.refl G) (E.new hp' (.lst R1)) .own) hst) (he := hst)
end
end D2
/-! ## D2Nx -/
set_option Elab.async false
set_option linter.all false
set_option maxRecDepth 100000
set_option maxHeartbeats 2000000
/-! dicts with nested keys: setdefault; sorted(d) -/
namespace D2
open PySem PySem.Spec PyProof.Rows L2
section
open PySem.W
variable {prog : Program} {w : World} {A : Around} {E : Value → Shared → Prop} {s : Shared} {β : Type} {vs : List Value} {bs : List β} {enc : β → PyData} {RR : Value → β → Prop}
theorem sorted_rawD {d : Addr} {es : Array DictEntry} {ep : Nat} {Q : Value → Shared → Prop} (hm : s.heap.DictRaw d es ep) (lo : (d == sysModules) = false) (hh : A.handled = none) (hn : es.size ≤ sizeLine) (hv : es.toList.map (·.key) = vs) (e : EachIs RR vs bs)
    (er : EachIs (fun v b => ∃ as, Reads s.heap v (enc b) as) vs bs) (hal : AllAlike (bs.map enc)) (hk : Sortable (bs.map enc)) (hL : bs.length ≤ sizeLine) (hu : ∀ b, b ∈ bs → A.units + 2 + (enc b).depth < cLine)
    (h : ∀ (hp : Heap) (tk : Nat) (out : List Value), (∀ b u, s.heap.get? b = some u → hp.get? b = some u) → EachIs RR out (bs.mergeSort (dataLe false enc)) → Q (.ref hp.objs.size) { s with heap := sortedHeap (hp.push (seqObj "list" vs.toArray 0)) hp.objs.size vs out.toArray, toks := tk }) :
    wpAny (model prog w) A (call (.builtin "sorted") [.ref d]) Q E s := by
  have hlen : vs.length ≤ sizeLine := by rw [e.length]; exact hL
  refine call_function_entry_kw kind_sorted plain_sorted entry_sorted (args_sorted1 _) ?_
  unfold Builtin.«sorted»
  refine wpAny_bind (m := checkCount "sorted" 1 1 _) (wpAny_pure (wpAny_bind ?_))
  refine kdu_collect (A := A.in1) (KdlSrc.rawDict (es := es) (ep := ep) lo) hh hm hn fun hp tk acc kp hacc => ?_
  have ev : acc.toList = vs := by
    have hl2 : acc.toList.length = vs.length := by rw [Array.length_toList, hacc.1, ← hv, List.length_map, Array.length_toList]
    refine List.ext_getElem hl2 fun i h1 h2 => ?_
    obtain ⟨hi, e1⟩ := hacc.2 i acc.toList[i] (by rw [← Array.getElem?_toList, List.getElem?_eq_getElem h1])
    rw [e1]
    subst hv
    simp
  rw [ev]
  refine wpAny_bind (wpAny_newList ?_ (by simpa using hlen))
  have hat : (hp.push (seqObj "list" vs.toArray 0)).get? hp.objs.size = some (seqObj "list" vs.toArray 0) := Heap.get?_push_size _ rfl
  have old : ∀ b u, s.heap.get? b = some u → (hp.push (seqObj "list" vs.toArray 0)).get? b = some u := fun b u q => Heap.get?_push_of_some _ (kp b u q)
  have hlt : ∀ b u, s.heap.get? b = some u → b ≠ hp.objs.size := fun b u q => Nat.ne_of_lt (Heap.lt_size (kp b u q))
  have er' : EachIs (fun v b => ∃ as, Reads (sortingHeap (hp.push (seqObj "list" vs.toArray 0)) hp.objs.size vs) v (enc b) as) vs bs := er.mono fun _ _ ⟨as, r⟩ => ⟨as, PyProof.Rows.Reads.keeps (fun b u q => sortingHeap_old (hlt b u q) (old b u q)) r⟩
  refine wpAny_bind (wpAny_holding (wpAny_call_entry_kw slot_list_sort ⟨_, hat, rfl⟩ entry_list_sort ?body (args_list_sort _)))
  refine wpAny_mono (list_sort_vals (P := fun f s' => f = .done (.ret .none) ∧ Q (.ref hp.objs.size) s') (s := { s with heap := hp.push (seqObj "list" vs.toArray 0), toks := tk }) (E := fun _ _ => False) hat (SortsAt.data (s := { s with heap := sortingHeap (hp.push (seqObj "list" vs.toArray 0)) hp.objs.size vs, toks := tk }) (each_map (R := fun v d => ∃ as, Reads (sortingHeap (hp.push (seqObj "list" vs.toArray 0)) hp.objs.size vs) v d as) enc er') hal hk (bound_map hu)) hlen ⟨rfl, h hp tk _ kp (sortVals_data false e er' hal)⟩) ?_ (fun _ _ z => z.elim)
  rintro f s' hf
  obtain ⟨rfl, hq⟩ := hf
  exact ⟨_, rfl, wpAny_pure ⟨_, rfl, hq⟩⟩
end
mutual
theorem rep_dp {K : PySem.W.Frag} {G H : Hp} (sub : Ex G H) : ∀ {k : NestedKey} {v : V}, Rep K G (nD k) v → Dp K H v k.data
  | .none, _, h => by
    cases h; exact .non
  | .num i, _, h => by
    cases h; exact .int _
  | .text x, _, h => by
    have h2 : Rep K G (.str (lit x)) _ := h
    cases h2
    rw [sOf_lit]
    exact .str _
  | .tup ks, _, h => by
    have h2 : Rep K G (.tup (nDs ks)) _ := h
    cases h2 with | tup hs rr => exact .tup (ex_t sub hs) (rep_dps sub rr)
theorem rep_dps {K : PySem.W.Frag} {G H : Hp} (sub : Ex G H) : ∀ {ks : List NestedKey} {vs : List V}, Reps K G (nDs ks) vs → DpAll K H vs (NestedKey.datas ks)
  | [], _, h => by
    cases h; exact .nil
  | k :: ks, _, h => by
    have h2 : Reps K G (nD k :: nDs ks) _ := h
    cases h2 with | cons a b => exact .cons (rep_dp sub a) (rep_dps sub b)
end
/-- a key's data are read -/
theorem rep_reads {X : Cx} {pins : List (Addr × Obj)} {τ : L2.St} {H G : Hp} {s : Shared} (I : Inv X pins τ H s) (sub : Ex G H) {k : NestedKey} {b : Addr} (h : Rep X.K G (nD k) (.ref b)) : ∃ as, Reads s.heap (.ref b) k.data as := by
  exact Dp.reads I k.data (.ref b) (.ref b) (rep_dp sub h) rfl
section
variable {X : Cx} {c : Ct} {σ : Sl} {m m' : Mem} {k : Nat} {K : R → Mem → Prop} {e o ke : Expr} {px pos apos cpos : Pos}
/-- d.setdefault(k, v) -/
theorem mt_setdef (L : Live X c k) : MtR X "dict.setdefault" (fun x xs H Q => ∃ (a b : Addr) (kk : NestedKey) (v : V) (ns : List (NestedKey × Addr × V)) (G : Hp) (kvs : List (NestedKey × R)), x = .ref a ∧ xs = [.ref b, v] ∧ H a = some (dnO X.prog X.w a ns) ∧ Ex G H ∧ RelN X.K G kvs ns ∧ KeyAt X.K G kk b ∧ kvs.length < 1000000 ∧
    (∀ b2 v2, findA ns kk = some (kk, b2, v2) → Q v2 H) ∧ (findA ns kk = none → Q v (upd H a (dnO X.prog X.w a (putA ns kk b v))))) := by
  intro pins s τ H x xs v us Q I r r2 h
  obtain ⟨a, b, kk, dv, ns, G, kvs, ex, exs, hH, sub, rel, hk, hl, q1, q2⟩ := h
  subst ex exs
  cases (show v = Value.ref a from r)
  cases r2 with | cons p r2 =>
  cases r2 with | @cons _ du _ _ p2 r2 =>
  cases r2
  cases p
  obtain ⟨hs, ys, hp, dd⟩ := dnO_of I sub hH rel
  have hlen : ns.length = ys.length := Paired.length hp
  refine call_setdefault_heap (roomN L) (hk.is I sub) hs dd (fun p e => ?_) (fun e h' hm' hsb => ?_) (by rw [← hlen, ← relN_len rel]; exact Nat.le_of_lt (Nat.lt_of_lt_of_le hl (by decide)))
  · have hsm := (pair_find hp kk).1
    rw [e] at hsm
    cases hf : findA ns kk with
    | none => rw [hf] at hsm; cases hsm
    | some z =>
      obtain ⟨k2, b2, v2⟩ := z
      have e2 : k2 = kk := by
        have := List.find?_some hf
        simpa using this
      subst e2
      obtain ⟨u, hu, ru⟩ := (pair_find hp k2).2 b2 v2 hf
      rw [e] at hu
      cases hu
      exact ⟨v2, H, I.tok _, ru, q1 b2 v2 hf⟩
  · have hsm := (pair_find hp kk).1
    rw [e] at hsm
    have hf : findA ns kk = none := by
      cases hf : findA ns kk with
      | none => rfl
      | some z => rw [hf] at hsm; cases hsm
    obtain ⟨o', es, ep, ho', _⟩ := id hm'
    exact ⟨dv, _, d_write I (by rw [hH]; exact True.intro) hsb ⟨_, ho'⟩ (dnO_new hs (pair_put hp p2) hm'), p2, q2 hf⟩
/-- what is asked behind the arguments of setdefault -/
def SetDefPost (X : Cx) (K : R → Mem → Prop) (q : Addr) (rs : List R) (m3 : Mem) : Prop := ∃ ks kvs rv, rs = [.dat (.tup (nDs ks)), rv] ∧ (NestedKey.tup ks).depth ≤ 8 ∧ kvs.length < 1000000 ∧ (∃ m4, Has m3 q (.dn X.prog X.w q kvs) m4) ∧
    (∀ r, valR kvs (.tup ks) = some r → K r m3) ∧ (valR kvs (.tup ks) = none → ∃ m4, Chg m3 q (.dn X.prog X.w q kvs) (.dn X.prog X.w q (putN kvs (.tup ks) rv)) m4 ∧ K rv m4)
theorem d_setdefN (L : Live X c k) (h : DE X c σ m o (fun ro m1 => ∃ q kvs0 m0, ro = .own q ∧ Has m1 q (.dn X.prog X.w q kvs0) m0 ∧ DA X c σ m1 [ke, e] (fun rs m3 => SetDefPost X K q rs m3)))
    (hbase : attributeBase o "setdefault" X.env (eval o X.env) = eval o X.env := by rfl)
    (hfew : ((backTo cpos (starEach [ke, e] X.env)).all (fun x => !x.1) && (backToKw cpos (keywordEach [] X.env)).all (fun x => x.1.isSome)
      && decide ([ke, e].length + ([] : List Keyword).length + (if ([] : List Keyword).isEmpty then 0 else 1) < 30)) = true := by rfl) (hline : (apos.endLine == cpos.line) = true := by rfl)
    (hst : starEach [ke, e] X.env = (false, eval ke X.env) :: starEach [e] X.env := by rfl) (hpl : (backTo cpos (starEach [e] X.env)).any (·.1) = false := by rfl) : DE X c σ m (.Call (.Attribute o "setdefault" apos) [ke, e] [] cpos) K :=
  fun pins s τ H G Q I E q => by
  refine wpAny_Call_method_late hbase hfew hline rfl (thn (h pins s τ H G (fun v H1 => ∃ ro m1 G1, Ex G G1 ∧ EnvOk X c σ m1 G1 τ H1 ∧ RelR X.K G1 ro v ∧ ∃ q kvs0 m0, ro = .own q ∧ Has m1 q (.dn X.prog X.w q kvs0) m0 ∧ DA X c σ m1 [ke, e] (fun rs m3 => SetDefPost X K q rs m3)) I E fun ro m1 G1 H1 v z x1 E1 rv => ⟨ro, m1, G1, x1, E1, rv, z⟩) fun v s1 ⟨x, H1, I1, r1, ro, m1, G1, x1, E1, rr, a, kvs0, m0, er, hh0, d⟩ => ?_)
  subst er
  cases rr
  obtain rfl : v = Value.ref a := r1
  obtain ⟨_, ho, hho, ro⟩ := E1.mem _ hh0.mem
  cases ro with | @dn _ _ _ _ ns rel =>
  obtain ⟨hs, ys, hp, ob, es, ep, hob, hx, _⟩ := dnO_of I1 E1.sub hho rel
  refine ⟨"dict", "dict.setdefault", PySem.F.plainAttrs_dict, PySem.F.slot_dict_setdefault, PySem.F.type_dict_setdefault, ⟨ob, hob, hx.1⟩, fun a' e => by cases e; exact ⟨ob, hob, hx.2.1⟩, ?_⟩
  have hA := d cpos pins s1 τ H1 G1 (fun vs H2 => ∃ rs m2 G2, Ex G1 G2 ∧ EnvOk X c σ m2 G2 τ H2 ∧ RelRs X.K G2 rs vs ∧ SetDefPost X K a rs m2) I1 E1 fun rs m2 G2 H2 vs z x2 E2 rvs => ⟨rs, m2, G2, x2, E2, rvs, z⟩
  rw [hst] at hA ⊢
  refine Calls.callWith_builtin (by show (false || (backTo cpos (starEach [e] X.env)).any (·.1)) = false; rw [hpl] <;> rfl) (Calls.evalArgs_plain ?_)
  refine thn hA fun us s2 ⟨vs, H2, I2, r2, rs, m2, G2, x2, E2, rvs, ks, kvs, rv, ers, hd, hl, ⟨m4, hh⟩, k1, k2⟩ => ?_
  subst ers
  cases rvs with | cons q1 rvs =>
  cases rvs with | @cons _ dv _ _ q2 rvs =>
  cases rvs
  obtain ⟨b, rfl, hk⟩ := keyAt_of hd q1
  obtain ⟨_, ho2, hho2, ro2⟩ := E2.mem _ hh.mem
  cases ro2 with | @dn _ _ _ _ ns2 rel2 =>
  refine mt_setdef L pins s2 τ H2 (.ref a) _ (.ref a) us Q I2 rfl r2 ⟨a, b, .tup ks, dv, ns2, G2, kvs, rfl, rfl, hho2, E2.sub, rel2, hk, hl, fun b2 v2 hf => ?_, fun hf => ?_⟩
  · have hsm : (valR kvs (.tup ks)).isSome = true := by rw [relN_some rel2, hf]; rfl
    cases hv : valR kvs (.tup ks) with
    | none => rw [hv] at hsm; cases hsm
    | some r =>
      obtain ⟨b3, v3, hf3, rv3⟩ := relN_val rel2 hv
      rw [hf] at hf3
      cases hf3
      exact q r m2 G2 H2 _ (k1 r hv) (x1.trans x2) E2 rv3
  · have hn : valR kvs (.tup ks) = none := by
      have := relN_some rel2 (.tup ks)
      rw [hf] at this
      cases hv : valR kvs (.tup ks) with
      | none => rfl
      | some r => rw [hv] at this; cases this
    obtain ⟨m5, hc, kz⟩ := k2 hn
    exact q rv m5 G2 _ dv kz (x1.trans x2) (E2.chg hc (.dn (relN_put rel2 hk q2))) q2
/-! ### sorted(d) -/
def rSortedN (X : Cx) : List V → Hp → VK → Prop := fun xs H Q => ∃ (a : Addr) (ns : List (NestedKey × Addr × V)) (G : Hp) (kvs : List (NestedKey × R)), xs = [.ref a] ∧ H a = some (dnO X.prog X.w a ns) ∧ Ex G H ∧ RelN X.K G kvs ns ∧
  PySem.W.AllAlike (kvs.map (·.1.data)) ∧ PySem.W.Sortable (kvs.map (·.1.data)) ∧ kvs.length ≤ 1000000 ∧
  ∀ p, H p = none → Q (.ref p) (L2.upd H p (.lst ((ns.mergeSort (PySem.W.dataLe false (·.1.data))).map fun y => .ref y.2.1)))
theorem call_sortedN (hu : X.A.units + 64 < cLine) (hcalm : X.calm = true) : CallR X (.builtin "sorted") (rSortedN X) := by
  intro pins s τ H xs us Q I r h
  obtain ⟨a, ns, G, kvs, ex, hH, sub, rel, hal, hso, hl, q⟩ := h
  subst ex
  obtain rfl := Vals.ref1 r
  obtain ⟨hs, ys, hp, dd⟩ := dnO_of I sub hH rel
  obtain ⟨es, ep, raw, hsz, hat⟩ := dd.raw
  have hlen : ns.length = ys.length := Paired.length hp
  have hkl := relN_len rel
  have hv : es.toList.map (·.key) = ns.map fun y => Value.ref y.2.1 := by
    refine List.ext_getElem (by rw [List.length_map, List.length_map, Array.length_toList, hsz, hlen]) fun i h1 h2 => ?_
    rw [List.getElem_map, List.getElem_map, Array.getElem_toList]
    have hi : i < es.size := by simpa using h1
    obtain ⟨y, hy, e1, _⟩ := hat i hi
    rw [e1]
    have hni : i < ns.length := by rw [hlen, ← hsz]; exact hi
    have pr : ∀ {ns : List (NestedKey × Addr × V)} {ys : List (NestedKey × Addr × Value)}, Paired PairN ns ys → ∀ {i : Nat} {y}, ys[i]? = some y → ∀ {z}, ns[i]? = some z → z.2.1 = y.2.1 := by
      intro ns ys hp
      induction hp with
      | nil => intro i y e; simp at e
      | cons h1 _ ih =>
        intro i y e z e2
        cases i with
        | zero => simp at e e2; subst e e2; exact h1.2.1
        | succ i => exact ih (by simpa using e) (by simpa using e2)
    rw [pr hp hy (List.getElem?_eq_getElem hni)]
  have e1 : ∀ {kvs : List (NestedKey × R)} {ns : List (NestedKey × Addr × V)}, RelN X.K G kvs ns → PySem.W.EachIs (fun u (y : NestedKey × Addr × V) => u = Value.ref y.2.1) (ns.map fun y => Value.ref y.2.1) ns ∧ PySem.W.EachIs (fun u (y : NestedKey × Addr × V) => ∃ as, Reads s.heap u y.1.data as) (ns.map fun y => Value.ref y.2.1) ns := by
    intro kvs ns rel
    induction rel with
    | nil => exact ⟨.nil, .nil⟩
    | cons h1 _ _ ih => exact ⟨.cons rfl ih.1, .cons (rep_reads I sub h1.1) ih.2⟩
  obtain ⟨g1, g2⟩ := e1 rel
  have hmap : kvs.map (·.1.data) = ns.map (·.1.data) := by
    clear g1 g2 hv hat q hal hso hl dd hH hp hlen hkl
    induction rel with
    | nil => rfl
    | cons _ _ _ ih => rw [List.map_cons, List.map_cons, ih]
  have hdep : ∀ y ∈ ns, y.1.data.depth ≤ 8 := by
    clear g1 g2 hv hat q hal hso hl dd hH hp hlen hkl hmap
    induction rel with
    | nil => intro y hy; cases hy
    | cons h1 _ _ ih =>
      intro y hy
      rcases List.mem_cons.mp hy with rfl | hy
      · rw [depth_key]; exact h1.2
      · exact ih y hy
  rw [hmap] at hal hso
  have h16 : (1000000 : Nat) ≤ sizeLine := by decide
  refine sorted_rawD (bs := ns) (enc := (·.1.data)) (RR := fun u (y : NestedKey × Addr × V) => u = Value.ref y.2.1) raw hs (I.ok.hd hcalm) (by omega) hv g1 g2 hal hso (by omega) (fun y hy => by have := hdep y hy; omega) fun hp' tk out kp eo => ?_
  have g3 : ∀ {ys : List (NestedKey × Addr × V)} {out : List Value}, PySem.W.EachIs (fun u (y : NestedKey × Addr × V) => u = Value.ref y.2.1) out ys → Vals (ys.map fun y => V.ref y.2.1) out := by
    intro ys
    induction ys with
    | nil => intro out r; cases r; exact .nil
    | cons y ys ih => intro out r; cases r with | cons p ps => exact .cons p (ih ps)
  have hlen2 : ((ns.mergeSort (PySem.W.dataLe false (·.1.data))).map fun y => V.ref y.2.1).length ≤ sizeLine := by
    rw [List.length_map, List.length_mergeSort]; omega
  have hat2 : (hp'.push (seqObj "list" (ns.map fun y => Value.ref y.2.1).toArray 0)).get? hp'.objs.size = some (seqObj "list" (ns.map fun y => Value.ref y.2.1).toArray 0) := Heap.get?_push_size _ rfl
  obtain ⟨cn, hcn⟩ := sortedHeap_at (vs := ns.map fun y => Value.ref y.2.1) (out := out.toArray) hat2
  have hg : s.heap.get? hp'.objs.size = none := by
    cases q0 : s.heap.get? hp'.objs.size with
    | none => rfl
    | some u => exact absurd (Heap.lt_size (kp _ _ q0)) (Nat.lt_irrefl _)
  have hn : H hp'.objs.size = none := HOk.fresh (HOk.kept I.hok kp) (Nat.le_refl _)
  exact ⟨.ref hp'.objs.size, _, L2.Inv.laidN I (a := hp'.objs.size) (o := .lst ((ns.mergeSort (PySem.W.dataLe false (·.1.data))).map fun y => .ref y.2.1)) (t' := tk) (fun b o e => by
    have hb := kp b o e
    rw [sortedHeap_old (Nat.ne_of_lt (Heap.lt_size hb)) (by rw [size_push']; exact Nat.lt_succ_of_lt (Heap.lt_size hb))]
    exact Heap.get?_push_of_some _ hb) hg hn ⟨hlen2, out, cn, g3 eo, hcn⟩, rfl, q _ hn⟩
theorem d_sortedN (L : Live X c k) (hg : Gl X "sorted") (hm : X.mg "sorted" = none)
    (h : DE X c σ m e (fun r m1 => ∃ a kvs m2, r = .own a ∧ Has m1 a (.dn X.prog X.w a kvs) m2 ∧ PySem.W.AllAlike (kvs.map (·.1.data)) ∧ PySem.W.Sortable (kvs.map (·.1.data)) ∧ kvs.length ≤ 1000000 ∧
      ∀ p, K (.own p) ((p, .lst (((kvs.map (·.1)).mergeSort (PySem.W.dataLe false NestedKey.data)).map rN)) :: m1)))
    (hst : starEach [e] X.env = (false, eval e X.env) :: starEach [] X.env := by rfl) : DE X c σ m (.Call (.Name "sorted" px) [e] [] pos) K :=
  de_callB (call_sortedN L.room.units L.calm) hg hm (by decide +kernel) (da_cons (h.imp fun r m1 ⟨a, kvs, m2, er, hh, hal, hso, hl, z⟩ => da_nil fun τ H G vs Q E rv q => by
    subst er
    obtain ⟨v, rfl, r1⟩ := one_of rv
    cases r1
    obtain ⟨_, ho, hho, ro⟩ := E.mem _ hh.mem
    cases ro with | @dn _ _ _ _ ns rel =>
    refine ⟨a, ns, G, kvs, rfl, hho, E.sub, rel, hal, hso, hl, fun p hp' => ?_⟩
    have all : ∀ {kvs : List (NestedKey × R)} {ns : List (NestedKey × Addr × V)}, RelN X.K G kvs ns → kvs.map (·.1) = ns.map (·.1) ∧ ∀ y ∈ ns, RelR X.K G (rN y.1) (.ref y.2.1) := by
      intro kvs ns rel
      induction rel with
      | nil => exact ⟨rfl, fun y hy => by cases hy⟩
      | cons h1 _ _ ih =>
        refine ⟨by rw [List.map_cons, List.map_cons, ih.1], fun y hy => ?_⟩
        rcases List.mem_cons.mp hy with rfl | hy
        · exact .dat h1.1
        · exact ih.2 y hy
    obtain ⟨a1, a2⟩ := all rel
    have srt : ((kvs.map (·.1)).mergeSort (PySem.W.dataLe false NestedKey.data)) = (ns.mergeSort (PySem.W.dataLe false (·.1.data))).map (·.1) := by
      rw [a1]
      have q1 : (ns.mergeSort (PySem.W.dataLe false (·.1.data))).map (fun y => y.1) = (ns.map (fun y => y.1)).mergeSort (PySem.W.dataLe false NestedKey.data) := List.map_mergeSort fun _ _ _ _ => rfl
      exact q1.symm
    have rl : ∀ {l : List (NestedKey × Addr × V)}, (∀ y ∈ l, RelR X.K G (rN y.1) (.ref y.2.1)) → RelRs X.K G ((l.map (·.1)).map rN) (l.map fun y => .ref y.2.1) := fun {l} hl => by
      induction l with
      | nil => exact .nil
      | cons y l ih => exact .cons (hl y List.mem_cons_self) (ih fun w hw => hl w (List.mem_cons_of_mem _ hw))
    have R1 := rl (l := ns.mergeSort (PySem.W.dataLe false (·.1.data))) fun y hy => a2 y ((List.mergeSort_perm _ _).mem_iff.mp hy)
    rw [← srt] at R1
    exact q _ _ G _ _ (z p) (Ex.refl G) (E.new hp' (.lst R1)) .own) hst) (he := hst)
end
end D2
/-! ## D2MkF -/
set_option Elab.async false
set_option linter.all false
set_option maxRecDepth 100000
set_option maxHeartbeats 2000000
set_option pp.maxSteps 1500
/-! an own exception class whose message is f'.. {y} ..' of a whole number -/
namespace D2
open PySem PySem.Spec PyProof.Rows L2 NdefX
section
variable {P : Program} {w : World} {K : PySem.W.Frag} {mg : Str → Option Value} {base : Heap} {d : IniD} {C : Addr} {y : Str}
def SmallI (vs : List V) : Prop := ∃ i : Int, vs = [V.int i] ∧ -1000000 ≤ i ∧ i ≤ 1000000
theorem IniOk.mkcF {pl : Env → Sem Bool} {ar : Arg} {m1 m2 : Str} {k1 k2 : Nat} {p0 p1 p2 p3 p4 p5 p6 p7 p8 p9 q1 q2 q3 q4 : Pos} (I : IniOk P K d C) (hg : mg d.cls = some (.ref C)) (hm : mg "super" = none) (S : nscB ["self", y, "__class__"] ["self", y] ["__class__"] (defScope d.st) = true)
    (hy : ((defArgs d.st).posonlyargs ++ (defArgs d.st).args).head? = some ar) (hy2 : ar.arg = "self") (hsu : (defScope d.st).names.lookup ("super" : Str) = some .globalImplicit) (hvy : (defScope d.st).names.lookup y = some .local)
    (hbd : defBody d.st = [.Expr (.Call (.Attribute (.Call (.Name "super" p0) [] [] p1) "__init__" p2) [.JoinedStr [.Constant (.str m1) k1 p5, .FormattedValue (.Name y p6) (-1) none p7, .Constant (.str m2) k2 p8] p9] [] p3) p4, .Assign [.Attribute (.Name "self" q1) d.fld q2] (.Name y q3) q4])
    (hev : ∀ env : Env, eval (.Call (.Attribute (.Call (.Name "super" p0) [] [] p1) "__init__" p2) [.JoinedStr [.Constant (.str m1) k1 p5, .FormattedValue (.Name y p6) (-1) none p7, .Constant (.str m2) k2 p8] p9] [] p3) env = (do
      let ov ← attributeBase (.Call (.Name "super" p0) [] [] p1) "__init__" env (eval (.Call (.Name "super" p0) [] [] p1) env)
      standAt p2.atName
      let (f, first) ← holding [ov] (getMethod ov "__init__" (pl env))
      callWith p3 f first (backTo p3 (starEach [.JoinedStr [.Constant (.str m1) k1 p5, .FormattedValue (.Name y p6) (-1) none p7, .Constant (.str m2) k2 p8] p9] env)) []))
    (hyd : (y == ("__debug__" : Str)) = false ∧ (y == ("__classdict__" : Str)) = false) (hl1 : m1.length ≤ 1000) (hl2 : m2.length ≤ 1000)
    (hb : ∀ (cl : List (Str × Addr)) (c : Addr) (doc pm ctv : Value) (us : List Value), us.length = 2 → bindArgs (PySem.W.fnX "__init__" d.qual (defArgs d.st) (defBody d.st) (defScope d.st) cl .none .none doc pm none (.ref c) ctv) ⟨us, []⟩ = pure (([("self" : Str), y]).zip us)) : MkC P w K mg base d.cls C 1 1 [(d.fld, 0)] SmallI := by
  obtain ⟨f, F, fd, D, h1, h2⟩ := I.sup
  refine ⟨hg, I.oex, f, fd, ["self", y], h1, h2, ?_, ?_⟩
  · refine ini1 D (nscope_by S) hy hy2 hsu hm hbd I.no hev (fun env => rfl) (fun env => rfl) hyd fun A0 outer s H Q E a v hr ⟨i, ei, hi1, hi2⟩ => ?_
    cases ei
    have v1 : Vis (ncx (L2N.CX P w) P w K mg base ["self", y, "__class__"] F f A0 outer s H E).env.scope y := .inl (by show F.scope.names.lookup _ = _; rw [D.nf.2.2.2.2]; exact hvy)
    refine ⟨_, pe_joined (.cons pe_str (.cons (pe_fmt (pe_var (i := 1) rfl v1 hyd.1 hyd.2)) (.cons pe_str .nil))), fun Q' h => ?_⟩
    have hlog : i.natAbs.log2 < 1920 := by
      by_cases h0 : i.natAbs = 0
      · rw [h0]; decide
      · rw [Nat.log2_lt h0]
        exact Nat.lt_of_le_of_lt (by omega : i.natAbs ≤ 1000000) (by decide +kernel)
    have hlen := int_text_len_1921 hlog
    have ha : ∀ a b : Str, (a ++ b).length = a.length + b.length := fun a b => by
      show (a.cps ++ b.cps).size = a.cps.size + b.cps.size
      simp
    have h0 : Str.empty.length = 0 := rfl
    have hs : 1000000 ≤ sizeLine := by decide
    exact ⟨m1, rfl, by rw [ha, h0]; omega, V.int i, rfl, .inr ⟨i, rfl, hlog, _, rfl, by rw [ha, ha, h0]; omega, m2, rfl, by rw [ha, ha, ha, h0]; omega, h _⟩⟩
  · obtain ⟨doc, pm, ctv, rfl⟩ := D.fd
    obtain ⟨n1, n2, n3, n4, n5⟩ := D.nf
    refine Binds.all fun us hl => ?_
    have z := hb F.cl F.c doc pm ctv us hl
    show bindArgs (PySem.W.fnX F.name F.qual F.params F.body F.scope F.cl .none .none doc pm none (.ref F.c) ctv) ⟨us, []⟩ = _
    rw [n1, n2, n3, n4, n5]
    exact z
end
end D2
/-! ## D2KwOf -/
set_option Elab.async false
set_option linter.all false
set_option maxRecDepth 100000
set_option maxHeartbeats 2000000
set_option pp.maxSteps 1500
/-! defs with keyword-only parameters, from the head's facts -/
namespace D2
open PySem PySem.Spec PyProof.Rows L2
section
variable {P : Program} {w : World} {K : PySem.W.Frag} {mg : Str → Option Value} {base : Heap} {x qual : Str} {params : Arguments} {body : List Stmt} {scope : Scope} {f : Addr} {fd : FuncData} {k : Nat} {ps : List Str} {kws : List (Str × V)} {S : Sp2}
theorem calleeK_of (F : FunD K x qual params body scope [] kws f fd) (g : mg x = some (.ref f)) (ok : FnOk P w K mg base (L2N.CX P w) k f fd ps (spOf K S)) (hk : kws ≠ []) (n : Nat) (ks : List Str)
    (h : ∀ (D : Addr) (doc pm : Value) (an : Option Addr) (cdv ct : Value) (us ws : List Value), us.length = n → ws.length = ks.length → bindArgs (PySem.W.fnOf x qual params body scope .none (.ref D) doc pm an cdv ct) ⟨us, ks.zip ws⟩ = pure (ps.zip (us ++ ws))) : CalleeK P w K mg base x k n ks (fun rs zs => rs ++ zs) S := by
  obtain ⟨mv, hb⟩ := F.kbinds0 n ks [] (fun us mz ws => us ++ ws) hk (fun q hq => by cases hq) (fun h1 h2 h3 => h1.append h3) fun D doc pm an cdv ct us mv ws l1 l2 l3 => by
    cases mv with
    | nil => exact h D doc pm an cdv ct us ws l1 l3
    | cons a b => cases l2
  exact ⟨f, fd, ps, _, _, g, F.kp, hb, ok, fun G rs zs vs ws l1 l2 r1 r2 => r1.append r2⟩
theorem calleeD_of {drs : List R} (F : FunD K x qual params body scope [] kws f fd) (g : mg x = some (.ref f)) (ok : FnOk P w K mg base (L2N.CX P w) k f fd ps (spOf K S)) (hk : kws ≠ []) (n : Nat) (hn : n + kws.length = ps.length)
    (h : ∀ (D : Addr) (doc pm : Value) (an : Option Addr) (cdv ct : Value) (us ks : List Value), us.length = n → ks.length = kws.length → KwChain D ((kws.map (·.1)).zip ks) (bindArgs (PySem.W.fnOf x qual params body scope .none (.ref D) doc pm an cdv ct) ⟨us, []⟩) (ps.zip (us ++ ks)))
    (hd : ∀ G : Hp, RelRs K G drs (kws.map (·.2))) : CalleeD P w K mg base x k drs S := by
  obtain ⟨ds, hv, hb⟩ := F.binds0 n hk hn h
  exact ⟨f, fd, ps, ds, _, g, F.kp, hb, hv, ok, hd⟩
end
/-- a constant tuple of strs -/
theorem tupG_of {K : PySem.W.Frag} {mg : Str → Option Value} {x : Str} {ss : List (List Nat)} (g : mg x = some (.ref (He.ga K x))) (h : He.tupB K x (ss.map fun s => He.Dv.str (sOf s)) = true) : TupG K mg x ss := by
  refine ⟨_, g, fun H => ?_⟩
  have := He.tupB_ok h H
  rwa [List.map_map] at this
end D2
/-! ## D2Chain -/
set_option Elab.async false
set_option linter.all false
set_option maxRecDepth 100000
set_option maxHeartbeats 2000000
/-! a < b < c -/
namespace D2
open PySem PySem.Spec PyProof.Rows L2
section
variable {X : Cx} {c : Ct} {σ : Sl} {m : Mem} {a b e3 : Expr} {pos : Pos}
/-- a < b < c of ints, as a test -/
theorem dt_chainI {op op' : CmpOp} {g g' : Int → Int → Bool} {K : Bool → Mem → Prop} (ho : OpR X (compareOp op) (L2.rI0 fun i j => .bl (g i j))) (ho' : OpR X (compareOp op') (L2.rI0 fun i j => .bl (g' i j)))
    (h : DE X c σ m a (fun r1 m1 => ∃ i, r1 = rI i ∧ DE X c σ m1 b (fun r2 m2 => ∃ j, r2 = rI j ∧ ((g i j = true → DE X c σ m2 e3 (fun r3 m3 => ∃ k, r3 = rI k ∧ K (g' j k) m3)) ∧ (g i j = false → K false m2)))))
    (hm : lastMarks [op, op'] [b, e3] = false := by with_unfolding_all rfl) : DT X c σ m (.Compare a [op, op'] [b, e3] pos) K :=
  fun wh pins s τ H G Q hw I E k => by
    subst hw
    refine (pt_chain ho ho' (pe_t (c := c)) (pe_t (c := c)) (pe_t (c := c)) hm).run pins s τ H Q I ⟨σ, m, G, _, E, h, fun r1 m1 G1 H1 v ⟨i, e, z⟩ x1 E1 rv => ⟨σ, m1, G1, _, E1, z, fun r2 m2 G2 H2 v2 ⟨j, e2, zt, zf⟩ x2 E2 rv2 => ?_⟩⟩
    subst e e2
    cases int_of rv
    cases int_of rv2
    refine ⟨i, j, rfl, rfl, g i j, rfl, ?_⟩
    cases hg : g i j with
    | false =>
      rw [if_neg (by decide)]
      exact ⟨false, rfl, k _ _ _ _ (zf hg) (x1.trans x2) E2⟩
    | true =>
      rw [if_pos rfl]
      refine ⟨σ, m2, G2, _, E2, zt hg, fun r3 m3 G3 H3 v3 ⟨kk, e3, z3⟩ x3 E3 rv3 => ?_⟩
      subst e3
      cases int_of rv3
      exact ⟨j, kk, rfl, rfl, g' j kk, rfl, k _ _ _ _ z3 ((x1.trans x2).trans x3) E3⟩
end
end D2
/-! ## D2MaxD -/
set_option Elab.async false
set_option linter.all false
set_option maxRecDepth 100000
set_option maxHeartbeats 2000000
set_option pp.maxSteps 1500
/-! max(a list of whole numbers, default=d), the list may be empty -/
namespace D2
open PySem PySem.Spec PyProof.Rows L2
section
variable {X : Cx} {c : Ct} {σ : Sl} {m : Mem} {k : Nat} {K : R → Mem → Prop} {o e e2 : Expr} {apos cpos p pos kpos : Pos}
theorem call_maxD2 (hc : X.calm = true) (hu : X.A.units + 64 < cLine) : CallRK X (.builtin "max") [("default" : Str)] (fun xs zs H Q => ∃ (a : Addr) (ns : List Int) (d : Int), xs = [.ref a] ∧ zs = [.int d] ∧ SqL X.K H a (ns.map V.int) ∧ ∀ M, (ns = [] → M = d) → (ns ≠ [] → M ∈ ns ∧ ∀ y ∈ ns, y ≤ M) → Q (.int M) H) := by
  intro pins s τ H xs zs us ws Q I r rz ⟨a, ns, d, ex, ez, hS, q⟩
  subst ex ez
  obtain ⟨u, eu, rx⟩ := vals1 r
  subst eu
  cases rx
  obtain ⟨dv, ed, rd⟩ := vals1 rz
  subst ed
  obtain ⟨its, rv, pl, hz⟩ := I.list hS
  obtain ⟨as, rr⟩ := Dp.readsAll I _ _ _ (dp_ints ns) rv
  have hd : PyData.depthAll (ns.map PyData.int) = 0 := PySem.W.depth_ints ns
  refine PySem.W.max_list_default (xs := ns.map PyData.int) (I.ok.hd hc) pl.isList (by simpa using rr) ⟨fun x hx y hy => ?_, fun x hx => ?_⟩ (by rw [hd]; omega) (fun e h' tk hk => ⟨.int d, H, I.kept (t' := tk) hk, rd, q d (fun _ => rfl) fun z => absurd (List.map_eq_nil_iff.mp e) z⟩) fun y ys i v h' tk bs ey hv hr hk => ?_
  · obtain ⟨i, _, rfl⟩ := List.mem_map.mp hx
    obtain ⟨j, _, rfl⟩ := List.mem_map.mp hy
    rfl
  · obtain ⟨i, _, rfl⟩ := List.mem_map.mp hx
    exact fun z => by cases z
  · cases ns with
    | nil => cases ey
    | cons n ns =>
      rw [List.map_cons] at ey
      cases ey
      rw [PySem.W.maxD_ints] at hr
      cases hr with | int M t =>
      obtain ⟨h1, h2⟩ := foldl_max n ns
      exact ⟨.int _, H, I.kept (t' := tk) hk, ⟨_, rfl⟩, q _ (fun z => by cases z) fun _ => ⟨h1, h2⟩⟩
theorem de_maxD2 (L : Live X c k) (hg : Gl X "max") (hm : X.mg "max" = none) (h : DE X c σ m e (fun r m1 => DE X c σ m1 e2 (fun r2 m2 => ∃ (ns : List Int) (d : Int), VI m2 r ns ∧ r2 = rI d ∧ ∀ M, (ns = [] → M = d) → (ns ≠ [] → M ∈ ns ∧ ∀ y ∈ ns, y ≤ M) → K (rI M) m2)))
    (he : backTo pos (starEach [e] X.env) = (false, eval e X.env) :: backTo pos (starEach [] X.env) := by rfl) (hst : starEach [e] X.env = (false, eval e X.env) :: starEach [] X.env := by rfl) (hpl : (backTo pos (starEach [e] X.env)).any (·.1) = false := by rfl)
    (hall : (backToKw pos (keywordEach [⟨some "default", e2, kpos⟩] X.env)).all (·.1.isSome) = true := by rfl) (hnone : (backToKw pos (keywordEach [⟨some "default", e2, kpos⟩] X.env)).any (·.1.isNone) = false := by rfl) (hks : (backToKw pos (keywordEach [⟨some "default", e2, kpos⟩] X.env)).filterMap (·.1) = ([("default" : Str)] : List Str) := by rfl) :
    DE X c σ m (.Call (.Name "max" p) [e] [⟨some "default", e2, kpos⟩] pos) K := by
  refine de_of (pe_callBK (call_maxD2 L.calm (by have := L.room.units; omega)) hg hm (by decide +kernel) (pa_cons (pe_t (c := c)) pa_nil hst) (pk_cons (pe_t (c := c)) pk_nil) (he := he) (hpl := hpl) (hall := hall) (hnone := hnone) (hks := hks)) fun τ H G Q E q => ?_
  refine ⟨σ, m, G, _, E, h, fun r m1 G1 H1 v d x1 E1 rv => ⟨σ, m1, G1, _, E1, d, fun r2 m2 G2 H2 v2 ⟨ns, d, hv, e2, z⟩ x2 E2 rv2 => ?_⟩⟩
  subst e2
  cases int_of rv2
  obtain ⟨a, us, rfl, hs, rr⟩ := VL.at hv E2 (rv.mono x2)
  have eu : us = ns.map V.int := by
    clear z hs hv
    induction ns generalizing us with
    | nil => cases rr; rfl
    | cons n ns ih =>
      cases rr with | cons h1 h2 =>
      cases int_of h1
      rw [ih _ h2]; rfl
  subst eu
  exact ⟨a, ns, d, rfl, rfl, hs, fun M h1 h2 => q _ m2 G2 H2 _ (z M h1 h2) (x1.trans x2) E2 (.dat .int)⟩
end
end D2
/-! ## NTop -/
set_option Elab.async false
set_option linter.all false
set_option maxRecDepth 100000
set_option maxHeartbeats 2000000
namespace NC
open PySem PySem.Spec PyProof.Rows L2 D2
abbrev pw := PySem.Challenge.pw_nocounters_k37_rank_tells_pieces
def top (i : Nat) : Stmt := pw.main.body.getD i (.Pass ⟨0, 0, 0, 0⟩)
def clsDef (s : Stmt) (i : Nat) : Stmt := match s with
  | .ClassDef _ _ _ b _ _ _ _ _ _ _ => b.getD i (.Pass ⟨0, 0, 0, 0⟩)
  | _ => .Pass ⟨0, 0, 0, 0⟩
abbrev alphabets : List (List Nat) := [[97], [97, 98], [97, 98, 99]]
abbrev sorts : List (List Nat) := [lit "since", lit "once", lit "yesterday"]
end NC
/-! ## NHead -/
set_option Elab.async false
set_option linter.all false
set_option maxRecDepth 100000
set_option maxHeartbeats 2000000
/-! the head: what the module's names stand for -/
namespace NC
open PySem PySem.Spec PyProof.Rows L2 D2
def ini_BadLetters : IniD := ⟨"BadLetters", "BadLetters.__init__", "given", clsDef (top 2) 0⟩
def ini_BadWord : IniD := ⟨"BadWord", "BadWord.__init__", "word", clsDef (top 3) 0⟩
def ini_TooLarge : IniD := ⟨"TooLarge", "TooLarge.__init__", "many", clsDef (top 5) 0⟩
def ini_BadNumber : IniD := ⟨"BadNumber", "BadNumber.__init__", "number", clsDef (top 4) 0⟩
def inis : List IniD := [ini_BadLetters, ini_BadWord, ini_TooLarge, ini_BadNumber]
def dF (at_ : Str × Option Str) (x qual : Str) (s : Stmt) (kwd : List (Str × He.Dv)) : He.DefD := ⟨at_, x, qual, defArgs s, defBody s, defScope s, [], kwd⟩
def fn0 : List He.DefD := [dF ("check_letters", none) "check_letters" "check_letters" (top 9) [], dF ("is_word", none) "is_word" "is_word" (top 10) [], dF ("check_word", none) "check_word" "check_word" (top 11) [("most", .int 60)], dF ("RankBook", some "__init__") "__init__" "RankBook.__init__" (clsDef (top 16) 0) [], dF ("RankBook", some "rank_kind") "rank_kind" "RankBook.rank_kind" (clsDef (top 16) 1) [], dF ("RankBook", some "rank_items") "rank_items" "RankBook.rank_items" (clsDef (top 16) 2) [], dF ("RankBook", some "first_parted") "first_parted" "RankBook.first_parted" (clsDef (top 16) 3) [], dF ("check_rounds_word", none) "check_rounds_word" "check_rounds_word" (top 17) [], dF ("check_rounds_level", none) "check_rounds_level" "check_rounds_level" (top 18) [], dF ("alike_in_rounds", none) "alike_in_rounds" "alike_in_rounds" (top 19) [], dF ("rounds_apart", none) "rounds_apart" "rounds_apart" (top 20) [], dF ("_law_flag", none) "_law_flag" "_law_flag" (top 35) [], dF ("is_piece", none) "is_piece" "is_piece" (top 22) [], dF ("pieces", none) "pieces" "pieces" (top 23) [], dF ("_law_mixed", none) "_law_mixed" "_law_mixed" (top 26) [], dF ("_law_draw", none) "_law_draw" "_law_draw" (top 27) [], dF ("_law_start", none) "_law_start" "_law_start" (top 25) [], dF ("_law_pick_letters", none) "_law_pick_letters" "_law_pick_letters" (top 28) [], dF ("_law_pick_word", none) "_law_pick_word" "_law_pick_word" (top 29) [], dF ("_law_stretches", none) "_law_stretches" "_law_stretches" (top 31) []]
def fn1 : List He.DefD := [dF ("_law_rank_next", none) "_law_rank_next" "_law_rank_next" (top 32) [], dF ("_law_own_pieces", none) "_law_own_pieces" "_law_own_pieces" (top 33) [], dF ("_law_changed", none) "_law_changed" "_law_changed" (top 30) [], dF ("_law_ends", none) "_law_ends" "_law_ends" (top 34) [], dF ("_law_same_list", none) "_law_same_list" "_law_same_list" (top 36) [], dF ("_law_shared", none) "_law_shared" "_law_shared" (top 37) [], dF ("_law_sharp", none) "_law_sharp" "_law_sharp" (top 38) [], dF ("law", none) "law" "law" (top 39) []]
def fn : List He.DefD := fn0 ++ fn1
def fa0 : List He.Fa := [.glo "check_letters", .glo "is_word", .glo "check_word", .glo "check_rounds_word", .glo "check_rounds_level", .glo "alike_in_rounds", .glo "rounds_apart", .glo "_law_flag", .glo "is_piece", .glo "pieces", .glo "_law_mixed", .glo "_law_draw", .glo "_law_start", .glo "_law_pick_letters", .glo "_law_pick_word", .glo "_law_stretches", .glo "_law_rank_next", .glo "_law_own_pieces", .glo "_law_changed", .glo "_law_ends"]
def fa1 : List He.Fa := [.glo "_law_same_list", .glo "_law_shared", .glo "_law_sharp", .glo "law", .free "len", .free "enumerate", .free "tuple", .free "sorted", .free "isinstance", .free "bool", .free "range", .free "int", .free "abs", .free "list", .free "str", .free "min", .free "max", .free "super", .cls "RankBook", .noat "RankBook" "kind_numbers"]
def fa2 : List He.Fa := [.noat "RankBook" "word_numbers", .meth "RankBook" "rank_items", .meth "RankBook" "rank_kind", .meth "RankBook" "first_parted", .mkr "RankBook", .glo "RankBook", .glo "ALPHABETS", .str "LETTERS" "abc", .int "LONGEST_rankkinds" 40, .int "MOST_LEVEL" 8]
def fa : List He.Fa := fa0 ++ fa1 ++ fa2
def ex (K : PySem.W.Frag) : Bool := true && (He.tupB K "ALPHABETS" ((NC.alphabets).map fun s => He.Dv.str (sOf s)))
abbrev Rw : PySem.W.OpenRow := PySem.W.OpenLaw.row PySem.Challenge.rw_nocounters_k37_rank_tells_pieces
abbrev hk : PySem.W.Hook := hookS 6 fa fn pw.main.file inis ex
def ob (s : PySem.W.SharedT) : AlS := obsSG 6 fa fn pw.main.file inis ex (HandSHeadRun.getT s)
theorem ob_eq (s : PySem.W.SharedT) : ob s = hk.obs s.abs := obsSG_eq (HandSHeadRun.getT_eq s)
def loose0 : List Str := ["__name__", "NocountersError", "BadLetters", "BadWord", "BadNumber", "TooLarge", "ALPHABETS", "LONGEST_letters", "check_letters", "is_word", "check_word", "LETTERS", "LONGEST_rankkinds", "MOST_LEVEL", "RankBook", "check_rounds_word", "check_rounds_level", "alike_in_rounds", "rounds_apart", "is_piece", "pieces", "_law_start", "_law_mixed", "_law_draw", "_law_pick_letters"]
def loose1 : List Str := ["_law_pick_word", "_law_changed", "_law_stretches", "_law_rank_next", "_law_own_pieces", "_law_ends", "_law_flag", "_law_same_list", "_law_shared", "_law_sharp"]
def loose : List Str := loose0 ++ loose1
set_option maxHeartbeats 0 in
theorem run (w : World) : HandSHeadRun.RunEq Rw (PySem.W.view Rw.prog [39]) hk ob 20000 loose w := by
  intro os
  kernel_rfl
end NC
/-! ## NBook -/
set_option Elab.async false
set_option linter.all false
set_option maxRecDepth 100000
set_option maxHeartbeats 2000000
/-! dicts of words; books: numbers in the order of the first meeting -/
namespace NC
open PySem PySem.Spec PyProof.Rows L2 D2
abbrev kvD (ws : List (List Nat)) (F : List Nat → D2.D) : List (Key × D2.D) := ws.map fun w => (.inr (sOf w), F w)
abbrev kvR (ws : List (List Nat)) (F : List Nat → D2.D) : List (Key × R) := (kvD ws F).map fun p => (p.1, R.dat p.2)
theorem sOf_inj {x y : List Nat} (h : sOf x = sOf y) : x = y := by rw [← lit_sOf x, h, lit_sOf]
theorem kvR_len (ws : List (List Nat)) (F : List Nat → D2.D) : (kvR ws F).length = ws.length := by simp [kvR, kvD]
theorem find_kv {ws : List (List Nat)} {F : List Nat → D2.D} {w : List Nat} (h : w ∈ ws) : (kvD ws F).find? (fun p => decide (p.1 = (.inr (sOf w) : Key))) = some (.inr (sOf w), F w) := by
  induction ws with
  | nil => cases h
  | cons x ws ih =>
    by_cases e : x = w
    · subst e; simp [kvD]
    · have h2 : w ∈ ws := by rcases List.mem_cons.mp h with q | q; exact absurd q.symm e; exact q
      have e2 : ¬ ((.inr (sOf x) : Key) = .inr (sOf w)) := fun q => e (sOf_inj (Sum.inr.inj q))
      show ((.inr (sOf x), F x) :: kvD ws F).find? _ = _
      rw [List.find?_cons_of_neg (by simpa using e2)]
      exact ih h2
theorem val_kvD {ws : List (List Nat)} {F : List Nat → D2.D} {w : List Nat} (h : w ∈ ws) : valD (kvD ws F) (.inr (sOf w)) = some (F w) := by
  unfold valD
  rw [find_kv h]; rfl
theorem val_kvR {ws : List (List Nat)} {F : List Nat → D2.D} {w : List Nat} (h : w ∈ ws) : valR (kvR ws F) (.inr (sOf w)) = some (.dat (F w)) := by
  unfold valR
  rw [kvR, List.find?_map]
  have e : ((fun kv : Key × R => decide (kv.1 = (.inr (sOf w) : Key))) ∘ fun p : Key × D2.D => (p.1, R.dat p.2)) = fun p => decide (p.1 = (.inr (sOf w) : Key)) := rfl
  rw [e, find_kv h]; rfl
theorem any_kv {ws : List (List Nat)} {F : List Nat → D2.D} {w : List Nat} : ((kvR ws F).any fun kv => decide (kv.1 = (.inr (sOf w) : Key))) = decide (w ∈ ws) := by
  rw [Bool.eq_iff_iff, List.any_eq_true]
  simp only [decide_eq_true_eq]
  constructor
  · rintro ⟨kv, h1, h2⟩
    obtain ⟨p, hp, rfl⟩ := List.mem_map.mp h1
    obtain ⟨y, hy, rfl⟩ := List.mem_map.mp hp
    have := sOf_inj (Sum.inr.inj h2)
    rw [← this]; exact hy
  · intro h
    exact ⟨_, List.mem_map_of_mem (List.mem_map_of_mem h), rfl⟩
theorem put_new {ws : List (List Nat)} {F : List Nat → D2.D} {w : List Nat} (h : w ∉ ws) : putR (kvR ws F) (.inr (sOf w)) (.dat (F w)) = kvR (ws ++ [w]) F := by
  unfold putR
  rw [any_kv, if_neg (by simpa using h)]
  simp [kvR, kvD]
def putW (ks : List (List Nat)) (x : List Nat) : List (List Nat) := if x ∈ ks then ks else ks ++ [x]
theorem put_old {ws : List (List Nat)} {F : List Nat → D2.D} {w : List Nat} : putR (kvR ws F) (.inr (sOf w)) (.dat (F w)) = kvR (putW ws w) F := by
  by_cases h : w ∈ ws
  · unfold putR putW
    rw [any_kv, if_pos (decide_eq_true h), if_pos h]
    refine (List.map_congr_left fun kv hkv => ?_).trans (List.map_id _)
    obtain ⟨p, hp, rfl⟩ := List.mem_map.mp hkv
    obtain ⟨y, hy, rfl⟩ := List.mem_map.mp hp
    by_cases c : ((.inr (sOf y) : Key)) = .inr (sOf w)
    · rw [if_pos c]
      have := sOf_inj (Sum.inr.inj c)
      subst this; rfl
    · rw [if_neg c]; rfl
  · rw [put_new h]
    unfold putW
    rw [if_neg h]
theorem mem_putW {ks : List (List Nat)} {x y : List Nat} : y ∈ putW ks x ↔ y ∈ ks ∨ y = x := by
  unfold putW
  split
  · next hc => exact ⟨.inl, fun h => h.elim id fun e => by rw [e]; exact hc⟩
  · rw [List.mem_append, List.mem_singleton]
theorem putW_len {ks : List (List Nat)} {x : List Nat} : (putW ks x).length ≤ ks.length + 1 := by
  unfold putW
  split
  · omega
  · simp
/-- no word twice, each behind the word without its last letter -/
inductive Grown : List (List Nat) → Prop
  | nil : Grown []
  | snoc {ws : List (List Nat)} {w : List Nat} : Grown ws → w ∉ ws → (w ≠ [] → w.dropLast ∈ ws) → Grown (ws ++ [w])
theorem Grown.put {ws : List (List Nat)} {w : List Nat} (h : Grown ws) (hw : w ≠ [] → w.dropLast ∈ ws) : Grown (putW ws w) := by
  unfold putW
  split
  · exact h
  · next hc => exact h.snoc hc hw
theorem Grown.nd {ws : List (List Nat)} (h : Grown ws) : ws.Nodup := by
  induction h with
  | nil => exact List.nodup_nil
  | snoc _ h2 _ ih =>
    refine List.nodup_append.mpr ⟨ih, by simp, fun a ha b hb => ?_⟩
    rw [List.mem_singleton.mp hb]
    intro e; subst e; exact h2 ha
theorem Grown.take {ws : List (List Nat)} (h : Grown ws) : ∀ i, Grown (ws.take i) := by
  induction h with
  | nil => intro i; rw [List.take_nil]; exact .nil
  | @snoc ws w h1 h2 h3 ih =>
    intro i
    by_cases hi : i ≤ ws.length
    · rw [List.take_append_of_le_length hi]; exact ih i
    · rw [List.take_of_length_le (by simp; omega)]; exact h1.snoc h2 h3
/-- the word in turn i -/
theorem Grown.at {ws : List (List Nat)} (h : Grown ws) {i : Nat} (hi : i < ws.length) : ws[i] ∉ ws.take i ∧ (ws[i] ≠ [] → ws[i].dropLast ∈ ws.take i) := by
  have h2 := h.take (i + 1)
  rw [take_snoc hi] at h2
  generalize hq : ws.take i ++ [ws[i]] = l at h2
  cases h2 with
  | nil => simp at hq; subst hq; exact absurd hi (Nat.not_lt_zero _)
  | @snoc ws' w' a b c =>
    obtain ⟨e1, e2⟩ := List.append_inj' hq rfl
    rw [← e1] at b c
    rw [← List.singleton_inj.mp e2] at b c
    exact ⟨b, c⟩
theorem Grown.pre {ws : List (List Nat)} (h : Grown ws) : ∀ {w x : List Nat}, w ∈ ws → x <+: w → x ∈ ws := by
  have one : ∀ {w : List Nat}, w ∈ ws → w ≠ [] → w.dropLast ∈ ws := fun {w} hw hn => by
    obtain ⟨i, hi, rfl⟩ := List.mem_iff_getElem.mp hw
    exact List.mem_of_mem_take ((h.at hi).2 hn)
  have all : ∀ (n : Nat) {w x : List Nat}, w.length = n → w ∈ ws → x <+: w → x ∈ ws := fun n => by
    induction n with
    | zero =>
      intro w x hl hw hx
      have : w = [] := List.length_eq_zero_iff.mp hl
      subst this
      rw [List.prefix_nil.mp hx]; exact hw
    | succ n ih =>
      intro w x hl hw hx
      by_cases e : x = w
      · rw [e]; exact hw
      · have hn : w ≠ [] := fun q => by rw [q] at hl; cases hl
        refine ih (by rw [List.length_dropLast]; omega) (one hw hn) ?_
        obtain ⟨t, rfl⟩ := hx
        have ht : t ≠ [] := fun q => e (by rw [q, List.append_nil])
        rw [List.dropLast_append_of_ne_nil ht]
        exact List.prefix_append _ _
  exact fun {w x} hw hx => all w.length rfl hw hx
/-- the words of the dict: all beginnings of the given ones -/
def Begs (words ws : List (List Nat)) : Prop := Grown ws ∧ ∀ x, x ∈ ws ↔ ∃ w ∈ words, x <+: w
/-- within: of the words before, all beginnings; of w those shorter than j -/
def Mid (words : List (List Nat)) (w : List Nat) (j : Nat) (ws : List (List Nat)) : Prop := Grown ws ∧ ∀ x, x ∈ ws ↔ (∃ w ∈ words, x <+: w) ∨ (x <+: w ∧ x.length < j)
theorem begs0 : Begs [] [] := ⟨.nil, fun x => by simp⟩
theorem mid0 {words ws : List (List Nat)} {w : List Nat} (h : Begs words ws) : Mid words w 0 ws := ⟨h.1, fun x => by rw [h.2]; simp⟩
theorem mid_step {words ws : List (List Nat)} {w : List Nat} {j : Nat} (h : Mid words w j ws) (hj : j ≤ w.length) : Mid words w (j + 1) (putW ws (w.take j)) := by
  refine ⟨h.1.put fun hn => ?_, fun x => ?_⟩
  · refine (h.2 _).mpr (.inr ⟨(List.dropLast_prefix _).trans (List.take_prefix _ _), ?_⟩)
    rw [List.length_dropLast, List.length_take]
    have : (w.take j).length ≠ 0 := fun q => hn (List.length_eq_zero_iff.mp q)
    rw [List.length_take] at this
    omega
  · rw [mem_putW, h.2]
    constructor
    · rintro ((a | ⟨a, b⟩) | a)
      · exact .inl a
      · exact .inr ⟨a, by omega⟩
      · subst a; exact .inr ⟨List.take_prefix _ _, by rw [List.length_take]; omega⟩
    · rintro (a | ⟨a, b⟩)
      · exact .inl (.inl a)
      · by_cases q : x.length < j
        · exact .inl (.inr ⟨a, q⟩)
        · refine .inr ?_
          have : x.length = j := by omega
          rw [← this]
          exact List.prefix_iff_eq_take.mp a
theorem mid_end {words ws : List (List Nat)} {w : List Nat} (h : Mid words w (w.length + 1) ws) : Begs (words ++ [w]) ws := by
  refine ⟨h.1, fun x => (h.2 x).trans ?_⟩
  constructor
  · rintro (⟨v, a, b⟩ | ⟨a, b⟩)
    · exact ⟨v, List.mem_append_left _ a, b⟩
    · exact ⟨w, by simp, a⟩
  · rintro ⟨v, a, b⟩
    rcases List.mem_append.mp a with a | a
    · exact .inl ⟨v, a, b⟩
    · rw [List.mem_singleton.mp a] at b
      exact .inr ⟨b, by have := b.length_le; omega⟩
theorem cut_to {s : List Nat} (j : Nat) : cutL s none (some (j : Int)) = s.take j := by
  unfold cutL
  rw [HT.sIx_none, HT.sIx_nat, List.drop_zero, Nat.sub_zero]
  by_cases h : j ≤ s.length
  · rw [Nat.min_eq_left h]
  · rw [Nat.min_eq_right (by omega), List.take_of_length_le (by omega), List.take_of_length_le (by omega)]
theorem cut_from {s : List Nat} (j : Nat) : cutL s (some (j : Int)) none = s.drop j := by
  unfold cutL
  rw [HT.sIx_none, HT.sIx_nat]
  by_cases h : j ≤ s.length
  · rw [Nat.min_eq_left h, List.take_of_length_le (by simp)]
  · rw [Nat.min_eq_right (by omega), List.drop_of_length_le (by omega), List.drop_of_length_le (by omega), List.take_nil]
theorem cut_last {s : List Nat} : cutL s none (some (-1)) = s.dropLast := by
  unfold cutL
  rw [HT.sIx_none, List.drop_zero, Nat.sub_zero, List.dropLast_eq_take]
  show s.take (if (-1 : Int) < 0 then ((-1 : Int) + (s.length : Int)).toNat else min (-1 : Int).toNat s.length) = _
  rw [if_pos (by decide)]
  congr 1
  omega
/-! ### numbers in the order of the first -/
section
variable {β : Type} [DecidableEq β]
def bookOf (l : List β) : List β := l.foldl (fun b k => if k ∈ b then b else b ++ [k]) []
theorem book_snoc (l : List β) (k : β) : bookOf (l ++ [k]) = if k ∈ bookOf l then bookOf l else bookOf l ++ [k] := by
  unfold bookOf; rw [List.foldl_append]; rfl
theorem book_mem (l : List β) : (∀ x, x ∈ bookOf l ↔ x ∈ l) ∧ (bookOf l).Nodup ∧ (bookOf l).length ≤ l.length := by
  have : ∀ n (l : List β), l.length = n → (∀ x, x ∈ bookOf l ↔ x ∈ l) ∧ (bookOf l).Nodup ∧ (bookOf l).length ≤ l.length := fun n => by
    induction n with
    | zero => intro l h; rw [List.length_eq_zero_iff.mp h]; exact ⟨fun x => Iff.rfl, List.nodup_nil, Nat.le_refl _⟩
    | succ n ih =>
      intro l h
      have hn : l ≠ [] := fun q => by rw [q] at h; cases h
      rw [← List.dropLast_concat_getLast hn]
      generalize l.getLast hn = k
      obtain ⟨a, b, c⟩ := ih l.dropLast (by rw [List.length_dropLast]; omega)
      generalize l.dropLast = l at a b c
      rw [book_snoc]
      by_cases q : k ∈ bookOf l
      · rw [if_pos q]
        refine ⟨fun x => ?_, b, by rw [List.length_append]; omega⟩
        rw [a, List.mem_append, List.mem_singleton]
        exact ⟨.inl, fun z => z.elim id fun z => by rw [z]; exact (a k).mp q⟩
      · rw [if_neg q]
        refine ⟨fun x => by rw [List.mem_append, List.mem_append, a], List.nodup_append.mpr ⟨b, by simp, fun x hx y hy => ?_⟩, by simp only [List.length_append, List.length_singleton]; omega⟩
        rw [List.mem_singleton.mp hy]
        intro z; subst z; exact q hx
  exact this _ l rfl
theorem book_pre (l t : List β) : bookOf l <+: bookOf (l ++ t) := by
  have : ∀ n (t : List β), t.length = n → bookOf l <+: bookOf (l ++ t) := fun n => by
    induction n with
    | zero => intro t h; rw [List.length_eq_zero_iff.mp h, List.append_nil]; exact List.prefix_refl _
    | succ n ih =>
      intro t h
      have hn : t ≠ [] := fun q => by rw [q] at h; cases h
      rw [← List.dropLast_concat_getLast hn, ← List.append_assoc, book_snoc]
      refine (ih t.dropLast (by rw [List.length_dropLast]; omega)).trans ?_
      split
      · exact List.prefix_refl _
      · exact List.prefix_append _ _
  exact this _ t rfl
theorem idx_pre {b b' : List β} {k : β} (h : b <+: b') (hk : k ∈ b) : b'.idxOf k = b.idxOf k := by
  obtain ⟨t, rfl⟩ := h
  rw [List.idxOf_append, if_pos hk]
theorem idx_inj {b : List β} {k x : β} (hk : k ∈ b) (hx : x ∈ b) (h : b.idxOf k = b.idxOf x) : k = x := by
  have h1 := List.getElem_idxOf (List.idxOf_lt_length_of_mem hk)
  have h2 := List.getElem_idxOf (List.idxOf_lt_length_of_mem hx)
  rw [← h1, ← h2]
  congr 1
/-- the numbers of kinds κ -/
def numOf (ws : List (List Nat)) (κ : List Nat → β) (w : List Nat) : Nat := (bookOf (ws.map κ)).idxOf (κ w)
theorem num_iff {ws : List (List Nat)} {κ : List Nat → β} : ∀ u ∈ ws, ∀ v ∈ ws, numOf ws κ u = numOf ws κ v ↔ κ u = κ v := fun u hu v hv => by
  have h1 := ((book_mem (ws.map κ)).1 _).mpr (List.mem_map_of_mem (f := κ) hu)
  have h2 := ((book_mem (ws.map κ)).1 _).mpr (List.mem_map_of_mem (f := κ) hv)
  exact ⟨idx_inj h1 h2, fun h => by unfold numOf; rw [h]⟩
end
def bkF : Nat → List NestedKey → List (NestedKey × R)
  | _, [] => []
  | n, k :: l => (k, D2.rI (n : Int)) :: bkF (n + 1) l
abbrev bkR (l : List NestedKey) : List (NestedKey × R) := bkF 0 l
theorem bk_len : ∀ (l : List NestedKey) (n : Nat), (bkF n l).length = l.length
  | [], _ => rfl
  | _ :: l, n => by rw [bkF, List.length_cons, bk_len l, List.length_cons]
theorem bk_app : ∀ (l : List NestedKey) (n : Nat) (k : NestedKey), bkF n (l ++ [k]) = bkF n l ++ [(k, D2.rI ((n + l.length : Nat) : Int))]
  | [], n, k => rfl
  | x :: l, n, k => by
    rw [List.cons_append, bkF, bkF, bk_app l, List.cons_append, List.length_cons]
    congr 5
    omega
theorem bk_val : ∀ (l : List NestedKey) (n : Nat) (k : NestedKey), k ∈ l → valR (bkF n l) k = some (D2.rI ((n + l.idxOf k : Nat) : Int))
  | x :: l, n, k, h => by
    by_cases e : x = k
    · subst e; simp [valR, bkF]
    · have h2 : k ∈ l := by rcases List.mem_cons.mp h with q | q; exact absurd q.symm e; exact q
      have ih := bk_val l (n + 1) k h2
      unfold valR at ih ⊢
      rw [bkF, List.find?_cons_of_neg (by simpa using e), ih]
      have e2 : (x :: l).idxOf k = l.idxOf k + 1 := by rw [List.idxOf_cons, beq_eq_false_iff_ne.mpr e]; rfl
      rw [e2, show n + (l.idxOf k + 1) = n + 1 + l.idxOf k by omega]
theorem bk_none : ∀ (l : List NestedKey) (n : Nat) (k : NestedKey), k ∉ l → valR (bkF n l) k = none
  | [], n, k, _ => rfl
  | x :: l, n, k, h => by
    have e : ¬ x = k := fun q => h (by rw [q]; exact List.mem_cons_self)
    have ih := bk_none l (n + 1) k fun q => h (List.mem_cons_of_mem _ q)
    unfold valR at ih ⊢
    rw [bkF, List.find?_cons_of_neg (by simpa using e), ih]
theorem bk_some (l : List NestedKey) (k : NestedKey) : (valR (bkR l) k).isSome = decide (k ∈ l) := by
  by_cases h : k ∈ l
  · rw [bk_val l 0 k h, decide_eq_true h]; rfl
  · rw [bk_none l 0 k h, decide_eq_false h]; rfl
theorem bk_put {l : List NestedKey} {k : NestedKey} (h : k ∉ l) : putN (bkR l) k (D2.rI (l.length : Int)) = bkR (l ++ [k]) := by
  unfold putN
  rw [bk_some, decide_eq_false h, if_neg (by simp), bkR, bkR, bk_app, Nat.zero_add]
/-! a book of whole numbers -/
def bkI : Nat → List Int → List (Key × R)
  | _, [] => []
  | n, k :: l => (.inl k, D2.rI (n : Int)) :: bkI (n + 1) l
theorem bi_len : ∀ (l : List Int) (n : Nat), (bkI n l).length = l.length
  | [], _ => rfl
  | _ :: l, n => by rw [bkI, List.length_cons, bi_len l, List.length_cons]
theorem bi_app : ∀ (l : List Int) (n : Nat) (k : Int), bkI n (l ++ [k]) = bkI n l ++ [(.inl k, D2.rI ((n + l.length : Nat) : Int))]
  | [], n, k => rfl
  | x :: l, n, k => by
    rw [List.cons_append, bkI, bkI, bi_app l, List.cons_append, List.length_cons]
    congr 5
    omega
theorem bi_val : ∀ (l : List Int) (n : Nat) (k : Int), k ∈ l → valR (bkI n l) (.inl k) = some (D2.rI ((n + l.idxOf k : Nat) : Int))
  | x :: l, n, k, h => by
    by_cases e : x = k
    · subst e; simp [valR, bkI]
    · have h2 : k ∈ l := by rcases List.mem_cons.mp h with q | q; exact absurd q.symm e; exact q
      have ih := bi_val l (n + 1) k h2
      have e3 : ¬ ((.inl x : Key) = .inl k) := fun q => e (Sum.inl.inj q)
      unfold valR at ih ⊢
      rw [bkI, List.find?_cons_of_neg (by simpa using e), ih]
      have e2 : (x :: l).idxOf k = l.idxOf k + 1 := by rw [List.idxOf_cons, beq_eq_false_iff_ne.mpr e]; rfl
      rw [e2, show n + (l.idxOf k + 1) = n + 1 + l.idxOf k by omega]
theorem bi_none : ∀ (l : List Int) (n : Nat) (k : Int), k ∉ l → valR (bkI n l) (.inl k) = none
  | [], n, k, _ => rfl
  | x :: l, n, k, h => by
    have e : ¬ x = k := fun q => h (by rw [q]; exact List.mem_cons_self)
    have ih := bi_none l (n + 1) k fun q => h (List.mem_cons_of_mem _ q)
    unfold valR at ih ⊢
    rw [bkI, List.find?_cons_of_neg (by simpa using e), ih]
theorem bi_some (l : List Int) (k : Int) : (valR (bkI 0 l) (.inl k)).isSome = decide (k ∈ l) := by
  by_cases h : k ∈ l
  · rw [bi_val l 0 k h, decide_eq_true h]; rfl
  · rw [bi_none l 0 k h, decide_eq_false h]; rfl
theorem bi_keys : ∀ (l : List Int) (n : Nat) (k : Int), ((bkI n l).any fun kv => decide (kv.1 = (.inl k : Key))) = decide (k ∈ l)
  | [], _, _ => rfl
  | x :: l, n, k => by
    rw [bkI, List.any_cons, bi_keys l, Bool.eq_iff_iff, Bool.or_eq_true, decide_eq_true_eq, decide_eq_true_eq, decide_eq_true_eq, List.mem_cons]
    constructor
    · rintro (h | h)
      · exact .inl (Sum.inl.inj h).symm
      · exact .inr h
    · rintro (h | h)
      · exact .inl (by rw [h])
      · exact .inr h
theorem bi_put {l : List Int} {k : Int} (h : k ∉ l) : putR (bkI 0 l) (.inl k) (D2.rI (l.length : Int)) = bkI 0 (l ++ [k]) := by
  unfold putR
  rw [bi_keys, decide_eq_false h, if_neg (by simp), bi_app, Nat.zero_add]
abbrev kLe : NestedKey → NestedKey → Bool := PySem.W.dataLe false NestedKey.data
theorem kLe_tr (a b c : NestedKey) (h1 : kLe a b = true) (h2 : kLe b c = true) : kLe a c = true := (PySem.W.sortLe_total (PyProof.Rows.listOrd PyProof.Rows.itemOrd) false fun b => PySem.W.keyToks (NestedKey.data b)).trans a b c h1 h2
theorem kLe_to (a b : NestedKey) : (kLe a b || kLe b a) = true := by
  rcases (PySem.W.sortLe_total (PyProof.Rows.listOrd PyProof.Rows.itemOrd) false fun b => PySem.W.keyToks (NestedKey.data b)).total a b with z | z
  · rw [show kLe a b = true from z]; rfl
  · rw [show kLe b a = true from z, Bool.or_true]
/-! ### sets as numbers -/
def maskOf (M items : List NestedKey) : Nat := items.foldl (fun a it => a ||| 2 ^ M.idxOf it) 0
theorem mask_snoc (M l : List NestedKey) (x : NestedKey) : maskOf M (l ++ [x]) = maskOf M l ||| 2 ^ M.idxOf x := by
  unfold maskOf; rw [List.foldl_append]; rfl
theorem mask_bit (M l : List NestedKey) (b : Nat) : (maskOf M l).testBit b = true ↔ ∃ it ∈ l, M.idxOf it = b := by
  have : ∀ n (l : List NestedKey), l.length = n → ((maskOf M l).testBit b = true ↔ ∃ it ∈ l, M.idxOf it = b) := fun n => by
    induction n with
    | zero => intro l h; rw [List.length_eq_zero_iff.mp h]; simp [maskOf]
    | succ n ih =>
      intro l h
      have hn : l ≠ [] := fun q => by rw [q] at h; cases h
      rw [← List.dropLast_concat_getLast hn]
      generalize l.getLast hn = k
      have ih2 := ih l.dropLast (by rw [List.length_dropLast]; omega)
      generalize l.dropLast = l at ih2
      rw [mask_snoc, Nat.testBit_or, Bool.or_eq_true, ih2, Nat.testBit_two_pow, decide_eq_true_eq]
      constructor
      · rintro (⟨it, h1, h2⟩ | h)
        · exact ⟨it, List.mem_append_left _ h1, h2⟩
        · exact ⟨k, by simp, h⟩
      · rintro ⟨it, h1, h2⟩
        rcases List.mem_append.mp h1 with h1 | h1
        · exact .inl ⟨it, h1, h2⟩
        · rw [List.mem_singleton.mp h1] at h2; exact .inr h2
  exact this _ l rfl
theorem mask_iff {M l1 l2 : List NestedKey} (h1 : ∀ x ∈ l1, x ∈ M) (h2 : ∀ x ∈ l2, x ∈ M) : maskOf M l1 = maskOf M l2 ↔ ∀ x, x ∈ l1 ↔ x ∈ l2 := by
  have one : ∀ {l1 l2 : List NestedKey}, (∀ x ∈ l1, x ∈ M) → (∀ x ∈ l2, x ∈ M) → maskOf M l1 = maskOf M l2 → ∀ x, x ∈ l1 → x ∈ l2 := fun {l1 l2} h1 h2 e x hx => by
    have a := (mask_bit M l1 (M.idxOf x)).mpr ⟨x, hx, rfl⟩
    rw [e] at a
    obtain ⟨y, hy, q⟩ := (mask_bit M l2 (M.idxOf x)).mp a
    rw [← idx_inj (h2 y hy) (h1 x hx) q]; exact hy
  constructor
  · exact fun e x => ⟨one h1 h2 e x, one h2 h1 e.symm x⟩
  · intro h
    refine Nat.eq_of_testBit_eq fun b => ?_
    rw [Bool.eq_iff_iff, mask_bit, mask_bit]
    exact ⟨fun ⟨x, a, q⟩ => ⟨x, (h x).mp a, q⟩, fun ⟨x, a, q⟩ => ⟨x, (h x).mpr a, q⟩⟩
/-- numbers as data -/
def numD (f : List Nat → Nat) : List Nat → D2.D := fun w => .int (f w : Int)
theorem dstr_at {ks : List (List Nat)} {i : Nat} {d : D2.D} (h : (ks.map D2.D.str)[i]? = some d) : ∃ hi : i < ks.length, d = .str (ks[i]'hi) := by
  rw [List.getElem?_map] at h
  by_cases hi : i < ks.length
  · rw [List.getElem?_eq_getElem hi] at h
    exact ⟨hi, (Option.some.inj h).symm⟩
  · rw [List.getElem?_eq_none (by omega)] at h; cases h
theorem kv_keys (ws : List (List Nat)) (F : List Nat → D2.D) : ((kvD ws F).map fun p => kD p.1) = ws.map D2.D.str := by
  rw [List.map_map]
  refine List.map_congr_left fun x _ => ?_
  simp [kD, sOf, lit]
end NC
/-! ## RKm -/
set_option linter.all false
namespace RK
/-- alike for r rounds -/
def A : Nat → List Nat → List Nat → Prop
  | 0, _, _ => True
  | r + 1, u, v => (∀ x c y, u = x ++ c :: y → ∃ x' y', v = x' ++ c :: y' ∧ A r x x' ∧ A r y y') ∧
      (∀ x c y, v = x ++ c :: y → ∃ x' y', u = x' ++ c :: y' ∧ A r x' x ∧ A r y' y)
theorem A.refl : ∀ (r : Nat) (u : List Nat), A r u u
  | 0, _ => trivial
  | r + 1, u => ⟨fun x c y e => ⟨x, y, e, A.refl r x, A.refl r y⟩, fun x c y e => ⟨x, y, e, A.refl r x, A.refl r y⟩⟩
theorem A.symm : ∀ {r : Nat} {u v : List Nat}, A r u v → A r v u
  | 0, _, _, _ => trivial
  | r + 1, u, v, h => ⟨fun x c y e => by
      obtain ⟨x', y', e', a, b⟩ := h.2 x c y e
      exact ⟨x', y', e', A.symm a, A.symm b⟩, fun x c y e => by
      obtain ⟨x', y', e', a, b⟩ := h.1 x c y e
      exact ⟨x', y', e', A.symm a, A.symm b⟩⟩
theorem A.trans : ∀ {r : Nat} {u v w : List Nat}, A r u v → A r v w → A r u w
  | 0, _, _, _, _, _ => trivial
  | r + 1, u, v, w, h, g => ⟨fun x c y e => by
      obtain ⟨x', y', e', a, b⟩ := h.1 x c y e
      obtain ⟨x2, y2, e2, a2, b2⟩ := g.1 x' c y' e'
      exact ⟨x2, y2, e2, A.trans a a2, A.trans b b2⟩, fun x c y e => by
      obtain ⟨x', y', e', a, b⟩ := g.2 x c y e
      obtain ⟨x2, y2, e2, a2, b2⟩ := h.2 x' c y' e'
      exact ⟨x2, y2, e2, A.trans a2 a, A.trans b2 b⟩⟩
theorem A.less : ∀ {r : Nat} {u v : List Nat}, A (r + 1) u v → A r u v
  | 0, _, _, _ => trivial
  | r + 1, u, v, h => ⟨fun x c y e => by
      obtain ⟨x', y', e', a, b⟩ := h.1 x c y e
      exact ⟨x', y', e', A.less a, A.less b⟩, fun x c y e => by
      obtain ⟨x', y', e', a, b⟩ := h.2 x c y e
      exact ⟨x', y', e', A.less a, A.less b⟩⟩
theorem A.le {r s : Nat} {u v : List Nat} (h : A s u v) (hr : r ≤ s) : A r u v := by
  induction s with
  | zero => rw [Nat.le_zero.mp hr]; trivial
  | succ s ih =>
    by_cases e : r = s + 1
    · rw [e]; exact h
    · exact ih h.less (by omega)
theorem A.nil {r : Nat} {v : List Nat} (h : A (r + 1) [] v) : v = [] := by
  cases v with
  | nil => rfl
  | cons c y =>
    obtain ⟨x', y', e, _⟩ := h.2 [] c y rfl
    exact absurd e (by simp)
/-- two ways to cut a joined word -/
theorem cut2 {u v x y : List Nat} {c : Nat} (h : u ++ v = x ++ c :: y) : (∃ z, u = x ++ c :: z ∧ y = z ++ v) ∨ (∃ z, x = u ++ z ∧ v = z ++ c :: y) := by
  rcases List.append_eq_append_iff.mp h with ⟨a, h1, h2⟩ | ⟨a, h1, h2⟩
  · exact .inr ⟨a, h1, h2⟩
  · cases a with
    | nil => exact .inr ⟨[], by simpa using h1.symm, by simpa using h2.symm⟩
    | cons d z =>
      rw [List.cons_append] at h2
      injection h2 with h3 h4
      subst h3
      exact .inl ⟨z, h1, h4⟩
theorem A.app : ∀ {r : Nat} {u u' v v' : List Nat}, A r u u' → A r v v' → A r (u ++ v) (u' ++ v')
  | 0, _, _, _, _, _, _ => trivial
  | r + 1, u, u', v, v', h, g => ⟨fun x c y e => by
      rcases cut2 e with ⟨z, e1, e2⟩ | ⟨z, e1, e2⟩
      · obtain ⟨x', y', e', a, b⟩ := h.1 x c z e1
        exact ⟨x', y' ++ v', by rw [e']; simp, a, by rw [e2]; exact A.app b g.less⟩
      · obtain ⟨x', y', e', a, b⟩ := g.1 z c y e2
        exact ⟨u' ++ x', y', by rw [e']; simp, by rw [e1]; exact A.app h.less a, b⟩, fun x c y e => by
      rcases cut2 e with ⟨z, e1, e2⟩ | ⟨z, e1, e2⟩
      · obtain ⟨x', y', e', a, b⟩ := h.2 x c z e1
        exact ⟨x', y' ++ v, by rw [e']; simp, a, by rw [e2]; exact A.app b g.less⟩
      · obtain ⟨x', y', e', a, b⟩ := g.2 z c y e2
        exact ⟨u ++ x', y', by rw [e']; simp, by rw [e1]; exact A.app h.less a, b⟩⟩
theorem A.rev : ∀ {r : Nat} {u v : List Nat}, A r u v → A r u.reverse v.reverse
  | 0, _, _, _ => trivial
  | r + 1, u, v, h => by
    have key : ∀ {u v : List Nat}, (∀ x c y, u = x ++ c :: y → ∃ x' y', v = x' ++ c :: y' ∧ A r x x' ∧ A r y y') → ∀ x c y, u.reverse = x ++ c :: y → ∃ x' y', v.reverse = x' ++ c :: y' ∧ A r x x' ∧ A r y y' := fun {u v} h x c y e => by
      have e1 : u = y.reverse ++ c :: x.reverse := by
        have := congrArg List.reverse e
        simpa using this
      obtain ⟨x', y', e', a, b⟩ := h _ _ _ e1
      refine ⟨y'.reverse, x'.reverse, by rw [e']; simp, ?_, ?_⟩
      · have := A.rev b; simpa using this
      · have := A.rev a; simpa using this
    refine ⟨key h.1, fun x c y e => ?_⟩
    have h2 : ∀ x c y, v = x ++ c :: y → ∃ x' y', u = x' ++ c :: y' ∧ A r x x' ∧ A r y y' := fun x c y e => by
      obtain ⟨x', y', e', a, b⟩ := h.2 x c y e
      exact ⟨x', y', e', a.symm, b.symm⟩
    obtain ⟨x', y', e', a, b⟩ := key h2 x c y e
    exact ⟨x', y', e', a.symm, b.symm⟩
/-- a word at a place -/
theorem at_place {u : List Nat} {p : Nat} (h : p < u.length) : u = u.take p ++ u[p] :: u.drop (p + 1) := by
  rw [List.getElem_cons_drop, List.take_append_drop]
/-- a short word is alone -/
theorem A.short : ∀ {r : Nat} {u v : List Nat}, A (r + 1) u v → u.length < 2 ^ r → u = v
  | 0, u, v, h, hl => by
    have e : u = [] := List.length_eq_zero_iff.mp (by simpa using hl)
    subst e
    exact h.nil.symm
  | r + 1, u, v, h, hl => by
    by_cases hu : u = []
    · subst hu; exact h.nil.symm
    · have hl0 : 0 < u.length := List.length_pos_iff.mpr hu
      rw [Nat.pow_succ] at hl
      have hp : u.length / 2 < u.length := by omega
      obtain ⟨x', y', e', a, b⟩ := h.1 _ _ _ (at_place hp)
      have e1 := A.short a (by rw [List.length_take]; omega)
      have e2 := A.short b (by rw [List.length_drop]; omega)
      rw [e', ← e1, ← e2]
      exact at_place hp
/-- pieces -/
theorem A.piece : ∀ {r : Nat} {u v s : List Nat}, A r u v → s.Sublist u → s.length ≤ 2 ^ r - 1 → s.Sublist v
  | 0, u, v, s, h, hs, hl => by
    have e : s = [] := List.length_eq_zero_iff.mp (by simpa using hl)
    subst e; exact List.nil_sublist _
  | r + 1, u, v, s, h, hs, hl => by
    by_cases hn : s = []
    · subst hn; exact List.nil_sublist _
    · have h0 : 0 < s.length := List.length_pos_iff.mpr hn
      rw [Nat.pow_succ] at hl
      have hp : s.length / 2 < s.length := by omega
      rw [at_place hp] at hs
      obtain ⟨l1, l2, e, s1, s2⟩ := List.append_sublist_iff.mp hs
      obtain ⟨l3, l4, e2, hc, s4⟩ := List.cons_sublist_iff.mp s2
      obtain ⟨a, b, e3⟩ := List.append_of_mem hc
      have eu : u = (l1 ++ a) ++ s[s.length / 2] :: (b ++ l4) := by rw [e, e2, e3]; simp
      obtain ⟨x', y', e', q1, q2⟩ := h.1 _ _ _ eu
      have i1 := A.piece q1 (s1.trans (List.sublist_append_left l1 a)) (by rw [List.length_take]; omega)
      have i2 := A.piece q2 (s4.trans (List.sublist_append_right b l4)) (by rw [List.length_drop]; omega)
      have : s = s.take (s.length / 2) ++ s[s.length / 2] :: s.drop (s.length / 2 + 1) := at_place hp
      rw [this, e']
      exact List.Sublist.append i1 (List.Sublist.cons_cons _ i2)
/-- the same beginnings -/
theorem A.front : ∀ {r : Nat} {u v : List Nat}, A (r + 1) u v → u.take (2 ^ r - 1) = v.take (2 ^ r - 1)
  | 0, u, v, h => by simp
  | r + 1, u, v, h => by
    by_cases hl : u.length < 2 ^ (r + 1)
    · rw [A.short h hl]
    · have h2 : 2 ^ (r + 1) = 2 ^ r * 2 := Nat.pow_succ ..
      have h1 : 0 < 2 ^ r := Nat.pow_pos (by decide)
      have hp : 2 ^ r - 1 < u.length := by omega
      obtain ⟨x', y', e', a, b⟩ := h.1 _ _ _ (at_place hp)
      have e1 := A.short a (by rw [List.length_take]; omega)
      have lx : x'.length = 2 ^ r - 1 := by rw [← e1, List.length_take]; omega
      have i := A.front b
      have ek : 2 ^ (r + 1) - 1 = (2 ^ r - 1) + ((2 ^ r - 1) + 1) := by omega
      have eu := at_place hp
      have lt : (u.take (2 ^ r - 1)).length = 2 ^ r - 1 := by rw [List.length_take]; omega
      rw [e', ek]
      conv => lhs; rw [eu]
      rw [List.take_append, lt, List.take_append, lx, Nat.add_sub_cancel_left, List.take_succ_cons, List.take_succ_cons, i, e1]
theorem A.ends {r : Nat} {u v : List Nat} (h : A (r + 1) u v) (hne : u ≠ v) : 2 ^ r - 1 ≤ u.length ∧ 2 ^ r - 1 ≤ v.length ∧ u.take (2 ^ r - 1) = v.take (2 ^ r - 1) ∧ u.drop (u.length - (2 ^ r - 1)) = v.drop (v.length - (2 ^ r - 1)) := by
  have l1 : 2 ^ r ≤ u.length := Nat.le_of_not_lt fun q => hne (h.short q)
  have l2 : 2 ^ r ≤ v.length := Nat.le_of_not_lt fun q => hne (h.symm.short q).symm
  refine ⟨by omega, by omega, h.front, ?_⟩
  have i := h.rev.front
  rw [List.take_reverse, List.take_reverse] at i
  have := congrArg List.reverse i
  simpa using this
/-! ### powers -/
def pow (w : List Nat) : Nat → List Nat
  | 0 => []
  | n + 1 => w ++ pow w n
theorem pow_len (w : List Nat) (n : Nat) : (pow w n).length = n * w.length := by
  induction n with
  | zero => simp [pow]
  | succ n ih => rw [pow, List.length_append, ih, Nat.succ_mul]; omega
theorem pow_add (w : List Nat) (n m : Nat) : pow w (n + m) = pow w n ++ pow w m := by
  induction n with
  | zero => simp [pow]
  | succ n ih => rw [Nat.succ_add, pow, pow, ih, List.append_assoc]
/-- a cut of a power -/
theorem pow_cut {w : List Nat} : ∀ {n : Nat} {x y : List Nat} {c : Nat}, pow w n = x ++ c :: y → ∃ i a b, i < n ∧ w = a ++ c :: b ∧ x = pow w i ++ a ∧ y = b ++ pow w (n - 1 - i)
  | 0, x, y, c, h => by exact absurd h (by simp [pow])
  | n + 1, x, y, c, h => by
    rw [pow] at h
    rcases cut2 h with ⟨z, e1, e2⟩ | ⟨z, e1, e2⟩
    · exact ⟨0, x, z, by omega, e1, by simp [pow], by simpa using e2⟩
    · obtain ⟨i, a, b, hi, ew, ex, ey⟩ := pow_cut e2
      refine ⟨i + 1, a, b, by omega, ew, by rw [e1, ex, pow, List.append_assoc], ?_⟩
      rw [ey, show n + 1 - 1 - (i + 1) = n - 1 - i by omega]
theorem pow_at (w a b : List Nat) (c n i : Nat) (hi : i < n) (hw : w = a ++ c :: b) : pow w n = (pow w i ++ a) ++ c :: (b ++ pow w (n - 1 - i)) := by
  have e : n = i + (1 + (n - 1 - i)) := by omega
  conv => lhs; rw [e]
  rw [pow_add, pow_add]
  have : pow w 1 = a ++ c :: b := by rw [← hw]; simp [pow]
  rw [this]
  simp
theorem A.pow (w : List Nat) : ∀ {r n m : Nat}, 2 ^ r - 1 ≤ n → 2 ^ r - 1 ≤ m → A r (pow w n) (pow w m)
  | 0, _, _, _, _ => trivial
  | r + 1, n, m, hn, hm => by
    have h2 : 2 ^ (r + 1) = 2 ^ r * 2 := Nat.pow_succ ..
    have h1 : 0 < 2 ^ r := Nat.pow_pos (by decide)
    have key : ∀ {n m : Nat}, 2 ^ (r + 1) - 1 ≤ n → 2 ^ (r + 1) - 1 ≤ m → ∀ x c y, RK.pow w n = x ++ c :: y → ∃ x' y', RK.pow w m = x' ++ c :: y' ∧ A r x x' ∧ A r y y' := fun {n m} hn hm x c y e => by
      obtain ⟨i, a, b, hi, ew, ex, ey⟩ := pow_cut e
      have fin : ∀ j, j < m → (i = j ∨ (2 ^ r - 1 ≤ i ∧ 2 ^ r - 1 ≤ j)) → (n - 1 - i = m - 1 - j ∨ (2 ^ r - 1 ≤ n - 1 - i ∧ 2 ^ r - 1 ≤ m - 1 - j)) → ∃ x' y', RK.pow w m = x' ++ c :: y' ∧ A r x x' ∧ A r y y' := fun j hj q1 q2 => by
        refine ⟨_, _, pow_at w a b c m j hj ew, ?_, ?_⟩
        · rw [ex]
          refine A.app ?_ (A.refl _ _)
          rcases q1 with q | ⟨q, q'⟩
          · rw [q]; exact A.refl _ _
          · exact A.pow w q q'
        · rw [ey]
          refine A.app (A.refl _ _) ?_
          rcases q2 with q | ⟨q, q'⟩
          · rw [q]; exact A.refl _ _
          · exact A.pow w q q'
      by_cases c1 : i < 2 ^ r - 1
      · exact fin i (by omega) (.inl rfl) (.inr ⟨by omega, by omega⟩)
      · by_cases c2 : n - 1 - i < 2 ^ r - 1
        · exact fin (m - 1 - (n - 1 - i)) (by omega) (.inr ⟨by omega, by omega⟩) (.inl (by omega))
        · exact fin (2 ^ r - 1) (by omega) (.inr ⟨by omega, by omega⟩) (.inr ⟨by omega, by omega⟩)
    refine ⟨key hn hm, fun x c y e => ?_⟩
    obtain ⟨x', y', e', a, b⟩ := key hm hn x c y e
    exact ⟨x', y', e', a.symm, b.symm⟩
theorem pow_one (c n : Nat) : pow [c] n = List.replicate n c := by
  induction n with
  | zero => rfl
  | succ n ih => rw [pow, ih]; rfl
/-- powers of one letter -/
theorem A.one {r n m : Nat} (c : Nat) : A r (RK.pow [c] n) (RK.pow [c] m) ↔ min n (2 ^ r - 1) = min m (2 ^ r - 1) := by
  constructor
  · intro h
    have key : ∀ {n m : Nat}, A r (RK.pow [c] n) (RK.pow [c] m) → min n (2 ^ r - 1) ≤ m := fun {n m} h => by
      have hs : (List.replicate (min n (2 ^ r - 1)) c).Sublist (RK.pow [c] n) := by
        rw [pow_one]
        exact (List.replicate_sublist_replicate c).mpr (Nat.min_le_left _ _)
      have := (h.piece hs (by rw [List.length_replicate]; exact Nat.min_le_right _ _)).length_le
      rw [List.length_replicate, pow_one, List.length_replicate] at this
      exact this
    have := key h
    have := key h.symm
    omega
  · intro h
    by_cases q : 2 ^ r - 1 ≤ n
    · exact A.pow [c] q (by omega)
    · rw [show m = n by omega]; exact A.refl _ _
end RK
/-! ## NRankM -/
set_option Elab.async false
set_option linter.all false
set_option maxRecDepth 100000
set_option maxHeartbeats 2000000
/-! the book of rank kinds, plainly -/
namespace NC
open PySem PySem.Spec PyProof.Rows L2 D2 RK
abbrev LW := Nat × List Nat
abbrev WN := List (LW × Nat)
/-- the number of a word at a level -/
def numW (wn : WN) (l : Nat) (w : List Nat) : Nat := if l = 0 then 0 else ((wn.find? fun x => decide (x.1 = (l, w))).map (·.2)).getD 0
def Knows (wn : WN) (l : Nat) (w : List Nat) : Prop := l = 0 ∨ (l, w) ∈ wn.map (·.1)
def triK (g : List Nat → Nat) (w : List Nat) (p : Nat) : NestedKey := .tup [.num (g (w.take p) : Int), .text (sOf [w.getD p 0]), .num (g (w.drop (p + 1)) : Int)]
def trisK (g : List Nat → Nat) (w : List Nat) (n : Nat) : List NestedKey := bookOf ((List.range n).map (triK g w))
def itemsK (g : List Nat → Nat) (l : Nat) (w : List Nat) : NestedKey := if w.length < 2 ^ (l - 1) then .text (sOf w) else .tup ((trisK g w w.length).mergeSort kLe)
def keyK (g : List Nat → Nat) (l : Nat) (w : List Nat) : NestedKey := .tup [.num (l : Int), itemsK g l w]
structure Book (kn : List NestedKey) (wn : WN) : Prop where
  nd : kn.Nodup
  wd : (wn.map (·.1)).Nodup
  pos : ∀ x ∈ wn, 1 ≤ x.1.1
  at_ : ∀ x ∈ wn, kn[x.2]? = some (keyK (numW wn (x.1.1 - 1)) x.1.1 x.1.2)
  sub : ∀ x ∈ wn, ¬ x.1.2.length < 2 ^ (x.1.1 - 1) → ∀ p, p < x.1.2.length → Knows wn (x.1.1 - 1) (x.1.2.take p) ∧ Knows wn (x.1.1 - 1) (x.1.2.drop (p + 1))
  kl : kn.length ≤ wn.length
theorem book0 : Book [] [] := ⟨List.nodup_nil, List.nodup_nil, fun x hx => (by cases hx), fun x hx => (by cases hx), fun x hx => (by cases hx), Nat.le_refl _⟩
theorem find_mem {wn : WN} (wd : (wn.map (·.1)).Nodup) {x : LW × Nat} (h : x ∈ wn) : wn.find? (fun y => decide (y.1 = x.1)) = some x := by
  induction wn with
  | nil => cases h
  | cons y wn ih =>
    rw [List.map_cons, List.nodup_cons] at wd
    by_cases e : y.1 = x.1
    · rw [List.find?_cons_of_pos (by simpa using e)]
      rcases List.mem_cons.mp h with q | q
      · rw [q]
      · exact absurd (by rw [e]; exact List.mem_map_of_mem (f := (·.1)) q) wd.1
    · rw [List.find?_cons_of_neg (by simpa using e)]
      rcases List.mem_cons.mp h with q | q
      · rw [q] at e; exact absurd rfl e
      · exact ih wd.2 q
theorem numW_mem {wn : WN} (wd : (wn.map (·.1)).Nodup) {l : Nat} {w : List Nat} {n : Nat} (h : ((l, w), n) ∈ wn) (hl : 1 ≤ l) : numW wn l w = n := by
  have := find_mem wd h
  unfold numW
  rw [if_neg (by omega), this]; rfl
theorem numW_0 (wn : WN) (w : List Nat) : numW wn 0 w = 0 := rfl
theorem Knows.at {wn : WN} {l : Nat} {w : List Nat} (h : Knows wn l w) (hl : 1 ≤ l) : ∃ n, ((l, w), n) ∈ wn := by
  rcases h with h | h
  · omega
  · obtain ⟨x, hx, e⟩ := List.mem_map.mp h
    obtain ⟨y, n⟩ := x
    dsimp only at e; subst e
    exact ⟨n, hx⟩
/-- more is known -/
def Grow (l : Nat) (wn wn' : WN) : Prop := ∃ more, wn' = wn ++ more ∧ ∀ x ∈ more, x.1.1 ≤ l
theorem Grow.refl (l : Nat) (wn : WN) : Grow l wn wn := ⟨[], by simp, fun x hx => (by cases hx)⟩
theorem Grow.trans {l : Nat} {a b c : WN} (h : Grow l a b) (g : Grow l b c) : Grow l a c := by
  obtain ⟨m, rfl, hm⟩ := h
  obtain ⟨m2, rfl, hm2⟩ := g
  exact ⟨m ++ m2, by rw [List.append_assoc], fun x hx => (List.mem_append.mp hx).elim (hm x) (hm2 x)⟩
theorem Grow.le {l k : Nat} {a b : WN} (h : Grow l a b) (hl : l ≤ k) : Grow k a b := by
  obtain ⟨m, e, hm⟩ := h
  exact ⟨m, e, fun x hx => Nat.le_trans (hm x hx) hl⟩
theorem Grow.knows {l k : Nat} {a b : WN} {w : List Nat} (h : Grow l a b) (g : Knows a k w) : Knows b k w := by
  obtain ⟨m, rfl, _⟩ := h
  rcases g with g | g
  · exact .inl g
  · exact .inr (by rw [List.map_append]; exact List.mem_append_left _ g)
theorem Grow.num {l k : Nat} {a b : WN} {w : List Nat} (h : Grow l a b) (g : Knows a k w) : numW b k w = numW a k w := by
  obtain ⟨m, rfl, _⟩ := h
  by_cases hk : k = 0
  · subst hk; rfl
  · rcases g with g | g
    · exact absurd g hk
    · obtain ⟨x, hx, e⟩ := List.mem_map.mp g
      have : (a.find? fun x => decide (x.1 = (k, w))).isSome = true := List.find?_isSome.mpr ⟨x, hx, by simpa using e⟩
      unfold numW
      rw [if_neg hk, if_neg hk, List.find?_append]
      cases q : a.find? fun x => decide (x.1 = (k, w)) with
      | none => rw [q] at this; cases this
      | some y => rfl
theorem tri_eq {g h : List Nat → Nat} {w : List Nat} {p : Nat} (h1 : g (w.take p) = h (w.take p)) (h2 : g (w.drop (p + 1)) = h (w.drop (p + 1))) : triK g w p = triK h w p := by
  unfold triK; rw [h1, h2]
theorem tris_eq {g h : List Nat → Nat} {w : List Nat} {n : Nat} (hh : ∀ p, p < n → g (w.take p) = h (w.take p) ∧ g (w.drop (p + 1)) = h (w.drop (p + 1))) : trisK g w n = trisK h w n := by
  unfold trisK
  congr 1
  refine List.map_congr_left fun p hp => ?_
  have := hh p (List.mem_range.mp hp)
  exact tri_eq this.1 this.2
theorem key_eq {g h : List Nat → Nat} {l : Nat} {w : List Nat} (hh : ¬ w.length < 2 ^ (l - 1) → ∀ p, p < w.length → g (w.take p) = h (w.take p) ∧ g (w.drop (p + 1)) = h (w.drop (p + 1))) : itemsK g l w = itemsK h l w := by
  unfold itemsK
  by_cases q : w.length < 2 ^ (l - 1)
  · rw [if_pos q, if_pos q]
  · rw [if_neg q, if_neg q, tris_eq (hh q)]
theorem tris_snoc (g : List Nat → Nat) (w : List Nat) (n : Nat) : trisK g w (n + 1) = if triK g w n ∈ trisK g w n then trisK g w n else trisK g w n ++ [triK g w n] := by
  unfold trisK
  rw [List.range_succ, List.map_append, List.map_singleton, book_snoc]
theorem tris_len (g : List Nat → Nat) (w : List Nat) (n : Nat) : (trisK g w n).length ≤ n := by
  have := (book_mem ((List.range n).map (triK g w))).2.2
  rwa [List.length_map, List.length_range] at this
def IsTri (k : NestedKey) : Prop := ∃ (a c b : Nat), k = .tup [.num (a : Int), .text (sOf [c]), .num (b : Int)]
theorem tris_in {g : List Nat → Nat} {w : List Nat} {n : Nat} {k : NestedKey} (h : k ∈ trisK g w n) : IsTri k := by
  obtain ⟨p, _, rfl⟩ := List.mem_map.mp (((book_mem _).1 k).mp h)
  exact ⟨_, _, _, rfl⟩
theorem tri_inj {a c b a' c' b' : Nat} : (NestedKey.tup [.num (a : Int), .text (sOf [c]), .num (b : Int)] = .tup [.num (a' : Int), .text (sOf [c']), .num (b' : Int)]) ↔ a = a' ∧ c = c' ∧ b = b' := by
  constructor
  · intro h
    have h1 := NestedKey.tup.inj h
    simp only [List.cons.injEq, NestedKey.text.injEq, NestedKey.num.injEq, and_true] at h1
    have h2 := sOf_inj h1.2.1
    exact ⟨by omega, by simpa using h2, by omega⟩
  · rintro ⟨rfl, rfl, rfl⟩; rfl
theorem tri_anti {a b : NestedKey} (ha : IsTri a) (hb : IsTri b) (h1 : kLe a b = true) (h2 : kLe b a = true) : a = b := by
  obtain ⟨x, y, z, rfl⟩ := ha
  obtain ⟨x', y', z', rfl⟩ := hb
  have e := PyProof.Rows.lex_total (O := PyProof.Rows.itemOrd) _ _ (show PyProof.Rows.lexLt PyProof.Rows.itemOrd (PySem.W.keyToks (NestedKey.tup [.num (x : Int), .text (sOf [y]), .num (z : Int)]).data) (PySem.W.keyToks (NestedKey.tup [.num (x' : Int), .text (sOf [y']), .num (z' : Int)]).data) = false by simpa [kLe, PySem.W.dataLe, PySem.W.sortLe] using h2)
    (show PyProof.Rows.lexLt PyProof.Rows.itemOrd (PySem.W.keyToks (NestedKey.tup [.num (x' : Int), .text (sOf [y']), .num (z' : Int)]).data) (PySem.W.keyToks (NestedKey.tup [.num (x : Int), .text (sOf [y]), .num (z : Int)]).data) = false by simpa [kLe, PySem.W.dataLe, PySem.W.sortLe] using h1)
  simp [NestedKey.data, NestedKey.datas, PySem.W.keyToks, PySem.W.keyToksAll, sOf] at e
  exact tri_inj.mpr ⟨by omega, e.2.1, by omega⟩
/-- sorted lists of the same triples are equal -/
theorem sort_tri {l l' : List NestedKey} (h : ∀ k ∈ l, IsTri k) (nd : l.Nodup) (nd' : l'.Nodup) (e : ∀ k, k ∈ l ↔ k ∈ l') : l.mergeSort kLe = l'.mergeSort kLe := by
  have p : l.Perm l' := (List.perm_ext_iff_of_nodup nd nd').mpr e
  have p1 : (l.mergeSort kLe).Perm (l'.mergeSort kLe) := (List.mergeSort_perm l kLe).trans (p.trans (List.mergeSort_perm l' kLe).symm)
  refine List.Perm.eq_of_pairwise (le := fun a b => kLe a b = true) (fun a b ha hb h1 h2 => ?_) (List.pairwise_mergeSort kLe_tr kLe_to l) (List.pairwise_mergeSort kLe_tr kLe_to l') p1
  have ha' := (List.mergeSort_perm l kLe).mem_iff.mp ha
  have hb' := (e b).mpr ((List.mergeSort_perm l' kLe).mem_iff.mp hb)
  exact tri_anti (h a ha') (h b hb') h1 h2
theorem sort_mem {l l' : List NestedKey} (h : l.mergeSort kLe = l'.mergeSort kLe) (k : NestedKey) : k ∈ l ↔ k ∈ l' := by
  rw [← (List.mergeSort_perm l kLe).mem_iff, h, (List.mergeSort_perm l' kLe).mem_iff]
/-- triples of two words -/
theorem tris_A {g : List Nat → Nat} {l : Nat} {u v : List Nat} (hg : ∀ a b, (∃ p, p < u.length ∧ (a = u.take p ∨ a = u.drop (p + 1))) → (∃ p, p < v.length ∧ (b = v.take p ∨ b = v.drop (p + 1))) → (g a = g b ↔ A l a b)) :
    (∀ k, k ∈ trisK g u u.length ↔ k ∈ trisK g v v.length) ↔ A (l + 1) u v := by
  have mem : ∀ (w : List Nat) (k : NestedKey), k ∈ trisK g w w.length ↔ ∃ p, p < w.length ∧ k = triK g w p := fun w k => by
    unfold trisK
    rw [(book_mem _).1, List.mem_map]
    constructor
    · rintro ⟨p, hp, rfl⟩; exact ⟨p, List.mem_range.mp hp, rfl⟩
    · rintro ⟨p, hp, rfl⟩; exact ⟨p, List.mem_range.mpr hp, rfl⟩
  have cut : ∀ {w x y : List Nat} {c : Nat}, w = x ++ c :: y → x.length < w.length ∧ w.take x.length = x ∧ w.getD x.length 0 = c ∧ w.drop (x.length + 1) = y := fun {w x y c} e => by
    subst e
    exact ⟨by simp, by simp, by simp, by simp⟩
  have glue : ∀ {w : List Nat} {p : Nat}, p < w.length → w = w.take p ++ w.getD p 0 :: w.drop (p + 1) := fun {w p} hp => by
    have := at_place hp
    rw [List.getD_eq_getElem?_getD, List.getElem?_eq_getElem hp]
    exact this
  have side : ∀ {u v : List Nat}, (∀ a b, (∃ p, p < u.length ∧ (a = u.take p ∨ a = u.drop (p + 1))) → (∃ p, p < v.length ∧ (b = v.take p ∨ b = v.drop (p + 1))) → (g a = g b ↔ A l a b)) →
      ((∀ k, k ∈ trisK g u u.length → k ∈ trisK g v v.length) ↔ ∀ x c y, u = x ++ c :: y → ∃ x' y', v = x' ++ c :: y' ∧ A l x x' ∧ A l y y') := fun {u v} hg => by
    constructor
    · intro h x c y e
      obtain ⟨h1, h2, h3, h4⟩ := cut e
      obtain ⟨q, hq, ek⟩ := (mem v _).mp (h _ ((mem u _).mpr ⟨x.length, h1, rfl⟩))
      obtain ⟨e1, e2, e3⟩ := tri_inj.mp ek
      refine ⟨v.take q, v.drop (q + 1), ?_, ?_, ?_⟩
      · rw [← h3, e2]; exact glue hq
      · exact (hg _ _ ⟨_, h1, .inl h2.symm⟩ ⟨q, hq, .inl rfl⟩).mp (by rw [← e1, h2])
      · exact (hg _ _ ⟨_, h1, .inr h4.symm⟩ ⟨q, hq, .inr rfl⟩).mp (by rw [← e3, h4])
    · intro h k hk
      obtain ⟨p, hp, rfl⟩ := (mem u k).mp hk
      obtain ⟨x', y', e, a, b⟩ := h _ _ _ (glue hp)
      obtain ⟨h1, h2, h3, h4⟩ := cut e
      refine (mem v _).mpr ⟨x'.length, h1, tri_inj.mpr ⟨?_, h3.symm, ?_⟩⟩
      · rw [h2]; exact (hg _ _ ⟨p, hp, .inl rfl⟩ ⟨_, h1, .inl h2.symm⟩).mpr a
      · rw [h4]; exact (hg _ _ ⟨p, hp, .inr rfl⟩ ⟨_, h1, .inr h4.symm⟩).mpr b
  have hg' : ∀ a b, (∃ p, p < v.length ∧ (a = v.take p ∨ a = v.drop (p + 1))) → (∃ p, p < u.length ∧ (b = u.take p ∨ b = u.drop (p + 1))) → (g a = g b ↔ A l a b) := fun a b ha hb =>
    eq_comm.trans ((hg b a hb ha).trans ⟨A.symm, A.symm⟩)
  constructor
  · intro h
    refine ⟨(side hg).mp fun k => (h k).mp, fun x c y e => ?_⟩
    obtain ⟨x', y', e', a, b⟩ := (side hg').mp (fun k => (h k).mpr) x c y e
    exact ⟨x', y', e', a.symm, b.symm⟩
  · intro h k
    refine ⟨(side hg).mpr h.1 k, (side hg').mpr (fun x c y e => ?_) k⟩
    obtain ⟨x', y', e', a, b⟩ := h.2 x c y e
    exact ⟨x', y', e', a.symm, b.symm⟩
theorem Book.eq {kn : List NestedKey} {wn : WN} (B : Book kn wn) : ∀ (l : Nat) {u v : List Nat}, Knows wn l u → Knows wn l v → (numW wn l u = numW wn l v ↔ A l u v)
  | 0, _, _, _, _ => ⟨fun _ => trivial, fun _ => rfl⟩
  | l + 1, u, v, hu, hv => by
    obtain ⟨n, hn⟩ := hu.at (by omega)
    obtain ⟨m, hm⟩ := hv.at (by omega)
    rw [numW_mem B.wd hn (by omega), numW_mem B.wd hm (by omega)]
    have a1 := B.at_ _ hn
    have a2 := B.at_ _ hm
    dsimp only at a1 a2
    rw [Nat.add_sub_cancel] at a1 a2
    have s1 := B.sub _ hn
    have s2 := B.sub _ hm
    dsimp only at s1 s2
    rw [Nat.add_sub_cancel] at s1 s2
    have i1 : n = m ↔ keyK (numW wn l) (l + 1) u = keyK (numW wn l) (l + 1) v := by
      constructor
      · rintro rfl
        rw [a1] at a2
        exact Option.some.inj a2
      · intro e
        rw [← e] at a2
        obtain ⟨h1, e1⟩ := List.getElem?_eq_some_iff.mp a1
        obtain ⟨h2, e2⟩ := List.getElem?_eq_some_iff.mp a2
        exact (List.getElem_inj (h₀ := h1) (h₁ := h2) B.nd).mp (e1.trans e2.symm)
    have i2 : keyK (numW wn l) (l + 1) u = keyK (numW wn l) (l + 1) v ↔ itemsK (numW wn l) (l + 1) u = itemsK (numW wn l) (l + 1) v := by
      unfold keyK
      simp
    rw [i1, i2]
    unfold itemsK
    rw [Nat.add_sub_cancel]
    by_cases q1 : u.length < 2 ^ l
    · rw [if_pos q1]
      by_cases q2 : v.length < 2 ^ l
      · rw [if_pos q2]
        constructor
        · intro e
          rw [sOf_inj (NestedKey.text.inj e)]; exact A.refl _ _
        · intro h; rw [h.short q1]
      · rw [if_neg q2]
        constructor
        · intro e; cases e
        · intro h; rw [h.short q1] at q1; exact absurd q1 q2
    · rw [if_neg q1]
      by_cases q2 : v.length < 2 ^ l
      · rw [if_pos q2]
        constructor
        · intro e; cases e
        · intro h; rw [h.symm.short q2] at q2; exact absurd q2 q1
      · rw [if_neg q2]
        have k1 := s1 q1
        have k2 := s2 q2
        rw [← tris_A (g := numW wn l) (l := l) (u := u) (v := v) (fun a b ⟨p, hp, ha⟩ ⟨r, hr, hb⟩ => B.eq l (by rcases ha with rfl | rfl; exact (k1 p hp).1; exact (k1 p hp).2) (by rcases hb with rfl | rfl; exact (k2 r hr).1; exact (k2 r hr).2))]
        constructor
        · intro e k
          exact sort_mem (NestedKey.tup.inj e) k
        · intro h
          exact congrArg NestedKey.tup (sort_tri (fun k => tris_in) (book_mem _).2.1 (book_mem _).2.1 h)
/-- a word's number is set -/
theorem Book.put {kn : List NestedKey} {wn : WN} (B : Book kn wn) {l : Nat} {w : List Nat} (hl : 1 ≤ l) (hn : (l, w) ∉ wn.map (·.1)) (hs : ¬ w.length < 2 ^ (l - 1) → ∀ p, p < w.length → Knows wn (l - 1) (w.take p) ∧ Knows wn (l - 1) (w.drop (p + 1))) {kn' : List NestedKey} {n : Nat}
    (hk : (keyK (numW wn (l - 1)) l w ∈ kn ∧ kn' = kn ∧ n = kn.idxOf (keyK (numW wn (l - 1)) l w)) ∨ (keyK (numW wn (l - 1)) l w ∉ kn ∧ kn' = kn ++ [keyK (numW wn (l - 1)) l w] ∧ n = kn.length)) :
    Book kn' (wn ++ [((l, w), n)]) ∧ Grow l wn (wn ++ [((l, w), n)]) ∧ Knows (wn ++ [((l, w), n)]) l w ∧ numW (wn ++ [((l, w), n)]) l w = n := by
  have gr : Grow l wn (wn ++ [((l, w), n)]) := ⟨_, rfl, fun x hx => by rw [List.mem_singleton.mp hx]; exact Nat.le_refl _⟩
  have pre : ∀ {i : Nat} {k : NestedKey}, kn[i]? = some k → kn'[i]? = some k := fun {i k} e => by
    rcases hk with ⟨_, rfl, _⟩ | ⟨_, rfl, _⟩
    · exact e
    · rw [List.getElem?_append_left (List.getElem?_eq_some_iff.mp e).1]; exact e
  have wd : ((wn ++ [((l, w), n)]).map (·.1)).Nodup := by
    rw [List.map_append, List.nodup_append]
    exact ⟨B.wd, by simp, fun a ha b hb => by
      rw [List.map_singleton, List.mem_singleton] at hb
      subst hb
      intro e; subst e; exact hn ha⟩
  have me : ((l, w), n) ∈ wn ++ [((l, w), n)] := List.mem_append_right _ List.mem_cons_self
  have key : ∀ x ∈ wn ++ [((l, w), n)], ¬ x.1.2.length < 2 ^ (x.1.1 - 1) → ∀ p, p < x.1.2.length → Knows wn (x.1.1 - 1) (x.1.2.take p) ∧ Knows wn (x.1.1 - 1) (x.1.2.drop (p + 1)) := fun x hx => by
    rcases List.mem_append.mp hx with h | h
    · exact B.sub x h
    · rw [List.mem_singleton.mp h]; exact hs
  have same : ∀ x ∈ wn ++ [((l, w), n)], keyK (numW (wn ++ [((l, w), n)]) (x.1.1 - 1)) x.1.1 x.1.2 = keyK (numW wn (x.1.1 - 1)) x.1.1 x.1.2 := fun x hx => by
    unfold keyK
    rw [key_eq fun q p hp => ⟨gr.num (key x hx q p hp).1, gr.num (key x hx q p hp).2⟩]
  refine ⟨⟨?_, wd, fun x hx => ?_, fun x hx => ?_, fun x hx q p hp => ?_, ?_⟩, gr, .inr (List.mem_map_of_mem (f := (·.1)) me), numW_mem wd me hl⟩
  · rcases hk with ⟨_, rfl, _⟩ | ⟨h, rfl, _⟩
    · exact B.nd
    · rw [List.nodup_append]
      exact ⟨B.nd, by simp, fun a ha b hb => by rw [List.mem_singleton.mp hb]; intro e; subst e; exact h ha⟩
  · rcases List.mem_append.mp hx with h | h
    · exact B.pos x h
    · rw [List.mem_singleton.mp h]; exact hl
  · rw [same x hx]
    rcases List.mem_append.mp hx with h | h
    · exact pre (B.at_ x h)
    · rw [List.mem_singleton.mp h]
      rcases hk with ⟨hin, ek, rfl⟩ | ⟨hin, ek, rfl⟩
      · rw [ek]
        show kn[kn.idxOf _]? = _
        rw [List.getElem?_eq_getElem (List.idxOf_lt_length_of_mem hin), List.getElem_idxOf]
      · rw [ek]
        show (kn ++ [_])[kn.length]? = _
        simp
  · have := key x hx q p hp
    exact ⟨gr.knows this.1, gr.knows this.2⟩
  · have := B.kl
    rcases hk with ⟨_, rfl, _⟩ | ⟨_, rfl, _⟩
    · rw [List.length_append]; omega
    · rw [List.length_append, List.length_append]; simp; omega
/-- all words are among Us -/
def InU (Us : List (List Nat)) (wn : WN) : Prop := ∀ x ∈ wn, x.1.1 ≤ 8 ∧ x.1.2 ∈ Us
theorem nodup_le {α : Type} [DecidableEq α] : ∀ {l m : List α}, l.Nodup → (∀ x ∈ l, x ∈ m) → l.length ≤ m.length
  | [], _, _, _ => Nat.zero_le _
  | x :: l, m, nd, h => by
    have hx := h x List.mem_cons_self
    have := nodup_le (l := l) (m := m.erase x) (List.nodup_cons.mp nd).2 fun y hy => (List.mem_erase_of_ne fun e => (List.nodup_cons.mp nd).1 (by rw [← e]; exact hy)).mpr (h y (List.mem_cons_of_mem _ hy))
    rw [List.length_erase_of_mem hx] at this
    have := List.length_pos_of_mem hx
    rw [List.length_cons]; omega
theorem Book.size {kn : List NestedKey} {wn : WN} (B : Book kn wn) {Us : List (List Nat)} (h : InU Us wn) : wn.length ≤ 8 * Us.length := by
  have e : wn.length = (wn.map (·.1)).length := by rw [List.length_map]
  rw [e]
  have := nodup_le (m := (List.range 8).flatMap fun i => Us.map fun w => (i + 1, w)) B.wd fun x hx => by
    obtain ⟨y, hy, rfl⟩ := List.mem_map.mp hx
    have := h y hy
    have := B.pos y hy
    rw [List.mem_flatMap]
    exact ⟨y.1.1 - 1, List.mem_range.mpr (by omega), List.mem_map.mpr ⟨y.1.2, (h y hy).2, by rw [Nat.sub_add_cancel this]⟩⟩
  refine Nat.le_trans this ?_
  have hl : ∀ n, ((List.range n).flatMap fun i => Us.map fun w => (i + 1, w)).length = n * Us.length := fun n => by
    induction n with
    | zero => simp
    | succ n ih => rw [List.range_succ, List.flatMap_append, List.length_append, ih]; simp [Nat.succ_mul]
  rw [hl]; omega
/-- closed under parts -/
def Closed (Us : List (List Nat)) : Prop := ∀ w ∈ Us, ∀ p, w.take p ∈ Us ∧ w.drop p ∈ Us
end NC
/-! ## NErr -/
set_option Elab.async false
set_option linter.all false
set_option maxRecDepth 100000
set_option maxHeartbeats 2000000
/-! the package's exceptions -/
namespace NC
open PySem PySem.Spec PyProof.Rows L2 D2
abbrev abc3 : List Nat := [97, 98, 99]
/-- letters a, b, c only -/
def Abc (s : List Nat) : Prop := ∀ c ∈ s, c ∈ abc3
instance (s : List Nat) : Decidable (Abc s) := inferInstanceAs (Decidable (∀ c ∈ s, c ∈ abc3))
theorem alph_len {l : List Nat} (h : l ∈ alphabets) : 0 < l.length ∧ l.length ≤ 3 ∧ Abc l := by
  simp only [alphabets, List.mem_cons, List.not_mem_nil, or_false] at h
  rcases h with rfl | rfl | rfl <;> exact ⟨by decide, by decide, by decide⟩
theorem abc_nil : Abc (lit "") := fun c h => by cases h
theorem abc_app {s t : List Nat} (h1 : Abc s) (h2 : Abc t) : Abc (s ++ t) := fun c hc => (List.mem_append.mp hc).elim (h1 c) (h2 c)
theorem abc_one {l : List Nat} (h : Abc l) {i : Nat} (hi : i < l.length) : Abc [l.getD i 0] := fun c hc => by
  rw [List.mem_singleton.mp hc, List.getD_eq_getElem?_getD, List.getElem?_eq_getElem hi]
  exact h _ (List.getElem_mem hi)
theorem abc_cut {s : List Nat} (h : Abc s) {lo hi : Option Int} : Abc (cutL s lo hi) := fun c hc => h c (by
  unfold cutL at hc
  exact List.mem_of_mem_drop (List.mem_of_mem_take hc))
theorem log_small {n : Int} (h0 : 0 ≤ n) (h : n < 9000) : n.natAbs.log2 < 9000 := Nat.lt_of_le_of_lt (Nat.log2_le_self _) (by omega)
end NC
/-! ## NLetters -/
set_option Elab.async false
set_option linter.all false
set_option maxRecDepth 100000
set_option maxHeartbeats 2000000
namespace NC
open PySem PySem.Spec PyProof.Rows L2 D2
local macro_rules | `(tactic| ktf_call "lk") => `(tactic| (with_reducible first | exact Lk.here | exact (Lk.there Lk.here) | exact (Lk.there (Lk.there Lk.here)) | exact (Lk.there (Lk.there (Lk.there Lk.here))) | exact (Lk.there (Lk.there (Lk.there (Lk.there Lk.here)))) | exact (Lk.there (Lk.there (Lk.there (Lk.there (Lk.there Lk.here))))) | exact (Lk.there (Lk.there (Lk.there (Lk.there (Lk.there (Lk.there Lk.here)))))) | exact (Lk.there (Lk.there (Lk.there (Lk.there (Lk.there (Lk.there (Lk.there Lk.here))))))) | exact (Lk.there (Lk.there (Lk.there (Lk.there (Lk.there (Lk.there (Lk.there (Lk.there Lk.here)))))))) | exact (Lk.there (Lk.there (Lk.there (Lk.there (Lk.there (Lk.there (Lk.there (Lk.there (Lk.there Lk.here))))))))) | exact (Lk.there (Lk.there (Lk.there (Lk.there (Lk.there (Lk.there (Lk.there (Lk.there (Lk.there (Lk.there Lk.here)))))))))) | exact (Lk.there (Lk.there (Lk.there (Lk.there (Lk.there (Lk.there (Lk.there (Lk.there (Lk.there (Lk.there (Lk.there Lk.here))))))))))) | exact (Lk.there (Lk.there (Lk.there (Lk.there (Lk.there (Lk.there (Lk.there (Lk.there (Lk.there (Lk.there (Lk.there (Lk.there Lk.here)))))))))))) | exact (Lk.there (Lk.there (Lk.there (Lk.there (Lk.there (Lk.there (Lk.there (Lk.there (Lk.there (Lk.there (Lk.there (Lk.there (Lk.there Lk.here))))))))))))) | fail "none"))
local macro_rules | `(tactic| ktf_call "put") => `(tactic| (with_reducible first | exact PutF.here | exact (PutF.there PutF.here) | exact (PutF.there (PutF.there PutF.here)) | exact (PutF.there (PutF.there (PutF.there PutF.here))) | exact (PutF.there (PutF.there (PutF.there (PutF.there PutF.here)))) | exact (PutF.there (PutF.there (PutF.there (PutF.there (PutF.there PutF.here))))) | exact (PutF.there (PutF.there (PutF.there (PutF.there (PutF.there (PutF.there PutF.here)))))) | exact (PutF.there (PutF.there (PutF.there (PutF.there (PutF.there (PutF.there (PutF.there PutF.here))))))) | exact (PutF.there (PutF.there (PutF.there (PutF.there (PutF.there (PutF.there (PutF.there (PutF.there PutF.here)))))))) | exact (PutF.there (PutF.there (PutF.there (PutF.there (PutF.there (PutF.there (PutF.there (PutF.there (PutF.there PutF.here))))))))) | exact (PutF.there (PutF.there (PutF.there (PutF.there (PutF.there (PutF.there (PutF.there (PutF.there (PutF.there (PutF.there PutF.here)))))))))) | exact (PutF.there (PutF.there (PutF.there (PutF.there (PutF.there (PutF.there (PutF.there (PutF.there (PutF.there (PutF.there (PutF.there PutF.here))))))))))) | exact (PutF.there (PutF.there (PutF.there (PutF.there (PutF.there (PutF.there (PutF.there (PutF.there (PutF.there (PutF.there (PutF.there (PutF.there PutF.here)))))))))))) | exact (PutF.there (PutF.there (PutF.there (PutF.there (PutF.there (PutF.there (PutF.there (PutF.there (PutF.there (PutF.there (PutF.there (PutF.there (PutF.there PutF.here))))))))))))) | fail "none"))
local macro_rules | `(tactic| ktf_call "has") => `(tactic| (with_reducible first | exact Has.here | exact (Has.there Has.here) | exact (Has.there (Has.there Has.here)) | exact (Has.there (Has.there (Has.there Has.here))) | exact (Has.there (Has.there (Has.there (Has.there Has.here)))) | exact (Has.there (Has.there (Has.there (Has.there (Has.there Has.here))))) | exact (Has.there (Has.there (Has.there (Has.there (Has.there (Has.there Has.here)))))) | exact (Has.there (Has.there (Has.there (Has.there (Has.there (Has.there (Has.there Has.here))))))) | fail "none"))
local macro_rules | `(tactic| ktf_call "chg") => `(tactic| (with_reducible first | exact Chg.here | exact (Chg.there Chg.here) | exact (Chg.there (Chg.there Chg.here)) | exact (Chg.there (Chg.there (Chg.there Chg.here))) | exact (Chg.there (Chg.there (Chg.there (Chg.there Chg.here)))) | exact (Chg.there (Chg.there (Chg.there (Chg.there (Chg.there Chg.here))))) | exact (Chg.there (Chg.there (Chg.there (Chg.there (Chg.there (Chg.there Chg.here)))))) | exact (Chg.there (Chg.there (Chg.there (Chg.there (Chg.there (Chg.there (Chg.there Chg.here))))))) | fail "none"))
local macro_rules | `(tactic| ktf_call "vl") => `(tactic| first | ((with_reducible refine' VL.own ?cv); (case cv => ktf_call "has")) | with_reducible exact VL.dat | fail "vl")
local macro_rules | `(tactic| ktf_call "vu") => `(tactic| ((with_reducible refine' VU.own ?cv); (case cv => ktf_call "has")))
local macro_rules | `(tactic| ktf_call "ati") => `(tactic| first | assumption | exact ati_l rfl | fail "ati")
local macro_rules | `(tactic| ktf_call "vi") => `(tactic| first | with_reducible exact vi_dat | ((with_reducible refine' vi_own ?cv); (case cv => ktf_call "has")) | ((with_reducible refine' vi_nil ?cv); (case cv => ktf_call "vl")) | fail "vi")
local macro_rules | `(tactic| ktf_call "vs") => `(tactic| first | with_reducible exact vs_dat | ((with_reducible refine' vs_own ?cv); (case cv => ktf_call "has")) | ((with_reducible refine' vs_nil ?cv); (case cv => ktf_call "vl")) | fail "vs")
local macro_rules | `(tactic| ktf_call "hyp") => `(tactic| simp only [decide_eq_true_eq, decide_eq_false_iff_not, Bool.not_eq_true', Bool.not_eq_false', Bool.not_true, Bool.not_false, Bool.true_eq_false, Bool.false_eq_true, Int.not_lt, Int.not_le] at *)
local macro_rules | `(tactic| ktf_call "side") => `(tactic| first | assumption | decide | omega | (simp only [List.length_cons, List.length_nil, List.length_map]; omega) | exact ⟨Int.emod_nonneg _ (by omega), Int.emod_lt_of_pos _ (by omega)⟩ | (decide +kernel) | (simp; done) | (simp; omega))
local macro_rules | `(tactic| ktf_call "cmul") => `(tactic| first | assumption | exact cm_l (by omega) (by omega) | exact cm_r (by omega) (by omega) | fail "cmul")
local macro_rules | `(tactic| ktf_call "cdiv") => `(tactic| first | assumption | exact ⟨by assumption, by assumption⟩ | exact cd_s (by omega) (by omega) | fail "cdiv")
local macro_rules | `(tactic| ktf_call "frz") => `(tactic| (repeat (first | exact Frz.dat | exact Frzs.nil | apply Frzs.cons | apply Frz.lst | exact Frzs.map _ _)))
local macro_rules | `(tactic| ktf_call "ln") => `(tactic| first | ((with_reducible refine' ln_I ?cv); (case cv => ktf_call "vi")) | ((with_reducible refine' ln_S ?cv); (case cv => ktf_call "vs")) | ((with_reducible refine' Ln.lst ?cv); (case cv => ktf_call "vl")) | ((with_reducible refine' Ln.str ?cv); (case cv => ktf_call "side")) | with_reducible exact Ln.tup | fail "ln")
local macro_rules | `(tactic| ktf_call "tym") => `(tactic| first | with_reducible exact TyM.str | with_reducible exact TyM.lst (by ktf_call "vl") | with_reducible exact TyM.int | with_reducible exact TyM.dk (by ktf_call "has"))
local macro_rules | `(tactic| ktf_call "gl") => `(tactic| first | assumption | exact Def.gl (by assumption) (by decide +kernel) | exact IsBlk.gl (by assumption) (by decide +kernel) | exact IsBlkH.gl (by assumption) (by decide +kernel) | fail "gl")
local macro_rules | `(tactic| ktf_call "mg") => `(tactic| first | assumption | exact Def.mg_ (by assumption) (by assumption) | exact IsBlk.mg (by assumption) (by ktf_call "mg") | exact IsBlkH.mg (by assumption) (by ktf_call "mg") | fail "mg")
local macro_rules | `(tactic| ktf_call "own") => `(tactic| first | assumption | exact Def.own (by assumption) (by decide +kernel) | fail "own")
local macro_rules | `(tactic| ktf_call "cal") => `(tactic| first | assumption | exact Def.callee (by assumption) (by assumption) | exact IsBlk.callee (by assumption) (by ktf_call "cal") | fail "cal")
local macro_rules | `(tactic| ktf_call "fog") => `(tactic| (repeat (first | with_reducible exact Fog.nil | with_reducible apply Fog.keep | with_reducible apply Fog.drop)))
local macro_rules | `(tactic| ktf_call "blk") => `(tactic| first | with_reducible exact Blk.nil | exact Blk.keep (by decide +kernel) (by ktf_call "blk") | exact Blk.drop (by ktf_call "blk"))
local macro_rules | `(tactic| ktf_call "sub") => `(tactic| (repeat (with_reducible first | exact List.Sublist.slnil | exact List.nil_sublist _ | exact sub_nil _ | apply List.Sublist.cons_cons | apply List.Sublist.cons)))
local macro_rules | `(tactic| ktf_call "ce") => `(tactic| fail "ce")
-- expressions
local macro_rules | `(tactic| ktf_call "e") => `(tactic| first
  | ((with_reducible show DE _ _ _ _ (.Name _ _) _); refine de_name (by ktf_call "lk") ?_)
  | ((with_reducible show DE _ _ _ _ (.Constant _ _ _) _); first | refine de_int ?_ | refine de_str ?_ | refine de_bl ?_ | refine de_non ?_)
  | ((with_reducible show DE _ _ _ _ (.BinOp _ _ _ _) _); refine de_bin ?_)
  | ((with_reducible show DE _ _ _ _ (.Subscript _ (.Slice _ _ none _) _) _); refine d_slice ?_)
  | ((with_reducible show DE _ _ _ _ (.Subscript _ _ _) _); refine de_ix ?_)
  | ((with_reducible show DE _ _ _ _ (.Call (.Name _ _) _ _ _) _); first
      | ((with_reducible show DE _ _ _ _ (.Call (.Name "len" _) _ _ _) _); refine d_len (by ktf_call "gl") (by ktf_call "mg") ?_)
      | ((with_reducible show DE _ _ _ _ (.Call (.Name "int" _) _ _ _) _); refine d_int (by ktf_call "gl") (by ktf_call "mg") ?_)
      | ((with_reducible show DE _ _ _ _ (.Call (.Name "abs" _) _ _ _) _); refine d_abs (by ktf_call "gl") (by ktf_call "mg") ?_)
      | ktf_call "ce"
      | refine de_call (by ktf_call "cal") (by assumption) (by ktf_call "gl") ?_ (hjk := by omega))
  | ((with_reducible show DE _ _ _ _ (.Call (.Attribute _ "join" _) _ _ _) _); refine d_join ?_)
  | ((with_reducible show DE _ _ _ _ (.Call (.Attribute _ "append" _) _ _ _) _); refine d_appendL ?_)
  | ((with_reducible show DE _ _ _ _ (.Call (.Attribute _ "extend" _) _ _ _) _); refine d_extendL ?_)
  | ((with_reducible show DE _ _ _ _ (.Call (.Attribute _ "find" _) [_, _] _ _) _); refine d_find3 ?_)
  | ((with_reducible show DE _ _ _ _ (.Compare _ [_] [_] _) _); refine de_cmp ?_)
  | ((with_reducible show DE _ _ _ _ (.BoolOp _ [_] _) _); refine de_bo1 ?_)
  | ((with_reducible show DE _ _ _ _ (.BoolOp .And _ _) _); refine de_and ?_)
  | ((with_reducible show DE _ _ _ _ (.BoolOp .Or _ _) _); refine de_or ?_)
  | ((with_reducible show DE _ _ _ _ (.UnaryOp .Not _ _) _); refine de_not ?_)
  | ((with_reducible show DE _ _ _ _ (.UnaryOp _ _ _) _); refine de_un ?_)
  | ((with_reducible show DE _ _ _ _ (.List _ _) _); refine de_lst ?_)
  | ((with_reducible show DE _ _ _ _ (.Tuple _ _ _) _); refine de_tup ?_)
  | ((with_reducible show DE _ _ _ _ (.IfExp _ _ _ _) _); refine de_if ?_))
local macro_rules | `(tactic| ktf_call "o") => `(tactic| first
  | ((with_reducible show OP _ _ _ _ (binaryOp _) _ _ _); first
    | ((with_reducible refine' o_add  ?kk))
    | ((with_reducible refine' o_addS ?ca ?kk); (case ca => ktf_call "side"))
    | ((with_reducible refine' o_cat ?ca ?cb ?cd (fun p => ?kk)); (case ca => ktf_call "vu"); (case cb => ktf_call "vu"); (case cd => ktf_call "side"))
    | ((with_reducible refine' o_sub  ?kk))
    | ((with_reducible refine' o_mulS ?ca ?kk); (case ca => ktf_call "cmul"))
    | ((with_reducible refine' o_mul ?ca ?kk); (case ca => assumption))
    | ((with_reducible refine' o_div ?ca ?kk); (case ca => ktf_call "cdiv"))
    | ((with_reducible refine' o_mod ?ca ?kk); (case ca => (first | assumption | omega | decide)))
    | ((with_reducible refine' o_pow ?ca ?kk); (case ca => decide))
    | fail "o")
  | ((with_reducible show OP _ _ _ _ (compareOp _) _ _ _); first
    | ((with_reducible refine' o_lt  ?kk))
    | ((with_reducible refine' o_le  ?kk))
    | ((with_reducible refine' o_gt  ?kk))
    | ((with_reducible refine' o_ge  ?kk))
    | ((with_reducible refine' o_eqI  ?kk))
    | ((with_reducible refine' o_eqS  ?kk))
    | ((with_reducible refine' o_eqB  ?kk))
    | ((with_reducible refine' o_eqLI ?ca ?cb ?cd ?kk); (case ca => assumption); (case cb => ktf_call "vi"); (case cd => ktf_call "vi"))
    | ((with_reducible refine' o_eqLS ?ca ?cb ?cd ?kk); (case ca => assumption); (case cb => ktf_call "vs"); (case cd => ktf_call "vs"))
    | ((with_reducible refine' o_neI  ?kk))
    | ((with_reducible refine' o_neS  ?kk))
    | ((with_reducible refine' o_neLI ?ca ?cb ?cd ?kk); (case ca => assumption); (case cb => ktf_call "vi"); (case cd => ktf_call "vi"))
    | ((with_reducible refine' o_neLS ?ca ?cb ?cd ?kk); (case ca => assumption); (case cb => ktf_call "vs"); (case cd => ktf_call "vs"))
    | ((with_reducible refine' o_isB  ?kk))
    | fail "o")
  | ((with_reducible refine' u_neg  ?kk))
  | ((with_reducible refine' x_I ?ca ?cb ?kk); (case ca => ktf_call "vi"); (case cb => ktf_call "side"))
  | ((with_reducible refine' x_S ?ca ?cb ?kk); (case ca => ktf_call "vs"); (case cb => ktf_call "side"))
  | ((with_reducible refine' x_B ?ca ?cb ?kk); (case ca => ((with_reducible refine' vb_own ?cv); (case cv => ktf_call "has"))); (case cb => ktf_call "side"))
  | ((with_reducible refine' x_ch ?ca ?cb ?kk); (case ca => ktf_call "side"); (case cb => ktf_call "side"))
  | ((with_reducible refine' x_lst ?ca ?cb ?kk); (case ca => ktf_call "vl"); (case cb => ktf_call "ati"))
  | ((with_reducible refine' x_tup ?ca ?kk); (case ca => ktf_call "ati"))
  | ((with_reducible refine' x_str ?ca ?cb ?kk); (case ca => ktf_call "side"); (case cb => ktf_call "ati"))
  | ((with_reducible refine' s_lst ?ca (fun p => ?kk)); (case ca => ktf_call "vl"))
  | ((with_reducible refine' s_str ?ca ?kk); (case ca => ktf_call "side"))
  | fail "o")
local macro_rules | `(tactic| ktf_call "t") => `(tactic| first
  | ((with_reducible show DT _ _ _ _ (.Compare _ [_] [_] _) _); refine dt_cmp ?_)
  | ((with_reducible show DT _ _ _ _ (.BoolOp _ _ _) _); refine dt_bool ?_)
  | ((with_reducible show DT _ _ _ _ (.UnaryOp .Not _ _) _); refine dt_not ?_)
  | ((with_reducible show DT _ _ _ _ _ _); refine dt_val ?_)
  | ((with_reducible show DW _ _ _ _ (.BoolOp .And [_] _) _); refine dw_and1 ?_)
  | ((with_reducible show DW _ _ _ _ (.BoolOp .Or [_] _) _); refine dw_or1 ?_)
  | ((with_reducible show DW _ _ _ _ (.BoolOp .And _ _) _); refine dw_and ?_)
  | ((with_reducible show DW _ _ _ _ (.BoolOp .Or _ _) _); refine dw_or ?_))
local macro_rules | `(tactic| ktf_call "s") => `(tactic| first
  | ((with_reducible show DSs _ _ _ _ (List.drop _ _) _); first | refine dss_at rfl ?_ | refine dss_end rfl ?_)
  | ((with_reducible show DSs _ _ _ _ (_ :: _) _); refine dss_cons ?_)
  | ((with_reducible show DSs _ _ _ _ [] _); refine dss_nil ?_)
  | ((with_reducible show DS _ _ _ _ (.If _ _ _ _) _); refine ds_if ?_)
  | ((with_reducible show DS _ _ _ _ (.Return (some _) _) _); refine ds_ret ?_)
  | ((with_reducible show DS _ _ _ _ (.Assign [.Name _ _] _ _) _); refine ds_asg (by ktf_call "own") (by ktf_call "put") ?_)
  | ((with_reducible show DS _ _ _ _ (.Assign [.Subscript _ _ _] _ _) _); refine ds_setL ?_)
  | ((with_reducible show DS _ _ _ _ (.Expr _ _) _); refine ds_expr ?_)
  | ((with_reducible show DS _ _ _ _ (.AugAssign (.Name _ _) .Add _ _) _); refine ds_augI ip_add (by ktf_call "own") (by ktf_call "lk") (by ktf_call "put") ?_)
  | ((with_reducible show DS _ _ _ _ (.AugAssign (.Name _ _) .Sub _ _) _); refine ds_augI ip_sub (by ktf_call "own") (by ktf_call "lk") (by ktf_call "put") ?_)
  | fail "s")
local macro_rules | `(tactic| ktf_call "k") => `(tactic| first
  | ((with_reducible show DA _ _ _ _ [] _); refine da_nil ?_)
  | ((with_reducible show DA _ _ _ _ (_ :: _) _); refine da_cons ?_)
  | ((with_reducible show DO _ _ _ _ none _); refine do_none ?_)
  | ((with_reducible show DO _ _ _ _ (some _) _); refine do_some ?_)
  | ((with_reducible show KB _ _ _); refine kb ?_)
  | ((with_reducible show (_ = true → _) ∧ (_ = false → _)); refine ⟨fun hyp => ?_, fun hyp => ?_⟩ <;> (try simp only [decide_eq_true_eq, decide_eq_false_iff_not, Bool.not_eq_true', Bool.not_eq_false', Bool.not_true, Bool.not_false, Bool.true_eq_false, Bool.false_eq_true, Int.not_lt, Int.not_le, nil_len, Nat.pos_iff_ne_zero.symm] at hyp))
  | ((with_reducible show (_ = false → _) ∧ (_ = true → _)); refine ⟨fun hyp => ?_, fun hyp => ?_⟩ <;> (try simp only [decide_eq_true_eq, decide_eq_false_iff_not, Bool.not_eq_true', Bool.not_eq_false', Bool.not_true, Bool.not_false, Bool.true_eq_false, Bool.false_eq_true, Int.not_lt, Int.not_le, nil_len, Nat.pos_iff_ne_zero.symm] at hyp))
  | ((with_reducible show ∃ d, rB _ = rB d ∧ _); refine ⟨_, rfl, ?_⟩)
  | ((with_reducible show ∃ d, D2.rI _ = D2.rI d ∧ _); refine ⟨_, rfl, ?_⟩)
  | ((with_reducible show ∃ n, Ln _ _ n ∧ _); refine ⟨_, by ktf_call "ln", ?_⟩)
  | ((with_reducible refine' Exists.intro _ (Exists.intro _ (Exists.intro _ (Exists.intro _ (Exists.intro _ (And.intro rfl (And.intro rfl (And.intro ?ch (And.intro ?ix ?_))))))))); (case ch => ktf_call "chg"); (case ix => first | exact ixN_ok (by ktf_call "side") (by ktf_call "side") | exact rfl))
  | ((with_reducible show rS _ = rS [] ∧ _); refine ⟨rfl, ?_⟩)
  | ((with_reducible show ∃ s, rS _ = rS s ∧ _); refine ⟨_, rfl, ?_⟩)
  | ((with_reducible refine' Exists.intro _ (Exists.intro _ (Exists.intro _ (And.intro rfl (And.intro ?ch ?_))))); (case ch => ktf_call "has"))
  | ((with_reducible refine' Exists.intro _ (Exists.intro _ (And.intro ?ch (And.intro ?cl ?_)))); (case ch => ktf_call "chg"); (case cl => ktf_call "side"))
  | ((with_reducible refine' Exists.intro _ (Exists.intro _ (Exists.intro _ (And.intro ?ch (And.intro ?cu (And.intro ?cl ?_)))))); (case ch => ktf_call "chg"); (case cu => ktf_call "vu"); (case cl => ktf_call "side"))
  | ((with_reducible show _ ≤ 1000000 ∧ _); first | refine ⟨by ktf_call "side", fun p => ?_⟩ | refine ⟨by ktf_call "side", _, _, by ktf_call "frz", ?_⟩)
  | ktf_call "sp"
  | fail "k")
local macro_rules | `(tactic| ktf_call "d2") => `(tactic| (repeat' (first
  | ((with_reducible show DE _ _ _ _ _ _); ktf_call "e")
  | ((with_reducible show OP _ _ _ _ _ _ _ _); ktf_call "o")
  | ((with_reducible show IX _ _ _ _ _ _ _ _ _); ktf_call "o")
  | ((with_reducible show DT _ _ _ _ _ _); ktf_call "t")
  | ((with_reducible show DW _ _ _ _ _ _); ktf_call "t")
  | ((with_reducible show DA _ _ _ _ _ _); ktf_call "k")
  | ((with_reducible show DS _ _ _ _ _ _); ktf_call "s")
  | ((with_reducible show DSs _ _ _ _ _ _); ktf_call "s")
  | ((with_reducible show UP _ _ _ _ _ _ _); ktf_call "o")
  | ((with_reducible show SlK _ _ _ _ _ _ _ _); ktf_call "o")
  | ktf_call "k" | fail "stuck")))
local macro_rules | `(tactic| ktf_call "s") => `(tactic| first
  | ((with_reducible show DS _ _ _ _ (.Raise _ _ _) _); refine ds_raise (by assumption) (by assumption) (by ktf_call "gl") ?_))
local macro_rules | `(tactic| ktf_call "e") => `(tactic| first
  | ((with_reducible show DE _ _ _ _ (.Name "ALPHABETS" _) _); refine de_tupG (by assumption) (by assumption) ?_)
  | ((with_reducible show DE _ _ _ _ (.Name "WAIT_SORTS" _) _); refine de_tupG (by assumption) (by assumption) ?_)
  | ((with_reducible show DE _ _ _ _ (.Call (.Attribute _ "strip" _) _ _ _) _); refine d_stripC ?_))
local macro_rules | `(tactic| ktf_call "k") => `(tactic| ((with_reducible show _ ≤ 1000000 ∧ DE _ _ _ _ _ _); refine ⟨by ktf_call "side", ?_⟩))
local macro_rules | `(tactic| ktf_call "o") => `(tactic| ((with_reducible refine' o_ninS ?ca ?kk); (case ca => assumption)))
section
variable {P : Program} {w : World} {K : PySem.W.Frag} {mg : Str → Option Value} {base : Heap} {f : Addr} {fd : FuncData}
/-- the letters l only -/
def InL (l s : List Nat) : Prop := ∀ c ∈ s, c ∈ l
instance (l s : List Nat) : Decidable (InL l s) := inferInstanceAs (Decidable (∀ c ∈ s, c ∈ l))
def spCheckLetters (CB : Addr) : Sp2 := fun rs m Kr Ke => ∃ l : List Nat, rs = [rS l] ∧ m = [] ∧ (l ∉ alphabets → Ke CB [("given", .str l)] []) ∧ (l ∈ alphabets → Kr (rS l) [])
theorem sc_check_letters : FnScope ["letters"] ["letters"] (defScope (top 9)) := ⟨rfl, rfl, rfl, by decide +kernel, rfl, by decide +kernel, by decide +kernel⟩
theorem ok_checkLetters {C_BadLetters : Addr} (F : FunD K "check_letters" "check_letters" (defArgs (top 9)) (defBody (top 9)) (defScope (top 9)) [] [] f fd) (t_ALPHABETS : TupG K mg "ALPHABETS" (NC.alphabets)) (x_BadLetters : MkC P w K mg base "BadLetters" C_BadLetters 1 1 [("given", 0)] (fun _ => True)) : FnOk P w K mg base (L2N.CX P w) (3) f fd ["letters"] (spOf K (spCheckLetters C_BadLetters)) := by
  refine fn2 F sc_check_letters (by decide +kernel) (fun rs m Kr Ke ⟨_, e, _⟩ => by rw [e]; rfl) fun X c rs m Kr Ke D L hx ⟨l, er, em, h1, h2⟩ => ?_
  subst er em
  have u_ALPHABETS : TupG X.K X.mg "ALPHABETS" (NC.alphabets) := by rw [D.K, D.mg]; exact t_ALPHABETS
  have y_BadLetters : MkC X.prog X.w X.K X.mg X.base "BadLetters" C_BadLetters 1 1 [("given", 0)] (fun _ => True) := by rw [D.prog, D.w, D.K, D.mg, D.base]; exact x_BadLetters
  have g_ALPHABETS : Gl X "ALPHABETS" := D.gl (by decide +kernel)
  have g_BadLetters : Gl X "BadLetters" := D.gl (by decide +kernel)
  refine dss_lo ?_
  show DSs X c [("letters", some (rS l))] [] (_ :: _) _
  ktf_call "d2"
  · rename_i hw
    exact ⟨[.str l], [], .cons .dat .nil, rfl, fun _ _ _ _ => trivial, hx _ _ _ _ (h1 hw)⟩
  · rename_i hw
    exact ⟨[], sub_nil, h2 hw⟩
def spIsWord : Sp2 := fun rs m Kr Ke => ∃ l s : List Nat, rs = [rS l, rS s] ∧ s.length ≤ 1000000 ∧ m = [] ∧ Kr (rB (decide (InL l s))) []
theorem sc_is_word : FnScope ["letters", "word"] ["letters", "word"] (defScope (top 10)) := ⟨rfl, rfl, rfl, by decide +kernel, rfl, by decide +kernel, by decide +kernel⟩
theorem ok_isWord (F : FunD K "is_word" "is_word" (defArgs (top 10)) (defBody (top 10)) (defScope (top 10)) [] [] f fd) : FnOk P w K mg base (L2N.CX P w) (1) f fd ["letters", "word"] (spOf K spIsWord) := by
  refine fn2 F sc_is_word (by decide +kernel) (fun rs m Kr Ke ⟨_, _, e, _⟩ => by rw [e]; rfl) fun X c rs m Kr Ke D L hx ⟨l, s, er, hs, em, hk⟩ => ?_
  subst er em
  refine dss_lo ?_
  show DSs X c [("letters", some (rS l)), ("word", some (rS s))] [] (_ :: _) _
  ktf_call "d2"
  have e : decide (lit (Txt.stripChars (sOf s) (sOf l)) = lit ("" : Str)) = decide (InL l s) := by
    rw [Bool.eq_iff_iff, decide_eq_true_eq, decide_eq_true_eq]
    exact strip_nil s l
  rw [e]
  exact ⟨[], sub_nil, hk⟩
/-- letters, word, most -/
def spCheckWord (CB CW CL : Addr) : Sp2 := fun rs m Kr Ke => ∃ (l s : List Nat) (n : Int), rs = [rS l, rS s, D2.rI n] ∧ s.length ≤ 1000000 ∧ m = [] ∧ (l ∉ alphabets → Ke CB [("given", .str l)] []) ∧ (l ∈ alphabets → ¬ InL l s → Ke CW [("word", .str s)] []) ∧ (l ∈ alphabets → InL l s → n < s.length → Ke CL [("many", .int s.length)] []) ∧ (l ∈ alphabets → InL l s → (s.length : Int) ≤ n → Kr (rS s) [])
theorem sc_check_word : FnScope ["letters", "word", "most"] ["letters", "word", "most"] (defScope (top 11)) := ⟨rfl, rfl, rfl, by decide +kernel, rfl, by decide +kernel, by decide +kernel⟩
theorem ok_checkWord {C_BadLetters C_BadWord C_TooLarge : Addr} {kws : List (Str × V)} (F : FunD K "check_word" "check_word" (defArgs (top 11)) (defBody (top 11)) (defScope (top 11)) [] kws f fd) (c_check_letters : CalleeG P w K mg base "check_letters" 3 (spCheckLetters C_BadLetters)) (c_is_word : CalleeG P w K mg base "is_word" 1 spIsWord) (x_BadWord : MkC P w K mg base "BadWord" C_BadWord 1 1 [("word", 0)] (fun _ => True)) (m0_len : mg "len" = none) (x_TooLarge : MkC P w K mg base "TooLarge" C_TooLarge 1 1 [("many", 0)] SmallI) : FnOk P w K mg base (L2N.CX P w) (4) f fd ["letters", "word", "most"] (spOf K (spCheckWord C_BadLetters C_BadWord C_TooLarge)) := by
  refine fn2 F sc_check_word (by decide +kernel) (fun rs m Kr Ke ⟨_, _, _, e, _⟩ => by rw [e]; rfl) fun X c rs m Kr Ke D L hx ⟨l, s, n, er, hs, em, h0, h1, h2, h3⟩ => ?_
  subst er em
  have e_check_letters : Callee X "check_letters" 3 (spCheckLetters C_BadLetters) := D.callee c_check_letters
  have e_is_word : Callee X "is_word" 1 spIsWord := D.callee c_is_word
  have y_BadWord : MkC X.prog X.w X.K X.mg X.base "BadWord" C_BadWord 1 1 [("word", 0)] (fun _ => True) := by rw [D.prog, D.w, D.K, D.mg, D.base]; exact x_BadWord
  have m_len : X.mg "len" = none := D.mg_ m0_len
  have y_TooLarge : MkC X.prog X.w X.K X.mg X.base "TooLarge" C_TooLarge 1 1 [("many", 0)] SmallI := by rw [D.prog, D.w, D.K, D.mg, D.base]; exact x_TooLarge
  have g_check_letters : Gl X "check_letters" := D.gl (by decide +kernel)
  have g_is_word : Gl X "is_word" := D.gl (by decide +kernel)
  have g_BadWord : Gl X "BadWord" := D.gl (by decide +kernel)
  have g_len : Gl X "len" := D.gl (by decide +kernel)
  have g_TooLarge : Gl X "TooLarge" := D.gl (by decide +kernel)
  refine dss_lo ?_
  show DSs X c [("letters", some (rS l)), ("word", some (rS s)), ("most", some (D2.rI n))] [] (_ :: _) _
  ktf_call "d2"
  refine ⟨[], _, Split.nil, (show spCheckLetters _ _ _ _ _ from ⟨l, rfl, rfl, fun hl => hx _ _ _ _ (h0 hl), fun hl => ?_⟩)⟩
  ktf_call "d2"
  refine ⟨[], _, Split.nil, (show spIsWord _ _ _ _ from ⟨l, s, rfl, hs, rfl, ?_⟩)⟩
  ktf_call "d2"
  · rename_i hw
    exact ⟨[.str s], [], .cons .dat .nil, rfl, fun _ _ _ _ => trivial, hx _ _ _ _ (h1 hl (by simpa using hw))⟩
  · rename_i hw hn
    refine ⟨[.int s.length], [], .cons .dat .nil, rfl, fun Kf G vs rv => ?_, hx _ _ _ _ (h2 hl (by simpa using hw) (by omega))⟩
    cases rv with | cons a b =>
    cases b
    cases a
    exact ⟨_, rfl, by omega, by omega⟩
  · rename_i hw hn
    exact ⟨[], sub_nil, h3 hl (by simpa using hw) (by omega)⟩
end
/-- letters abc -/
theorem sp_checkWord {m : Mem} {s : List Nat} {n : Int} {CB CW CL : Addr} {Kr : Mem → R → Mem → Prop} {Ke : Mem → Addr → List (Str × D2.D) → Mem → Prop} (hs : s.length ≤ 1000000) (h1 : ¬ Abc s → Ke m CW [("word", .str s)] []) (h2 : Abc s → n < s.length → Ke m CL [("many", .int s.length)] []) (h3 : Abc s → (s.length : Int) ≤ n → Kr m (rS s) []) :
    ∃ mf rest, Split m mf rest ∧ spCheckWord CB CW CL [rS abc3, rS s, D2.rI n] mf (Kr rest) (Ke rest) :=
  ⟨[], m, .nil, abc3, s, n, rfl, hs, rfl, fun h => absurd (by decide) h, fun _ => h1, fun _ => h2, fun _ => h3⟩
end NC
/-! ## NRank -/
set_option Elab.async false
set_option linter.all false
set_option maxRecDepth 100000
set_option maxHeartbeats 2000000
set_option pp.maxSteps 1500
/-! the book of rank kinds, walked -/
namespace NC
open PySem PySem.Spec PyProof.Rows L2 D2 RK
local macro_rules | `(tactic| ktf_call "lk") => `(tactic| (with_reducible first | exact Lk.here | exact (Lk.there Lk.here) | exact (Lk.there (Lk.there Lk.here)) | exact (Lk.there (Lk.there (Lk.there Lk.here))) | exact (Lk.there (Lk.there (Lk.there (Lk.there Lk.here)))) | exact (Lk.there (Lk.there (Lk.there (Lk.there (Lk.there Lk.here))))) | exact (Lk.there (Lk.there (Lk.there (Lk.there (Lk.there (Lk.there Lk.here)))))) | exact (Lk.there (Lk.there (Lk.there (Lk.there (Lk.there (Lk.there (Lk.there Lk.here))))))) | exact (Lk.there (Lk.there (Lk.there (Lk.there (Lk.there (Lk.there (Lk.there (Lk.there Lk.here)))))))) | exact (Lk.there (Lk.there (Lk.there (Lk.there (Lk.there (Lk.there (Lk.there (Lk.there (Lk.there Lk.here))))))))) | exact (Lk.there (Lk.there (Lk.there (Lk.there (Lk.there (Lk.there (Lk.there (Lk.there (Lk.there (Lk.there Lk.here)))))))))) | exact (Lk.there (Lk.there (Lk.there (Lk.there (Lk.there (Lk.there (Lk.there (Lk.there (Lk.there (Lk.there (Lk.there Lk.here))))))))))) | exact (Lk.there (Lk.there (Lk.there (Lk.there (Lk.there (Lk.there (Lk.there (Lk.there (Lk.there (Lk.there (Lk.there (Lk.there Lk.here)))))))))))) | exact (Lk.there (Lk.there (Lk.there (Lk.there (Lk.there (Lk.there (Lk.there (Lk.there (Lk.there (Lk.there (Lk.there (Lk.there (Lk.there Lk.here))))))))))))) | fail "none"))
local macro_rules | `(tactic| ktf_call "put") => `(tactic| (with_reducible first | exact PutF.here | exact (PutF.there PutF.here) | exact (PutF.there (PutF.there PutF.here)) | exact (PutF.there (PutF.there (PutF.there PutF.here))) | exact (PutF.there (PutF.there (PutF.there (PutF.there PutF.here)))) | exact (PutF.there (PutF.there (PutF.there (PutF.there (PutF.there PutF.here))))) | exact (PutF.there (PutF.there (PutF.there (PutF.there (PutF.there (PutF.there PutF.here)))))) | exact (PutF.there (PutF.there (PutF.there (PutF.there (PutF.there (PutF.there (PutF.there PutF.here))))))) | exact (PutF.there (PutF.there (PutF.there (PutF.there (PutF.there (PutF.there (PutF.there (PutF.there PutF.here)))))))) | exact (PutF.there (PutF.there (PutF.there (PutF.there (PutF.there (PutF.there (PutF.there (PutF.there (PutF.there PutF.here))))))))) | exact (PutF.there (PutF.there (PutF.there (PutF.there (PutF.there (PutF.there (PutF.there (PutF.there (PutF.there (PutF.there PutF.here)))))))))) | exact (PutF.there (PutF.there (PutF.there (PutF.there (PutF.there (PutF.there (PutF.there (PutF.there (PutF.there (PutF.there (PutF.there PutF.here))))))))))) | exact (PutF.there (PutF.there (PutF.there (PutF.there (PutF.there (PutF.there (PutF.there (PutF.there (PutF.there (PutF.there (PutF.there (PutF.there PutF.here)))))))))))) | exact (PutF.there (PutF.there (PutF.there (PutF.there (PutF.there (PutF.there (PutF.there (PutF.there (PutF.there (PutF.there (PutF.there (PutF.there (PutF.there PutF.here))))))))))))) | fail "none"))
local macro_rules | `(tactic| ktf_call "has") => `(tactic| (with_reducible first | exact Has.here | exact (Has.there Has.here) | exact (Has.there (Has.there Has.here)) | exact (Has.there (Has.there (Has.there Has.here))) | exact (Has.there (Has.there (Has.there (Has.there Has.here)))) | exact (Has.there (Has.there (Has.there (Has.there (Has.there Has.here))))) | exact (Has.there (Has.there (Has.there (Has.there (Has.there (Has.there Has.here)))))) | exact (Has.there (Has.there (Has.there (Has.there (Has.there (Has.there (Has.there Has.here))))))) | fail "none"))
local macro_rules | `(tactic| ktf_call "chg") => `(tactic| (with_reducible first | exact Chg.here | exact (Chg.there Chg.here) | exact (Chg.there (Chg.there Chg.here)) | exact (Chg.there (Chg.there (Chg.there Chg.here))) | exact (Chg.there (Chg.there (Chg.there (Chg.there Chg.here)))) | exact (Chg.there (Chg.there (Chg.there (Chg.there (Chg.there Chg.here))))) | exact (Chg.there (Chg.there (Chg.there (Chg.there (Chg.there (Chg.there Chg.here)))))) | exact (Chg.there (Chg.there (Chg.there (Chg.there (Chg.there (Chg.there (Chg.there Chg.here))))))) | fail "none"))
local macro_rules | `(tactic| ktf_call "vl") => `(tactic| first | ((with_reducible refine' VL.own ?cv); (case cv => ktf_call "has")) | with_reducible exact VL.dat | fail "vl")
local macro_rules | `(tactic| ktf_call "vu") => `(tactic| ((with_reducible refine' VU.own ?cv); (case cv => ktf_call "has")))
local macro_rules | `(tactic| ktf_call "ati") => `(tactic| first | assumption | exact ati_l rfl | fail "ati")
local macro_rules | `(tactic| ktf_call "vi") => `(tactic| first | with_reducible exact vi_dat | ((with_reducible refine' vi_own ?cv); (case cv => ktf_call "has")) | ((with_reducible refine' vi_nil ?cv); (case cv => ktf_call "vl")) | fail "vi")
local macro_rules | `(tactic| ktf_call "vs") => `(tactic| first | with_reducible exact vs_dat | ((with_reducible refine' vs_own ?cv); (case cv => ktf_call "has")) | ((with_reducible refine' vs_nil ?cv); (case cv => ktf_call "vl")) | fail "vs")
local macro_rules | `(tactic| ktf_call "hyp") => `(tactic| simp only [decide_eq_true_eq, decide_eq_false_iff_not, Bool.not_eq_true', Bool.not_eq_false', Bool.not_true, Bool.not_false, Bool.true_eq_false, Bool.false_eq_true, Int.not_lt, Int.not_le] at *)
local macro_rules | `(tactic| ktf_call "side") => `(tactic| first | assumption | decide | omega | (simp only [List.length_cons, List.length_nil, List.length_map]; omega) | exact ⟨Int.emod_nonneg _ (by omega), Int.emod_lt_of_pos _ (by omega)⟩ | (decide +kernel) | (simp; done) | (simp; omega))
local macro_rules | `(tactic| ktf_call "cmul") => `(tactic| first | assumption | exact cm_l (by omega) (by omega) | exact cm_r (by omega) (by omega) | fail "cmul")
local macro_rules | `(tactic| ktf_call "cdiv") => `(tactic| first | assumption | exact ⟨by assumption, by assumption⟩ | exact cd_s (by omega) (by omega) | fail "cdiv")
local macro_rules | `(tactic| ktf_call "frz") => `(tactic| (repeat (first | exact Frz.dat | exact Frzs.nil | apply Frzs.cons | apply Frz.lst | exact Frzs.map _ _)))
local macro_rules | `(tactic| ktf_call "ln") => `(tactic| first | ((with_reducible refine' ln_I ?cv); (case cv => ktf_call "vi")) | ((with_reducible refine' ln_S ?cv); (case cv => ktf_call "vs")) | ((with_reducible refine' Ln.lst ?cv); (case cv => ktf_call "vl")) | ((with_reducible refine' Ln.str ?cv); (case cv => ktf_call "side")) | with_reducible exact Ln.tup | fail "ln")
local macro_rules | `(tactic| ktf_call "tym") => `(tactic| first | with_reducible exact TyM.str | with_reducible exact TyM.lst (by ktf_call "vl") | with_reducible exact TyM.int | with_reducible exact TyM.dk (by ktf_call "has"))
local macro_rules | `(tactic| ktf_call "gl") => `(tactic| first | assumption | exact Def.gl (by assumption) (by decide +kernel) | exact IsBlk.gl (by assumption) (by decide +kernel) | exact IsBlkH.gl (by assumption) (by decide +kernel) | fail "gl")
local macro_rules | `(tactic| ktf_call "mg") => `(tactic| first | assumption | exact Def.mg_ (by assumption) (by assumption) | exact IsBlk.mg (by assumption) (by ktf_call "mg") | exact IsBlkH.mg (by assumption) (by ktf_call "mg") | fail "mg")
local macro_rules | `(tactic| ktf_call "own") => `(tactic| first | assumption | exact Def.own (by assumption) (by decide +kernel) | fail "own")
local macro_rules | `(tactic| ktf_call "cal") => `(tactic| first | assumption | exact Def.callee (by assumption) (by assumption) | exact IsBlk.callee (by assumption) (by ktf_call "cal") | fail "cal")
local macro_rules | `(tactic| ktf_call "fog") => `(tactic| (repeat (first | with_reducible exact Fog.nil | with_reducible apply Fog.keep | with_reducible apply Fog.drop)))
local macro_rules | `(tactic| ktf_call "blk") => `(tactic| first | with_reducible exact Blk.nil | exact Blk.keep (by decide +kernel) (by ktf_call "blk") | exact Blk.drop (by ktf_call "blk"))
local macro_rules | `(tactic| ktf_call "sub") => `(tactic| (repeat (with_reducible first | exact List.Sublist.slnil | exact List.nil_sublist _ | exact sub_nil _ | apply List.Sublist.cons_cons | apply List.Sublist.cons)))
local macro_rules | `(tactic| ktf_call "ce") => `(tactic| fail "ce")
-- expressions
local macro_rules | `(tactic| ktf_call "e") => `(tactic| first
  | ((with_reducible show DE _ _ _ _ (.Name _ _) _); refine de_name (by ktf_call "lk") ?_)
  | ((with_reducible show DE _ _ _ _ (.Constant _ _ _) _); first | refine de_int ?_ | refine de_str ?_ | refine de_bl ?_ | refine de_non ?_)
  | ((with_reducible show DE _ _ _ _ (.BinOp _ _ _ _) _); refine de_bin ?_)
  | ((with_reducible show DE _ _ _ _ (.Subscript _ (.Slice _ _ none _) _) _); refine d_slice ?_)
  | ((with_reducible show DE _ _ _ _ (.Subscript _ _ _) _); refine de_ix ?_)
  | ((with_reducible show DE _ _ _ _ (.Call (.Name _ _) _ _ _) _); first
      | ((with_reducible show DE _ _ _ _ (.Call (.Name "len" _) _ _ _) _); refine d_len (by ktf_call "gl") (by ktf_call "mg") ?_)
      | ((with_reducible show DE _ _ _ _ (.Call (.Name "int" _) _ _ _) _); refine d_int (by ktf_call "gl") (by ktf_call "mg") ?_)
      | ((with_reducible show DE _ _ _ _ (.Call (.Name "abs" _) _ _ _) _); refine d_abs (by ktf_call "gl") (by ktf_call "mg") ?_)
      | ktf_call "ce"
      | refine de_call (by ktf_call "cal") (by assumption) (by ktf_call "gl") ?_ (hjk := by omega))
  | ((with_reducible show DE _ _ _ _ (.Call (.Attribute _ "join" _) _ _ _) _); refine d_join ?_)
  | ((with_reducible show DE _ _ _ _ (.Call (.Attribute _ "append" _) _ _ _) _); refine d_appendL ?_)
  | ((with_reducible show DE _ _ _ _ (.Call (.Attribute _ "extend" _) _ _ _) _); refine d_extendL ?_)
  | ((with_reducible show DE _ _ _ _ (.Call (.Attribute _ "find" _) [_, _] _ _) _); refine d_find3 ?_)
  | ((with_reducible show DE _ _ _ _ (.Compare _ [_] [_] _) _); refine de_cmp ?_)
  | ((with_reducible show DE _ _ _ _ (.BoolOp _ [_] _) _); refine de_bo1 ?_)
  | ((with_reducible show DE _ _ _ _ (.BoolOp .And _ _) _); refine de_and ?_)
  | ((with_reducible show DE _ _ _ _ (.BoolOp .Or _ _) _); refine de_or ?_)
  | ((with_reducible show DE _ _ _ _ (.UnaryOp .Not _ _) _); refine de_not ?_)
  | ((with_reducible show DE _ _ _ _ (.UnaryOp _ _ _) _); refine de_un ?_)
  | ((with_reducible show DE _ _ _ _ (.List _ _) _); refine de_lst ?_)
  | ((with_reducible show DE _ _ _ _ (.Tuple _ _ _) _); refine de_tup ?_)
  | ((with_reducible show DE _ _ _ _ (.IfExp _ _ _ _) _); refine de_if ?_))
local macro_rules | `(tactic| ktf_call "o") => `(tactic| first
  | ((with_reducible show OP _ _ _ _ (binaryOp _) _ _ _); first
    | ((with_reducible refine' o_add  ?kk))
    | ((with_reducible refine' o_addS ?ca ?kk); (case ca => ktf_call "side"))
    | ((with_reducible refine' o_cat ?ca ?cb ?cd (fun p => ?kk)); (case ca => ktf_call "vu"); (case cb => ktf_call "vu"); (case cd => ktf_call "side"))
    | ((with_reducible refine' o_sub  ?kk))
    | ((with_reducible refine' o_mulS ?ca ?kk); (case ca => ktf_call "cmul"))
    | ((with_reducible refine' o_mul ?ca ?kk); (case ca => assumption))
    | ((with_reducible refine' o_div ?ca ?kk); (case ca => ktf_call "cdiv"))
    | ((with_reducible refine' o_mod ?ca ?kk); (case ca => (first | assumption | omega | decide)))
    | ((with_reducible refine' o_pow ?ca ?kk); (case ca => decide))
    | fail "o")
  | ((with_reducible show OP _ _ _ _ (compareOp _) _ _ _); first
    | ((with_reducible refine' o_lt  ?kk))
    | ((with_reducible refine' o_le  ?kk))
    | ((with_reducible refine' o_gt  ?kk))
    | ((with_reducible refine' o_ge  ?kk))
    | ((with_reducible refine' o_eqI  ?kk))
    | ((with_reducible refine' o_eqS  ?kk))
    | ((with_reducible refine' o_eqB  ?kk))
    | ((with_reducible refine' o_eqLI ?ca ?cb ?cd ?kk); (case ca => assumption); (case cb => ktf_call "vi"); (case cd => ktf_call "vi"))
    | ((with_reducible refine' o_eqLS ?ca ?cb ?cd ?kk); (case ca => assumption); (case cb => ktf_call "vs"); (case cd => ktf_call "vs"))
    | ((with_reducible refine' o_neI  ?kk))
    | ((with_reducible refine' o_neS  ?kk))
    | ((with_reducible refine' o_neLI ?ca ?cb ?cd ?kk); (case ca => assumption); (case cb => ktf_call "vi"); (case cd => ktf_call "vi"))
    | ((with_reducible refine' o_neLS ?ca ?cb ?cd ?kk); (case ca => assumption); (case cb => ktf_call "vs"); (case cd => ktf_call "vs"))
    | ((with_reducible refine' o_isB  ?kk))
    | fail "o")
  | ((with_reducible refine' u_neg  ?kk))
  | ((with_reducible refine' x_I ?ca ?cb ?kk); (case ca => ktf_call "vi"); (case cb => ktf_call "side"))
  | ((with_reducible refine' x_S ?ca ?cb ?kk); (case ca => ktf_call "vs"); (case cb => ktf_call "side"))
  | ((with_reducible refine' x_B ?ca ?cb ?kk); (case ca => ((with_reducible refine' vb_own ?cv); (case cv => ktf_call "has"))); (case cb => ktf_call "side"))
  | ((with_reducible refine' x_ch ?ca ?cb ?kk); (case ca => ktf_call "side"); (case cb => ktf_call "side"))
  | ((with_reducible refine' x_lst ?ca ?cb ?kk); (case ca => ktf_call "vl"); (case cb => ktf_call "ati"))
  | ((with_reducible refine' x_tup ?ca ?kk); (case ca => ktf_call "ati"))
  | ((with_reducible refine' x_str ?ca ?cb ?kk); (case ca => ktf_call "side"); (case cb => ktf_call "ati"))
  | ((with_reducible refine' s_lst ?ca (fun p => ?kk)); (case ca => ktf_call "vl"))
  | ((with_reducible refine' s_str ?ca ?kk); (case ca => ktf_call "side"))
  | fail "o")
local macro_rules | `(tactic| ktf_call "t") => `(tactic| first
  | ((with_reducible show DT _ _ _ _ (.Compare _ [_] [_] _) _); refine dt_cmp ?_)
  | ((with_reducible show DT _ _ _ _ (.BoolOp _ _ _) _); refine dt_bool ?_)
  | ((with_reducible show DT _ _ _ _ (.UnaryOp .Not _ _) _); refine dt_not ?_)
  | ((with_reducible show DT _ _ _ _ _ _); refine dt_val ?_)
  | ((with_reducible show DW _ _ _ _ (.BoolOp .And [_] _) _); refine dw_and1 ?_)
  | ((with_reducible show DW _ _ _ _ (.BoolOp .Or [_] _) _); refine dw_or1 ?_)
  | ((with_reducible show DW _ _ _ _ (.BoolOp .And _ _) _); refine dw_and ?_)
  | ((with_reducible show DW _ _ _ _ (.BoolOp .Or _ _) _); refine dw_or ?_))
local macro_rules | `(tactic| ktf_call "s") => `(tactic| first
  | ((with_reducible show DSs _ _ _ _ (List.drop _ _) _); first | refine dss_at rfl ?_ | refine dss_end rfl ?_)
  | ((with_reducible show DSs _ _ _ _ (_ :: _) _); refine dss_cons ?_)
  | ((with_reducible show DSs _ _ _ _ [] _); refine dss_nil ?_)
  | ((with_reducible show DS _ _ _ _ (.If _ _ _ _) _); refine ds_if ?_)
  | ((with_reducible show DS _ _ _ _ (.Return (some _) _) _); refine ds_ret ?_)
  | ((with_reducible show DS _ _ _ _ (.Assign [.Name _ _] _ _) _); refine ds_asg (by ktf_call "own") (by ktf_call "put") ?_)
  | ((with_reducible show DS _ _ _ _ (.Assign [.Subscript _ _ _] _ _) _); refine ds_setL ?_)
  | ((with_reducible show DS _ _ _ _ (.Expr _ _) _); refine ds_expr ?_)
  | ((with_reducible show DS _ _ _ _ (.AugAssign (.Name _ _) .Add _ _) _); refine ds_augI ip_add (by ktf_call "own") (by ktf_call "lk") (by ktf_call "put") ?_)
  | ((with_reducible show DS _ _ _ _ (.AugAssign (.Name _ _) .Sub _ _) _); refine ds_augI ip_sub (by ktf_call "own") (by ktf_call "lk") (by ktf_call "put") ?_)
  | fail "s")
local macro_rules | `(tactic| ktf_call "k") => `(tactic| first
  | ((with_reducible show DA _ _ _ _ [] _); refine da_nil ?_)
  | ((with_reducible show DA _ _ _ _ (_ :: _) _); refine da_cons ?_)
  | ((with_reducible show DO _ _ _ _ none _); refine do_none ?_)
  | ((with_reducible show DO _ _ _ _ (some _) _); refine do_some ?_)
  | ((with_reducible show KB _ _ _); refine kb ?_)
  | ((with_reducible show (_ = true → _) ∧ (_ = false → _)); refine ⟨fun hyp => ?_, fun hyp => ?_⟩ <;> (try simp only [decide_eq_true_eq, decide_eq_false_iff_not, Bool.not_eq_true', Bool.not_eq_false', Bool.not_true, Bool.not_false, Bool.true_eq_false, Bool.false_eq_true, Int.not_lt, Int.not_le, nil_len, Nat.pos_iff_ne_zero.symm] at hyp))
  | ((with_reducible show (_ = false → _) ∧ (_ = true → _)); refine ⟨fun hyp => ?_, fun hyp => ?_⟩ <;> (try simp only [decide_eq_true_eq, decide_eq_false_iff_not, Bool.not_eq_true', Bool.not_eq_false', Bool.not_true, Bool.not_false, Bool.true_eq_false, Bool.false_eq_true, Int.not_lt, Int.not_le, nil_len, Nat.pos_iff_ne_zero.symm] at hyp))
  | ((with_reducible show ∃ d, rB _ = rB d ∧ _); refine ⟨_, rfl, ?_⟩)
  | ((with_reducible show ∃ d, D2.rI _ = D2.rI d ∧ _); refine ⟨_, rfl, ?_⟩)
  | ((with_reducible show ∃ n, Ln _ _ n ∧ _); refine ⟨_, by ktf_call "ln", ?_⟩)
  | ((with_reducible refine' Exists.intro _ (Exists.intro _ (Exists.intro _ (Exists.intro _ (Exists.intro _ (And.intro rfl (And.intro rfl (And.intro ?ch (And.intro ?ix ?_))))))))); (case ch => ktf_call "chg"); (case ix => first | exact ixN_ok (by ktf_call "side") (by ktf_call "side") | exact rfl))
  | ((with_reducible show rS _ = rS [] ∧ _); refine ⟨rfl, ?_⟩)
  | ((with_reducible show ∃ s, rS _ = rS s ∧ _); refine ⟨_, rfl, ?_⟩)
  | ((with_reducible refine' Exists.intro _ (Exists.intro _ (Exists.intro _ (And.intro rfl (And.intro ?ch ?_))))); (case ch => ktf_call "has"))
  | ((with_reducible refine' Exists.intro _ (Exists.intro _ (And.intro ?ch (And.intro ?cl ?_)))); (case ch => ktf_call "chg"); (case cl => ktf_call "side"))
  | ((with_reducible refine' Exists.intro _ (Exists.intro _ (Exists.intro _ (And.intro ?ch (And.intro ?cu (And.intro ?cl ?_)))))); (case ch => ktf_call "chg"); (case cu => ktf_call "vu"); (case cl => ktf_call "side"))
  | ((with_reducible show _ ≤ 1000000 ∧ _); first | refine ⟨by ktf_call "side", fun p => ?_⟩ | refine ⟨by ktf_call "side", _, _, by ktf_call "frz", ?_⟩)
  | ktf_call "sp"
  | fail "k")
local macro_rules | `(tactic| ktf_call "d2") => `(tactic| (repeat' (first
  | ((with_reducible show DE _ _ _ _ _ _); ktf_call "e")
  | ((with_reducible show OP _ _ _ _ _ _ _ _); ktf_call "o")
  | ((with_reducible show IX _ _ _ _ _ _ _ _ _); ktf_call "o")
  | ((with_reducible show DT _ _ _ _ _ _); ktf_call "t")
  | ((with_reducible show DW _ _ _ _ _ _); ktf_call "t")
  | ((with_reducible show DA _ _ _ _ _ _); ktf_call "k")
  | ((with_reducible show DS _ _ _ _ _ _); ktf_call "s")
  | ((with_reducible show DSs _ _ _ _ _ _); ktf_call "s")
  | ((with_reducible show UP _ _ _ _ _ _ _); ktf_call "o")
  | ((with_reducible show SlK _ _ _ _ _ _ _ _); ktf_call "o")
  | ktf_call "k" | fail "stuck")))
local macro_rules | `(tactic| ktf_call "kitb") => `(tactic| with_reducible first | exact kitb_NoneType_int | exact kitb_NoneType_bool | exact kitb_NoneType_str | exact kitb_NoneType_list | exact kitb_NoneType_tuple | exact kitb_NoneType_dict | exact kitb_bool_int | exact kitb_bool_bool | exact kitb_bool_str | exact kitb_bool_list | exact kitb_bool_tuple | exact kitb_bool_dict | exact kitb_int_int | exact kitb_int_bool | exact kitb_int_str | exact kitb_int_list | exact kitb_int_tuple | exact kitb_int_dict | exact kitb_str_int | exact kitb_str_bool | exact kitb_str_str | exact kitb_str_list | exact kitb_str_tuple | exact kitb_str_dict | exact kitb_list_int | exact kitb_list_bool | exact kitb_list_str | exact kitb_list_list | exact kitb_list_tuple | exact kitb_list_dict | exact kitb_tuple_int | exact kitb_tuple_bool | exact kitb_tuple_str | exact kitb_tuple_list | exact kitb_tuple_tuple | exact kitb_tuple_dict | exact kitb_dict_int | exact kitb_dict_bool | exact kitb_dict_str | exact kitb_dict_list | exact kitb_dict_tuple | exact kitb_dict_dict)
local macro_rules | `(tactic| ktf_call "tyr") => `(tactic| with_reducible first | exact TyR.int | exact TyR.bl | exact TyR.str | exact TyR.non | exact TyR.tup | ((refine' TyR.lst ?clv); (case clv => ktf_call "vl")))
local macro_rules | `(tactic| ktf_call "vo") => `(tactic| with_reducible first | exact VO.dat | ((refine' VO.own ?cv); (case cv => ktf_call "has")))
local macro_rules | `(tactic| ktf_call "e") => `(tactic| first
  | ((with_reducible show DE _ _ _ _ (.Call (.Name "isinstance" _) _ _ _) _); refine d_isi (by ktf_call "gl") (by ktf_call "mg") ?_)
  | ((with_reducible show DE _ _ _ _ (.Name "int" _) _); refine de_ty (T := "int") (by ktf_call "gl") (by ktf_call "mg") (by decide +kernel) ?_)
  | ((with_reducible show DE _ _ _ _ (.Name "bool" _) _); refine de_ty (T := "bool") (by ktf_call "gl") (by ktf_call "mg") (by decide +kernel) ?_)
  | ((with_reducible show DE _ _ _ _ (.Name "str" _) _); refine de_ty (T := "str") (by ktf_call "gl") (by ktf_call "mg") (by decide +kernel) ?_)
  | ((with_reducible show DE _ _ _ _ (.Name "list" _) _); refine de_ty (T := "list") (by ktf_call "gl") (by ktf_call "mg") (by decide +kernel) ?_)
  | ((with_reducible show DE _ _ _ _ (.Name "tuple" _) _); refine de_ty (T := "tuple") (by ktf_call "gl") (by ktf_call "mg") (by decide +kernel) ?_)
  | ((with_reducible show DE _ _ _ _ (.Name _ _) _); first | refine de_tupG (by assumption) (by assumption) ?_ | refine de_strG (by assumption) (by assumption) ?_ | refine de_intG (by assumption) (by assumption) ?_)
  | ((with_reducible show DE _ _ _ _ (.Attribute _ _ _) _); refine de_fld (by assumption) (by assumption) ?_)
  | ((with_reducible show DE _ _ _ _ (.Call (.Attribute _ "strip" _) _ _ _) _); refine d_stripC ?_)
  | ((with_reducible show DE _ _ _ _ (.Call (.Attribute _ _ _) (_ :: _) _ _) _); refine de_meth (by assumption) (by assumption) ?_ (hjk := by omega))
  | ((with_reducible show DE _ _ _ _ (.Call (.Attribute _ _ _) [] _ _) _); refine de_meth0 (by assumption) (by assumption) ?_ (hjk := by omega))
  | ((with_reducible show DE _ _ _ _ (.Call (.Name "min" _) [_, _] _ _) _); refine d_min2 (by assumption) (by ktf_call "gl") (by ktf_call "mg") ?_)
  | ((with_reducible show DE _ _ _ _ (.Call (.Name "max" _) [_, _] _ _) _); refine d_max2 (by assumption) (by ktf_call "gl") (by ktf_call "mg") ?_)
  | ((with_reducible show DE _ _ _ _ (.Call (.Name _ _) (_ :: _) (_ :: _) _) _); refine de_callK (by assumption) (by assumption) (by ktf_call "gl") ?_ (hjk := by omega))
  | ((with_reducible show DE _ _ _ _ (.Call (.Name _ _) (_ :: _) [] _) _); refine de_make (by assumption) (by assumption) (by ktf_call "gl") ?_ (hjk := by omega))
  | ((with_reducible show DE _ _ _ _ (.Call (.Name _ _) [] [] _) _); refine de_make0 (by assumption) (by assumption) (by ktf_call "gl") ?_ (hjk := by omega))
  | ((with_reducible show DE _ _ _ _ (.Dict [] [] _) _); refine d_new0 fun p => ?_))
local macro_rules | `(tactic| ktf_call "k") => `(tactic| first
  | ((with_reducible refine' Exists.intro _ (Exists.intro _ (Exists.intro _ (Exists.intro _ (And.intro rfl (And.intro ?ty (And.intro ?kb ?_))))))); (case ty => ktf_call "tyr"); (case kb => ktf_call "kitb"))
  | ((with_reducible show ∃ fs r, VO _ _ _ fs ∧ _); refine ⟨_, _, by ktf_call "vo", rfl, ?_⟩)
  | ((with_reducible show (∃ fs, VO _ _ _ fs ∧ _) ∧ _); refine ⟨⟨_, by ktf_call "vo", rfl⟩, ?_⟩)
  | ((with_reducible show DKw _ _ _ _ [] _); refine dk_nil ?_)
  | ((with_reducible show DKw _ _ _ _ (_ :: _) _); refine dk_cons ?_)
  | ((with_reducible show _ ≤ 1000000 ∧ DE _ _ _ _ _ _); refine ⟨by ktf_call "side", ?_⟩))
local macro_rules | `(tactic| ktf_call "s") => `(tactic| first
  | ((with_reducible show DS _ _ _ _ (.Raise _ _ _) _); refine ds_raise (by assumption) (by assumption) (by ktf_call "gl") ?_)
  | ((with_reducible show DS _ _ _ _ (.Assign [.Attribute _ _ _] _ _) _); refine ds_fld (by assumption) (by assumption) ?_)
  | ((with_reducible show DS _ _ _ _ (.Break _) _); refine ds_brk ?_)
  | ((with_reducible show DS _ _ _ _ (.Continue _) _); refine ds_cont ?_)
  | ((with_reducible show DS _ _ _ _ (.Pass _) _); refine ds_pass ?_))
local macro_rules | `(tactic| ktf_call "o") => `(tactic| ((with_reducible refine' o_ninS ?ca ?kk); (case ca => assumption)))
local macro_rules | `(tactic| ktf_call "t") => `(tactic| ((with_reducible show DT _ _ _ _ (.Compare _ [_, _] [_, _] _) _); first | refine dt_chainI L2.op_le L2.op_le ?_ | refine dt_chainI L2.op_lt L2.op_le ?_ | refine dt_chainI L2.op_le L2.op_lt ?_ | refine dt_chainI L2.op_lt L2.op_lt ?_))
local macro_rules | `(tactic| ktf_call "e") => `(tactic| ((with_reducible show DE _ _ _ _ (.Dict [] [] _) _); refine d_newN fun p => ?_))
local macro_rules | `(tactic| ktf_call "e") => `(tactic| first
  | ((with_reducible show DE _ _ _ _ (.Call (.Name "len" _) [.Attribute _ _ _] _ _) _); refine d_lenN (by ktf_call "gl") (by ktf_call "mg") ?_)
  | ((with_reducible show DE _ _ _ _ (.Call (.Attribute _ "setdefault" _) _ _ _) _); refine d_setdefN (by assumption) ?_)
  | ((with_reducible show DE _ _ _ _ (.Call (.Name "sorted" _) _ _ _) _); refine d_sortedN (by assumption) (by ktf_call "gl") (by ktf_call "mg") ?_)
  | ((with_reducible show DE _ _ _ _ (.Call (.Name "tuple" _) _ _ _) _); refine d_tupleL (by ktf_call "gl") (by ktf_call "mg") ?_))
local macro_rules | `(tactic| ktf_call "s") => `(tactic| ((with_reducible show DS _ _ _ _ (.Assign [.Subscript _ _ _] _ _) _); refine ds_setN (by assumption) ?_))
abbrev wkey (l : Nat) (w : List Nat) : List NestedKey := [.num (l : Int), .text (sOf w)]
def wnR (wn : WN) : List (NestedKey × R) := wn.map fun x => (.tup (wkey x.1.1 x.1.2), D2.rI (x.2 : Int))
theorem wkey_inj {l l' : Nat} {w w' : List Nat} : NestedKey.tup (wkey l w) = .tup (wkey l' w') ↔ (l, w) = (l', w') := by
  constructor
  · intro h
    have h1 := NestedKey.tup.inj h
    simp only [wkey, List.cons.injEq, NestedKey.text.injEq, NestedKey.num.injEq, and_true] at h1
    have h2 := sOf_inj h1.2
    rw [h2, show l = l' by omega]
  · intro h; cases h; rfl
theorem wnR_val {wn : WN} {l : Nat} {w : List Nat} : valR (wnR wn) (.tup (wkey l w)) = (wn.find? fun x => decide (x.1 = (l, w))).map fun x => D2.rI (x.2 : Int) := by
  unfold valR wnR
  rw [List.find?_map, Option.map_map]
  have e : ((fun kv : NestedKey × R => decide (kv.1 = .tup (wkey l w))) ∘ fun x : LW × Nat => (NestedKey.tup (wkey x.1.1 x.1.2), D2.rI (x.2 : Int))) = fun x => decide (x.1 = (l, w)) := by
    funext x
    rw [Function.comp, Bool.eq_iff_iff, decide_eq_true_eq, decide_eq_true_eq]
    exact wkey_inj
  rw [e]; rfl
theorem wnR_some {wn : WN} {l : Nat} {w : List Nat} : (valR (wnR wn) (.tup (wkey l w))).isSome = decide ((l, w) ∈ wn.map (·.1)) := by
  rw [wnR_val, Option.isSome_map, Bool.eq_iff_iff, List.find?_isSome, decide_eq_true_eq, List.mem_map]
  constructor
  · rintro ⟨x, hx, e⟩; exact ⟨x, hx, by simpa using e⟩
  · rintro ⟨x, hx, e⟩; exact ⟨x, hx, by simpa using e⟩
theorem wnR_num {wn : WN} {l : Nat} {w : List Nat} (hl : 1 ≤ l) (h : Knows wn l w) : valR (wnR wn) (.tup (wkey l w)) = some (D2.rI (numW wn l w : Int)) := by
  have h2 : (l, w) ∈ wn.map (·.1) := h.elim (fun e => by omega) id
  have := wnR_some (wn := wn) (l := l) (w := w)
  rw [decide_eq_true h2, wnR_val] at this
  rw [wnR_val]
  unfold numW
  rw [if_neg (by omega)]
  cases q : wn.find? fun x => decide (x.1 = (l, w)) with
  | none => rw [q] at this; cases this
  | some x => rfl
theorem wnR_put {wn : WN} {l n : Nat} {w : List Nat} (h : (l, w) ∉ wn.map (·.1)) : putN (wnR wn) (.tup (wkey l w)) (D2.rI (n : Int)) = wnR (wn ++ [((l, w), n)]) := by
  unfold putN
  rw [wnR_some, decide_eq_false h, if_neg (by simp)]
  unfold wnR
  rw [List.map_append]; rfl
theorem wkey_depth (l : Nat) (w : List Nat) : (NestedKey.tup (wkey l w)).depth ≤ 8 := by
  simp [wkey, NestedKey.depth, NestedKey.depthAll]
theorem items_depth (g : List Nat → Nat) (l : Nat) (w : List Nat) : (itemsK g l w).depth ≤ 3 := by
  have key : ∀ ks : List NestedKey, (∀ k ∈ ks, IsTri k) → NestedKey.depthAll ks ≤ 2 := fun ks => by
    induction ks with
    | nil => intro _; simp [NestedKey.depthAll]
    | cons k ks ih =>
      intro h
      obtain ⟨a, c, b, rfl⟩ := h k List.mem_cons_self
      have := ih fun x hx => h x (List.mem_cons_of_mem _ hx)
      rw [NestedKey.depthAll]
      simp [NestedKey.depth, NestedKey.depthAll]
      omega
  unfold itemsK
  split
  · simp [NestedKey.depth]
  · have := key ((trisK g w w.length).mergeSort kLe) fun k hk => tris_in ((List.mergeSort_perm _ _).mem_iff.mp hk)
    rw [NestedKey.depth]; omega
theorem keyK_depth (g : List Nat → Nat) (l : Nat) (w : List Nat) : (keyK g l w).depth ≤ 8 := by
  have := items_depth g l w
  unfold keyK
  rw [NestedKey.depth, NestedKey.depthAll, NestedKey.depthAll, NestedKey.depthAll, NestedKey.depth]
  omega
theorem wnR_len (wn : WN) : (wnR wn).length = wn.length := by simp [wnR]
abbrev bookF (pk pw : Addr) : List (Str × R) := [("kind_numbers", .own pk), ("word_numbers", .own pw)]
abbrev bookM (P : Program) (w : World) (C s dx pk pw : Addr) (kn : List NestedKey) (wn : WN) : Mem := [(s, .ins C dx (bookF pk pw)), (pk, .dn P w pk (bkR kn)), (pw, .dn P w pw (wnR wn))]
abbrev bookT (P : Program) (w : World) (C s dx pk pw : Addr) (kn : List NestedKey) (wn : WN) (pt : Addr) (o : O) : Mem := [(s, .ins C dx (bookF pk pw)), (pk, .dn P w pk (bkR kn)), (pw, .dn P w pw (wnR wn)), (pt, o)]
theorem split3 {a b c : Addr} {x y z : O} {r : Mem} : Split ((a, x) :: (b, y) :: (c, z) :: r) [(a, x), (b, y), (c, z)] r := .cons .here (.cons .here (.cons .here .nil))
/-- what the kind of a word at a level asks -/
def spKind (P : Program) (W : World) (C : Addr) (L : Nat) : Sp2 := fun rs m Kr Ke => ∃ (s dx pk pw : Addr) (Us : List (List Nat)) (kn : List NestedKey) (wn : WN) (l : Nat) (w : List Nat), rs = [.own s, D2.rI (l : Int), rS w] ∧ l ≤ L ∧ L ≤ 8 ∧ w ∈ Us ∧ Closed Us ∧ (Us.length ≤ 60000 ∧ ∀ u ∈ Us, u.length ≤ 1000) ∧ m = bookM P W C s dx pk pw kn wn ∧ Book kn wn ∧ InU Us wn ∧
  ∀ kn' wn', Book kn' wn' → InU Us wn' → Grow l wn wn' → Knows wn' l w → Kr (D2.rI (numW wn' l w : Int)) (bookM P W C s dx pk pw kn' wn')
def spItems (P : Program) (W : World) (C : Addr) (L : Nat) : Sp2 := fun rs m Kr Ke => ∃ (s dx pk pw : Addr) (Us : List (List Nat)) (kn : List NestedKey) (wn : WN) (l : Nat) (w : List Nat), rs = [.own s, D2.rI ((l + 1 : Nat) : Int), rS w] ∧ l ≤ L ∧ L ≤ 7 ∧ w ∈ Us ∧ Closed Us ∧ (Us.length ≤ 60000 ∧ ∀ u ∈ Us, u.length ≤ 1000) ∧ m = bookM P W C s dx pk pw kn wn ∧ Book kn wn ∧ InU Us wn ∧
  ∀ kn' wn', Book kn' wn' → InU Us wn' → Grow l wn wn' → (¬ w.length < 2 ^ l → ∀ p, p < w.length → Knows wn' l (w.take p) ∧ Knows wn' l (w.drop (p + 1))) → Kr (.dat (nD (itemsK (numW wn' l) (l + 1) w))) (bookM P W C s dx pk pw kn' wn')
def spBookInit (P : Program) (W : World) (C : Addr) : Sp2 := fun rs m Kr Ke => ∃ (s dx : Addr), rs = [.own s] ∧ m = [(s, .ins C dx [])] ∧ ∀ pk pw, Kr (.dat .non) (bookM P W C s dx pk pw [] [])
def trR (ks : List NestedKey) : List (NestedKey × R) := ks.map fun k => (k, rB true)
theorem trR_some {ks : List NestedKey} {k : NestedKey} : (valR (trR ks) k).isSome = decide (k ∈ ks) := by
  unfold valR trR
  rw [Option.isSome_map, Bool.eq_iff_iff, List.find?_isSome, decide_eq_true_eq]
  constructor
  · rintro ⟨x, hx, e⟩
    obtain ⟨y, hy, rfl⟩ := List.mem_map.mp hx
    have : y = k := by simpa using e
    rw [← this]; exact hy
  · intro h; exact ⟨_, List.mem_map_of_mem h, by simp⟩
theorem trR_put {ks : List NestedKey} {k : NestedKey} : putN (trR ks) k (rB true) = trR (if k ∈ ks then ks else ks ++ [k]) := by
  unfold putN
  rw [trR_some]
  by_cases h : k ∈ ks
  · rw [if_pos (by simpa using h), if_pos h]
    unfold trR
    rw [List.map_map]
    refine List.map_congr_left fun x hx => ?_
    show (if x = k then (x, rB true) else (x, rB true)) = _
    split <;> rfl
  · rw [if_neg (by simpa using h), if_neg h]
    unfold trR
    rw [List.map_append]; rfl
theorem trR_len (ks : List NestedKey) : (trR ks).length = ks.length := by simp [trR]
theorem split_app : ∀ m r : Mem, Split (m ++ r) m r
  | [], _ => .nil
  | (_, _) :: m, r => .cons .here (split_app m r)
theorem perm4 {α : Type} {a b c d : α} : [a, b, c, d].Perm [b, c, d, a] := (List.Perm.swap b a [c, d]).trans (((List.Perm.swap c a [d]).trans ((List.Perm.swap d a []).cons c)).cons b)
theorem trR_keys (ks : List NestedKey) : (trR ks).map (·.1) = ks := by
  unfold trR; rw [List.map_map]; exact List.map_id ks
theorem trR_data (ks : List NestedKey) : (trR ks).map (·.1.data) = ks.map NestedKey.data := by
  unfold trR; rw [List.map_map]; rfl
theorem tri_alike {ks : List NestedKey} (h : ∀ k ∈ ks, IsTri k) : PySem.W.AllAlike (ks.map NestedKey.data) := fun d hd d' hd' => by
  obtain ⟨k, hk, rfl⟩ := List.mem_map.mp hd
  obtain ⟨k', hk', rfl⟩ := List.mem_map.mp hd'
  obtain ⟨a, c, b, rfl⟩ := h k hk
  obtain ⟨a', c', b', rfl⟩ := h k' hk'
  rfl
theorem tri_sortable {ks : List NestedKey} (h : ∀ k ∈ ks, IsTri k) : PySem.W.Sortable (ks.map NestedKey.data) := .inl fun d hd => by
  obtain ⟨k, hk, rfl⟩ := List.mem_map.mp hd
  obtain ⟨a, c, b, rfl⟩ := h k hk
  exact ⟨_, _, rfl⟩
theorem nDs_rN (ks : List NestedKey) : ks.map rN = (nDs ks).map R.dat := by rw [nDs_map, List.map_map]; rfl
section
variable {P : Program} {w : World} {K : PySem.W.Frag} {mg : Str → Option Value} {base : Heap} {f : Addr} {fd : FuncData}
theorem sc_RankBook___init__ : FnScope ["self"] ["self"] (defScope (clsDef (top 16) 0)) := ⟨rfl, rfl, rfl, by decide +kernel, rfl, by decide +kernel, by decide +kernel⟩
theorem ok_bookInit {C_RankBook : Addr} (F : FunD K "__init__" "RankBook.__init__" (defArgs (clsDef (top 16) 0)) (defBody (clsDef (top 16) 0)) (defScope (clsDef (top 16) 0)) [] [] f fd) (k_RankBook : Cls K C_RankBook) (n_RankBook_kind_numbers : NoAttr K C_RankBook "kind_numbers") (n_RankBook_word_numbers : NoAttr K C_RankBook "word_numbers") : FnOk P w K mg base (L2N.CX P w) (1) f fd ["self"] (spOf K (spBookInit P w C_RankBook)) := by
  refine fn2 F sc_RankBook___init__ (by decide +kernel) (fun rs m Kr Ke ⟨_, _, e, _⟩ => by rw [e]; rfl) fun X c rs m Kr Ke D L hx ⟨s, dx, er, em, hk⟩ => ?_
  subst er em
  have kk_RankBook : Cls X.K C_RankBook := D.cls k_RankBook
  have nn_RankBook_kind_numbers : NoAttr X.K C_RankBook "kind_numbers" := D.noat n_RankBook_kind_numbers
  have nn_RankBook_word_numbers : NoAttr X.K C_RankBook "word_numbers" := D.noat n_RankBook_word_numbers
  refine dss_lo ?_
  show DSs X c [("self", some (.own s))] [(s, .ins C_RankBook dx [])] (_ :: _) _
  obtain ⟨eP, eW⟩ : P = X.prog ∧ w = X.w := ⟨D.prog.symm, D.w.symm⟩
  subst eP eW
  ktf_call "d2"
  refine ⟨_, _, _, _, rfl, by ktf_call "chg", by decide, ?_⟩
  ktf_call "d2"
  refine ⟨_, _, _, _, rfl, by ktf_call "chg", Nat.lt_of_le_of_lt (Nat.le_refl 1) (by decide), ?_⟩
  refine dss_perm perm3 ?_
  ktf_call "d2"
  exact ⟨_, _, Fog.refl _, List.Sublist.refl _, hk _ _⟩
theorem sc_RankBook_rank_kind : FnScope ["self", "level", "word", "key"] ["self", "level", "word"] (defScope (clsDef (top 16) 1)) := ⟨rfl, rfl, rfl, by decide +kernel, rfl, by decide +kernel, by decide +kernel⟩
theorem ok_rankKind {C_RankBook : Addr} {n : Nat} (F : FunD K "rank_kind" "RankBook.rank_kind" (defArgs (clsDef (top 16) 1)) (defBody (clsDef (top 16) 1)) (defScope (clsDef (top 16) 1)) [] [] f fd) (m0_len : mg "len" = none) (k_RankBook : Cls K C_RankBook) (n_RankBook_kind_numbers : NoAttr K C_RankBook "kind_numbers") (n_RankBook_word_numbers : NoAttr K C_RankBook "word_numbers") (c_RankBook_rank_items : CalleeM P w K mg base C_RankBook "rank_items" (2 * n + 2) (spItems P w C_RankBook n)) : FnOk P w K mg base (L2N.CX P w) (2 * n + 3) f fd ["self", "level", "word"] (spOf K (spKind P w C_RankBook (n + 1))) := by
  refine fn2 F sc_RankBook_rank_kind (by decide +kernel) (fun rs m Kr Ke ⟨_, _, _, _, _, _, _, _, _, e, _⟩ => by rw [e]; rfl) fun X c rs m Kr Ke D L hx ⟨s, dx, pk, pw, Us, kn, wn, l, u, er, hl, h8, hu, hc, hus, em, hB, hU, hk⟩ => ?_
  subst er em
  have m_len : X.mg "len" = none := D.mg_ m0_len
  have kk_RankBook : Cls X.K C_RankBook := D.cls k_RankBook
  have nn_RankBook_kind_numbers : NoAttr X.K C_RankBook "kind_numbers" := D.noat n_RankBook_kind_numbers
  have nn_RankBook_word_numbers : NoAttr X.K C_RankBook "word_numbers" := D.noat n_RankBook_word_numbers
  have e_RankBook_rank_items : CalleeM X.prog X.w X.K X.mg X.base C_RankBook "rank_items" (2 * n + 2) (spItems P w C_RankBook n) := D.calleeM c_RankBook_rank_items
  have g_len : Gl X "len" := D.gl (by decide +kernel)
  have o_key : Own X "key" := D.own (by decide +kernel)
  refine dss_lo ?_
  show DSs X c [("self", some (.own s)), ("level", some (D2.rI (l : Int))), ("word", some (rS u)), ("key", none)] (bookM P w C_RankBook s dx pk pw kn wn) (_ :: _) _
  obtain ⟨eP, eW⟩ : P = X.prog ∧ w = X.w := ⟨D.prog.symm, D.w.symm⟩
  subst eP eW
  ktf_call "d2"
  · rename_i hyp
    have e0 : l = 0 := by omega
    subst e0
    exact ⟨_, List.Sublist.refl _, hk kn wn hB hU (Grow.refl _ _) (.inl rfl)⟩
  · rename_i hyp
    obtain ⟨l, rfl⟩ : ∃ l', l = l' + 1 := ⟨l - 1, by omega⟩
    refine o_ninN (ks := wkey (l + 1) u) L (.there (.there .here)) (wkey_depth _ _) ?_
    rw [wnR_some]
    ktf_call "d2"
    · rename_i hyp2
      refine ⟨bookM X.prog X.w C_RankBook s dx pk pw kn wn, [], split_all _, s, dx, pk, pw, Us, kn, wn, l, u, rfl, by omega, by omega, hu, hc, hus, rfl, hB, hU, fun kn1 wn1 hB1 hU1 hG1 hs1 => ?_⟩
      have hsz := hB1.size hU1
      have hkl := hB1.kl
      have hn1 : (l + 1, u) ∉ wn1.map (·.1) := by
        obtain ⟨more, e, hm⟩ := hG1
        rw [e, List.map_append, List.mem_append]
        rintro (q | q)
        · exact hyp2 q
        · obtain ⟨x, hx, ex⟩ := List.mem_map.mp q
          have := hm x hx
          rw [ex] at this
          exact absurd this (by show ¬ l + 1 ≤ l; omega)
      simp only [List.append_nil]
      ktf_call "d2"
      refine ⟨by rw [bk_len]; omega, ?_⟩
      rw [bk_len]
      ktf_call "d2"
      have fin : ∀ (kn2 : List NestedKey) (n2 : Nat), ((keyK (numW wn1 l) (l + 1) u ∈ kn1 ∧ kn2 = kn1 ∧ n2 = kn1.idxOf (keyK (numW wn1 l) (l + 1) u)) ∨ (keyK (numW wn1 l) (l + 1) u ∉ kn1 ∧ kn2 = kn1 ++ [keyK (numW wn1 l) (l + 1) u] ∧ n2 = kn1.length)) →
          Kr (D2.rI (numW (wn1 ++ [((l + 1, u), n2)]) (l + 1) u : Int)) (bookM X.prog X.w C_RankBook s dx pk pw kn2 (wn1 ++ [((l + 1, u), n2)])) ∧ numW (wn1 ++ [((l + 1, u), n2)]) (l + 1) u = n2 ∧ Knows (wn1 ++ [((l + 1, u), n2)]) (l + 1) u := fun kn2 n2 hk2 => by
        obtain ⟨b1, b2, b3, b4⟩ := hB1.put (l := l + 1) (w := u) (by omega) hn1 hs1 hk2
        refine ⟨hk _ _ b1 (fun x hx => ?_) ((hG1.le (by omega)).trans b2) b3, b4, b3⟩
        rcases List.mem_append.mp hx with q | q
        · exact hU1 x q
        · rw [List.mem_singleton.mp q]; exact ⟨by show l + 1 ≤ 8; omega, hu⟩
      refine ⟨[.num ((l + 1 : Nat) : Int), itemsK (numW wn1 l) (l + 1) u], bkR kn1, _, rfl, keyK_depth _ _ _, by rw [bk_len]; omega, ⟨_, .there .here⟩, fun r hr => ?_, fun hn => ⟨_, .there .here, ?_⟩⟩
      · have hin : keyK (numW wn1 l) (l + 1) u ∈ kn1 := by
          have := bk_some kn1 (keyK (numW wn1 l) (l + 1) u)
          rw [show valR (bkR kn1) (keyK (numW wn1 l) (l + 1) u) = some r from hr] at this
          exact of_decide_eq_true this.symm
        have er := bk_val kn1 0 _ hin
        rw [show valR (bkF 0 kn1) (keyK (numW wn1 l) (l + 1) u) = some r from hr, Nat.zero_add] at er
        cases er
        obtain ⟨f1, f2, f3⟩ := fin kn1 _ (.inl ⟨hin, rfl, rfl⟩)
        ktf_call "d2"
        refine ⟨pw, wnR wn1, wkey (l + 1) u, _, rfl, rfl, wkey_depth _ _, .there (.there .here), by rw [wnR_len]; omega, ?_⟩
        rw [wnR_put hn1]
        ktf_call "d2"
        refine x_dn (ks := wkey (l + 1) u) L (.there (.there .here)) (wkey_depth _ _) (wnR_num (by omega) f3) ?_
        exact ⟨_, List.Sublist.refl _, f1⟩
      · have hin : keyK (numW wn1 l) (l + 1) u ∉ kn1 := by
          have := bk_some kn1 (keyK (numW wn1 l) (l + 1) u)
          rw [show valR (bkR kn1) (keyK (numW wn1 l) (l + 1) u) = none from hn] at this
          exact of_decide_eq_false this.symm
        obtain ⟨f1, f2, f3⟩ := fin _ _ (.inr ⟨hin, rfl, rfl⟩)
        rw [show putN (bkF 0 kn1) (NestedKey.tup [.num ((l + 1 : Nat) : Int), itemsK (numW wn1 l) (l + 1) u]) (D2.rI (kn1.length : Int)) = bkR (kn1 ++ [keyK (numW wn1 l) (l + 1) u]) from bk_put hin]
        ktf_call "d2"
        refine ⟨pw, wnR wn1, wkey (l + 1) u, _, rfl, rfl, wkey_depth _ _, .there (.there .here), by rw [wnR_len]; omega, ?_⟩
        rw [wnR_put hn1]
        ktf_call "d2"
        refine x_dn (ks := wkey (l + 1) u) L (.there (.there .here)) (wkey_depth _ _) (wnR_num (by omega) f3) ?_
        exact ⟨_, List.Sublist.refl _, f1⟩
    · rename_i hyp2
      refine x_dn (ks := wkey (l + 1) u) L (.there (.there .here)) (wkey_depth _ _) (wnR_num (by omega) (.inr hyp2)) ?_
      exact ⟨_, List.Sublist.refl _, hk kn wn hB hU (Grow.refl _ _) (.inr hyp2)⟩
theorem sc_RankBook_rank_items : FnScope ["self", "level", "word", "triples", "place", "letter", "left", "right"] ["self", "level", "word"] (defScope (clsDef (top 16) 2)) := ⟨rfl, rfl, rfl, by decide +kernel, rfl, by decide +kernel, by decide +kernel⟩
theorem ok_rankItems {C_RankBook : Addr} {n : Nat} (F : FunD K "rank_items" "RankBook.rank_items" (defArgs (clsDef (top 16) 2)) (defBody (clsDef (top 16) 2)) (defScope (clsDef (top 16) 2)) [] [] f fd) (m0_len : mg "len" = none) (m0_enumerate : mg "enumerate" = none) (m0_tuple : mg "tuple" = none) (m0_sorted : mg "sorted" = none) (c_RankBook_rank_kind : CalleeM P w K mg base C_RankBook "rank_kind" (2 * n + 1) (spKind P w C_RankBook n)) : FnOk P w K mg base (L2N.CX P w) (2 * n + 2) f fd ["self", "level", "word"] (spOf K (spItems P w C_RankBook n)) := by
  refine fn2 F sc_RankBook_rank_items (by decide +kernel) (fun rs m Kr Ke ⟨_, _, _, _, _, _, _, _, _, e, _⟩ => by rw [e]; rfl) fun X c rs m Kr Ke D L hx ⟨s, dx, pk, pw, Us, kn, wn, l, u, er, hl, h8, hu, hc, hus, em, hB, hU, hk⟩ => ?_
  subst er em
  have m_len : X.mg "len" = none := D.mg_ m0_len
  have m_enumerate : X.mg "enumerate" = none := D.mg_ m0_enumerate
  have m_tuple : X.mg "tuple" = none := D.mg_ m0_tuple
  have m_sorted : X.mg "sorted" = none := D.mg_ m0_sorted
  have e_RankBook_rank_kind : CalleeM X.prog X.w X.K X.mg X.base C_RankBook "rank_kind" (2 * n + 1) (spKind P w C_RankBook n) := D.calleeM c_RankBook_rank_kind
  have g_len : Gl X "len" := D.gl (by decide +kernel)
  have g_enumerate : Gl X "enumerate" := D.gl (by decide +kernel)
  have g_tuple : Gl X "tuple" := D.gl (by decide +kernel)
  have g_sorted : Gl X "sorted" := D.gl (by decide +kernel)
  have o_triples : Own X "triples" := D.own (by decide +kernel)
  have o_place : Own X "place" := D.own (by decide +kernel)
  have o_letter : Own X "letter" := D.own (by decide +kernel)
  have o_left : Own X "left" := D.own (by decide +kernel)
  have o_right : Own X "right" := D.own (by decide +kernel)
  refine dss_lo ?_
  show DSs X c [("self", some (.own s)), ("level", some (D2.rI ((l + 1 : Nat) : Int))), ("word", some (rS u)), ("triples", none), ("place", none), ("letter", none), ("left", none), ("right", none)] (bookM P w C_RankBook s dx pk pw kn wn) (_ :: _) _
  obtain ⟨eP, eW⟩ : P = X.prog ∧ w = X.w := ⟨D.prog.symm, D.w.symm⟩
  subst eP eW
  have hul := hus.2 u hu
  ktf_call "d2"
  rw [show (((l + 1 : Nat) : Int) - 1) = (l : Int) by omega]
  refine o_shl1 (by omega) ?_
  ktf_call "d2"
  · rename_i hyp
    have hs : u.length < 2 ^ l := by exact_mod_cast hyp
    refine ⟨_, List.Sublist.refl _, ?_⟩
    have := hk kn wn hB hU (Grow.refl _ _) fun q => absurd hs q
    rw [show itemsK (numW wn l) (l + 1) u = .text (sOf u) by unfold itemsK; rw [Nat.add_sub_cancel, if_pos hs]] at this
    exact this
  · rename_i hyp pt
    have hs : ¬ u.length < 2 ^ l := by
      have : ((2 ^ l : Nat) : Int) ≤ (u.length : Int) := hyp
      omega
    refine ds_perm (m' := bookT X.prog X.w C_RankBook s dx pk pw kn wn pt (.dn X.prog X.w pt [])) perm4 ?_
    refine ds_for (ds := enumS u) (fun i σ m => ∃ kn1 wn1, σ = ([("self", some (.own s)), ("level", some (D2.rI ((l + 1 : Nat) : Int))), ("word", some (rS u)), ("triples", some (.own pt)), ("place", none), ("letter", none), ("left", none), ("right", none)] : Sl) ∧ m = bookT X.prog X.w C_RankBook s dx pk pw kn1 wn1 pt (.dn X.prog X.w pt (trR (trisK (numW wn1 l) u i))) ∧ Book kn1 wn1 ∧ InU Us wn1 ∧ Grow l wn wn1 ∧ ∀ p, p < i → Knows wn1 l (u.take p) ∧ Knows wn1 l (u.drop (p + 1))) L (it_enumS (by assumption) (by assumption) ?_) ?_ ?_
    · ktf_call "d2"
      exact ⟨rfl, kn, wn, rfl, rfl, hB, hU, Grow.refl _ _, fun p hp => absurd hp (Nat.not_lt_zero _)⟩
    · rintro i d σ' m' hd ⟨kn1, wn1, rfl, rfl, hB1, hU1, hG1, hK1⟩
      obtain ⟨hi, rfl⟩ := enumS_at hd
      have e1 : (((l + 1 : Nat) : Int) - 1) = (l : Int) := by omega
      have e3 : ((i : Int) + 1) = ((i + 1 : Nat) : Int) := by omega
      refine dg_tup L.calm rfl ?_
      refine dgs_cons (dg_name o_place (by ktf_call "put") ?_)
      refine dgs_cons (dg_name o_letter (by ktf_call "put") ?_)
      refine dgs_nil ?_
      refine dss_lo ?_
      ktf_call "d2"
      refine ⟨bookM X.prog X.w C_RankBook s dx pk pw kn1 wn1, _, split3, s, dx, pk, pw, Us, kn1, wn1, l, u.take i, by rw [e1, cut_to], by omega, by omega, (hc u hu i).1, hc, hus, rfl, hB1, hU1, fun kn2 wn2 hB2 hU2 hG2 hk2 => ?_⟩
      dsimp only [bookM, List.cons_append, List.nil_append]
      ktf_call "d2"
      refine ⟨bookM X.prog X.w C_RankBook s dx pk pw kn2 wn2, _, split3, s, dx, pk, pw, Us, kn2, wn2, l, u.drop (i + 1), by rw [e1, e3, cut_from], by omega, by omega, (hc u hu _).2, hc, hus, rfl, hB2, hU2, fun kn3 wn3 hB3 hU3 hG3 hk3 => ?_⟩
      dsimp only [bookM, List.cons_append, List.nil_append]
      rw [← hG3.num hk2]
      have et : trisK (numW wn1 l) u i = trisK (numW wn3 l) u i := tris_eq fun p hp => ⟨((hG2.trans hG3).num (hK1 p hp).1).symm, ((hG2.trans hG3).num (hK1 p hp).2).symm⟩
      rw [et]
      ktf_call "d2"
      have hl3 := tris_len (numW wn3 l) u i
      refine ⟨pt, trR (trisK (numW wn3 l) u i), [.num (numW wn3 l (u.take i) : Int), .text (sOf [u[i]]), .num (numW wn3 l (u.drop (i + 1)) : Int)], _, rfl, rfl, by simp [NestedKey.depth, NestedKey.depthAll], .there (.there (.there .here)), by rw [trR_len]; omega, ?_⟩
      rw [trR_put, show NestedKey.tup [.num (numW wn3 l (u.take i) : Int), .text (sOf [u[i]]), .num (numW wn3 l (u.drop (i + 1)) : Int)] = triK (numW wn3 l) u i by unfold triK; rw [List.getD_eq_getElem?_getD, List.getElem?_eq_getElem hi]; rfl, ← tris_snoc]
      ktf_call "d2"
      refine ⟨_, _, by ktf_call "fog", List.Sublist.refl _, kn3, wn3, rfl, rfl, hB3, hU3, (hG1.trans hG2).trans hG3, fun p hp => ?_⟩
      by_cases q : p = i
      · subst q; exact ⟨hG3.knows hk2, hk3⟩
      · have := hK1 p (by omega)
        exact ⟨(hG2.trans hG3).knows this.1, (hG2.trans hG3).knows this.2⟩
    · rintro σ' m' ⟨kn1, wn1, rfl, rfl, hB1, hU1, hG1, hK1⟩
      rw [enumS_len] at hK1 ⊢
      have hl1 := tris_len (numW wn1 l) u u.length
      ktf_call "d2"
      rw [trR_data, trR_keys]
      refine ⟨tri_alike fun k hk => tris_in hk, tri_sortable fun k hk => tris_in hk, by rw [trR_len]; omega, fun p => ⟨nDs ((trisK (numW wn1 l) u u.length).mergeSort kLe), ?_, ?_⟩⟩
      · rw [← nDs_rN]
        exact .own .here
      · have := hk kn1 wn1 hB1 hU1 hG1 fun _ => hK1
        rw [show itemsK (numW wn1 l) (l + 1) u = .tup ((trisK (numW wn1 l) u u.length).mergeSort kLe) by unfold itemsK; rw [Nat.add_sub_cancel, if_neg hs]] at this
        exact ⟨_, .cons _ (.cons_cons _ (.cons_cons _ (.cons_cons _ (.cons _ .slnil)))), this⟩
end
end NC
/-! ## NRank2 -/
set_option Elab.async false
set_option linter.all false
set_option maxRecDepth 100000
set_option maxHeartbeats 2000000
set_option pp.maxSteps 1500
/-! rank kinds: all levels; alike, apart -/
namespace NC
open PySem PySem.Spec PyProof.Rows L2 D2 RK
local macro_rules | `(tactic| ktf_call "lk") => `(tactic| (with_reducible first | exact Lk.here | exact (Lk.there Lk.here) | exact (Lk.there (Lk.there Lk.here)) | exact (Lk.there (Lk.there (Lk.there Lk.here))) | exact (Lk.there (Lk.there (Lk.there (Lk.there Lk.here)))) | exact (Lk.there (Lk.there (Lk.there (Lk.there (Lk.there Lk.here))))) | exact (Lk.there (Lk.there (Lk.there (Lk.there (Lk.there (Lk.there Lk.here)))))) | exact (Lk.there (Lk.there (Lk.there (Lk.there (Lk.there (Lk.there (Lk.there Lk.here))))))) | exact (Lk.there (Lk.there (Lk.there (Lk.there (Lk.there (Lk.there (Lk.there (Lk.there Lk.here)))))))) | exact (Lk.there (Lk.there (Lk.there (Lk.there (Lk.there (Lk.there (Lk.there (Lk.there (Lk.there Lk.here))))))))) | exact (Lk.there (Lk.there (Lk.there (Lk.there (Lk.there (Lk.there (Lk.there (Lk.there (Lk.there (Lk.there Lk.here)))))))))) | exact (Lk.there (Lk.there (Lk.there (Lk.there (Lk.there (Lk.there (Lk.there (Lk.there (Lk.there (Lk.there (Lk.there Lk.here))))))))))) | exact (Lk.there (Lk.there (Lk.there (Lk.there (Lk.there (Lk.there (Lk.there (Lk.there (Lk.there (Lk.there (Lk.there (Lk.there Lk.here)))))))))))) | exact (Lk.there (Lk.there (Lk.there (Lk.there (Lk.there (Lk.there (Lk.there (Lk.there (Lk.there (Lk.there (Lk.there (Lk.there (Lk.there Lk.here))))))))))))) | fail "none"))
local macro_rules | `(tactic| ktf_call "put") => `(tactic| (with_reducible first | exact PutF.here | exact (PutF.there PutF.here) | exact (PutF.there (PutF.there PutF.here)) | exact (PutF.there (PutF.there (PutF.there PutF.here))) | exact (PutF.there (PutF.there (PutF.there (PutF.there PutF.here)))) | exact (PutF.there (PutF.there (PutF.there (PutF.there (PutF.there PutF.here))))) | exact (PutF.there (PutF.there (PutF.there (PutF.there (PutF.there (PutF.there PutF.here)))))) | exact (PutF.there (PutF.there (PutF.there (PutF.there (PutF.there (PutF.there (PutF.there PutF.here))))))) | exact (PutF.there (PutF.there (PutF.there (PutF.there (PutF.there (PutF.there (PutF.there (PutF.there PutF.here)))))))) | exact (PutF.there (PutF.there (PutF.there (PutF.there (PutF.there (PutF.there (PutF.there (PutF.there (PutF.there PutF.here))))))))) | exact (PutF.there (PutF.there (PutF.there (PutF.there (PutF.there (PutF.there (PutF.there (PutF.there (PutF.there (PutF.there PutF.here)))))))))) | exact (PutF.there (PutF.there (PutF.there (PutF.there (PutF.there (PutF.there (PutF.there (PutF.there (PutF.there (PutF.there (PutF.there PutF.here))))))))))) | exact (PutF.there (PutF.there (PutF.there (PutF.there (PutF.there (PutF.there (PutF.there (PutF.there (PutF.there (PutF.there (PutF.there (PutF.there PutF.here)))))))))))) | exact (PutF.there (PutF.there (PutF.there (PutF.there (PutF.there (PutF.there (PutF.there (PutF.there (PutF.there (PutF.there (PutF.there (PutF.there (PutF.there PutF.here))))))))))))) | fail "none"))
local macro_rules | `(tactic| ktf_call "has") => `(tactic| (with_reducible first | exact Has.here | exact (Has.there Has.here) | exact (Has.there (Has.there Has.here)) | exact (Has.there (Has.there (Has.there Has.here))) | exact (Has.there (Has.there (Has.there (Has.there Has.here)))) | exact (Has.there (Has.there (Has.there (Has.there (Has.there Has.here))))) | exact (Has.there (Has.there (Has.there (Has.there (Has.there (Has.there Has.here)))))) | exact (Has.there (Has.there (Has.there (Has.there (Has.there (Has.there (Has.there Has.here))))))) | fail "none"))
local macro_rules | `(tactic| ktf_call "chg") => `(tactic| (with_reducible first | exact Chg.here | exact (Chg.there Chg.here) | exact (Chg.there (Chg.there Chg.here)) | exact (Chg.there (Chg.there (Chg.there Chg.here))) | exact (Chg.there (Chg.there (Chg.there (Chg.there Chg.here)))) | exact (Chg.there (Chg.there (Chg.there (Chg.there (Chg.there Chg.here))))) | exact (Chg.there (Chg.there (Chg.there (Chg.there (Chg.there (Chg.there Chg.here)))))) | exact (Chg.there (Chg.there (Chg.there (Chg.there (Chg.there (Chg.there (Chg.there Chg.here))))))) | fail "none"))
local macro_rules | `(tactic| ktf_call "vl") => `(tactic| first | ((with_reducible refine' VL.own ?cv); (case cv => ktf_call "has")) | with_reducible exact VL.dat | fail "vl")
local macro_rules | `(tactic| ktf_call "vu") => `(tactic| ((with_reducible refine' VU.own ?cv); (case cv => ktf_call "has")))
local macro_rules | `(tactic| ktf_call "ati") => `(tactic| first | assumption | exact ati_l rfl | fail "ati")
local macro_rules | `(tactic| ktf_call "vi") => `(tactic| first | with_reducible exact vi_dat | ((with_reducible refine' vi_own ?cv); (case cv => ktf_call "has")) | ((with_reducible refine' vi_nil ?cv); (case cv => ktf_call "vl")) | fail "vi")
local macro_rules | `(tactic| ktf_call "vs") => `(tactic| first | with_reducible exact vs_dat | ((with_reducible refine' vs_own ?cv); (case cv => ktf_call "has")) | ((with_reducible refine' vs_nil ?cv); (case cv => ktf_call "vl")) | fail "vs")
local macro_rules | `(tactic| ktf_call "hyp") => `(tactic| simp only [decide_eq_true_eq, decide_eq_false_iff_not, Bool.not_eq_true', Bool.not_eq_false', Bool.not_true, Bool.not_false, Bool.true_eq_false, Bool.false_eq_true, Int.not_lt, Int.not_le] at *)
local macro_rules | `(tactic| ktf_call "side") => `(tactic| first | assumption | decide | omega | (simp only [List.length_cons, List.length_nil, List.length_map]; omega) | exact ⟨Int.emod_nonneg _ (by omega), Int.emod_lt_of_pos _ (by omega)⟩ | (decide +kernel) | (simp; done) | (simp; omega))
local macro_rules | `(tactic| ktf_call "cmul") => `(tactic| first | assumption | exact cm_l (by omega) (by omega) | exact cm_r (by omega) (by omega) | fail "cmul")
local macro_rules | `(tactic| ktf_call "cdiv") => `(tactic| first | assumption | exact ⟨by assumption, by assumption⟩ | exact cd_s (by omega) (by omega) | fail "cdiv")
local macro_rules | `(tactic| ktf_call "frz") => `(tactic| (repeat (first | exact Frz.dat | exact Frzs.nil | apply Frzs.cons | apply Frz.lst | exact Frzs.map _ _)))
local macro_rules | `(tactic| ktf_call "ln") => `(tactic| first | ((with_reducible refine' ln_I ?cv); (case cv => ktf_call "vi")) | ((with_reducible refine' ln_S ?cv); (case cv => ktf_call "vs")) | ((with_reducible refine' Ln.lst ?cv); (case cv => ktf_call "vl")) | ((with_reducible refine' Ln.str ?cv); (case cv => ktf_call "side")) | with_reducible exact Ln.tup | fail "ln")
local macro_rules | `(tactic| ktf_call "tym") => `(tactic| first | with_reducible exact TyM.str | with_reducible exact TyM.lst (by ktf_call "vl") | with_reducible exact TyM.int | with_reducible exact TyM.dk (by ktf_call "has"))
local macro_rules | `(tactic| ktf_call "gl") => `(tactic| first | assumption | exact Def.gl (by assumption) (by decide +kernel) | exact IsBlk.gl (by assumption) (by decide +kernel) | exact IsBlkH.gl (by assumption) (by decide +kernel) | fail "gl")
local macro_rules | `(tactic| ktf_call "mg") => `(tactic| first | assumption | exact Def.mg_ (by assumption) (by assumption) | exact IsBlk.mg (by assumption) (by ktf_call "mg") | exact IsBlkH.mg (by assumption) (by ktf_call "mg") | fail "mg")
local macro_rules | `(tactic| ktf_call "own") => `(tactic| first | assumption | exact Def.own (by assumption) (by decide +kernel) | fail "own")
local macro_rules | `(tactic| ktf_call "cal") => `(tactic| first | assumption | exact Def.callee (by assumption) (by assumption) | exact IsBlk.callee (by assumption) (by ktf_call "cal") | fail "cal")
local macro_rules | `(tactic| ktf_call "fog") => `(tactic| (repeat (first | with_reducible exact Fog.nil | with_reducible apply Fog.keep | with_reducible apply Fog.drop)))
local macro_rules | `(tactic| ktf_call "blk") => `(tactic| first | with_reducible exact Blk.nil | exact Blk.keep (by decide +kernel) (by ktf_call "blk") | exact Blk.drop (by ktf_call "blk"))
local macro_rules | `(tactic| ktf_call "sub") => `(tactic| (repeat (with_reducible first | exact List.Sublist.slnil | exact List.nil_sublist _ | exact sub_nil _ | apply List.Sublist.cons_cons | apply List.Sublist.cons)))
local macro_rules | `(tactic| ktf_call "ce") => `(tactic| fail "ce")
-- expressions
local macro_rules | `(tactic| ktf_call "e") => `(tactic| first
  | ((with_reducible show DE _ _ _ _ (.Name _ _) _); refine de_name (by ktf_call "lk") ?_)
  | ((with_reducible show DE _ _ _ _ (.Constant _ _ _) _); first | refine de_int ?_ | refine de_str ?_ | refine de_bl ?_ | refine de_non ?_)
  | ((with_reducible show DE _ _ _ _ (.BinOp _ _ _ _) _); refine de_bin ?_)
  | ((with_reducible show DE _ _ _ _ (.Subscript _ (.Slice _ _ none _) _) _); refine d_slice ?_)
  | ((with_reducible show DE _ _ _ _ (.Subscript _ _ _) _); refine de_ix ?_)
  | ((with_reducible show DE _ _ _ _ (.Call (.Name _ _) _ _ _) _); first
      | ((with_reducible show DE _ _ _ _ (.Call (.Name "len" _) _ _ _) _); refine d_len (by ktf_call "gl") (by ktf_call "mg") ?_)
      | ((with_reducible show DE _ _ _ _ (.Call (.Name "int" _) _ _ _) _); refine d_int (by ktf_call "gl") (by ktf_call "mg") ?_)
      | ((with_reducible show DE _ _ _ _ (.Call (.Name "abs" _) _ _ _) _); refine d_abs (by ktf_call "gl") (by ktf_call "mg") ?_)
      | ktf_call "ce"
      | refine de_call (by ktf_call "cal") (by assumption) (by ktf_call "gl") ?_ (hjk := by omega))
  | ((with_reducible show DE _ _ _ _ (.Call (.Attribute _ "join" _) _ _ _) _); refine d_join ?_)
  | ((with_reducible show DE _ _ _ _ (.Call (.Attribute _ "append" _) _ _ _) _); refine d_appendL ?_)
  | ((with_reducible show DE _ _ _ _ (.Call (.Attribute _ "extend" _) _ _ _) _); refine d_extendL ?_)
  | ((with_reducible show DE _ _ _ _ (.Call (.Attribute _ "find" _) [_, _] _ _) _); refine d_find3 ?_)
  | ((with_reducible show DE _ _ _ _ (.Compare _ [_] [_] _) _); refine de_cmp ?_)
  | ((with_reducible show DE _ _ _ _ (.BoolOp _ [_] _) _); refine de_bo1 ?_)
  | ((with_reducible show DE _ _ _ _ (.BoolOp .And _ _) _); refine de_and ?_)
  | ((with_reducible show DE _ _ _ _ (.BoolOp .Or _ _) _); refine de_or ?_)
  | ((with_reducible show DE _ _ _ _ (.UnaryOp .Not _ _) _); refine de_not ?_)
  | ((with_reducible show DE _ _ _ _ (.UnaryOp _ _ _) _); refine de_un ?_)
  | ((with_reducible show DE _ _ _ _ (.List _ _) _); refine de_lst ?_)
  | ((with_reducible show DE _ _ _ _ (.Tuple _ _ _) _); refine de_tup ?_)
  | ((with_reducible show DE _ _ _ _ (.IfExp _ _ _ _) _); refine de_if ?_))
local macro_rules | `(tactic| ktf_call "o") => `(tactic| first
  | ((with_reducible show OP _ _ _ _ (binaryOp _) _ _ _); first
    | ((with_reducible refine' o_add  ?kk))
    | ((with_reducible refine' o_addS ?ca ?kk); (case ca => ktf_call "side"))
    | ((with_reducible refine' o_cat ?ca ?cb ?cd (fun p => ?kk)); (case ca => ktf_call "vu"); (case cb => ktf_call "vu"); (case cd => ktf_call "side"))
    | ((with_reducible refine' o_sub  ?kk))
    | ((with_reducible refine' o_mulS ?ca ?kk); (case ca => ktf_call "cmul"))
    | ((with_reducible refine' o_mul ?ca ?kk); (case ca => assumption))
    | ((with_reducible refine' o_div ?ca ?kk); (case ca => ktf_call "cdiv"))
    | ((with_reducible refine' o_mod ?ca ?kk); (case ca => (first | assumption | omega | decide)))
    | ((with_reducible refine' o_pow ?ca ?kk); (case ca => decide))
    | fail "o")
  | ((with_reducible show OP _ _ _ _ (compareOp _) _ _ _); first
    | ((with_reducible refine' o_lt  ?kk))
    | ((with_reducible refine' o_le  ?kk))
    | ((with_reducible refine' o_gt  ?kk))
    | ((with_reducible refine' o_ge  ?kk))
    | ((with_reducible refine' o_eqI  ?kk))
    | ((with_reducible refine' o_eqS  ?kk))
    | ((with_reducible refine' o_eqB  ?kk))
    | ((with_reducible refine' o_eqLI ?ca ?cb ?cd ?kk); (case ca => assumption); (case cb => ktf_call "vi"); (case cd => ktf_call "vi"))
    | ((with_reducible refine' o_eqLS ?ca ?cb ?cd ?kk); (case ca => assumption); (case cb => ktf_call "vs"); (case cd => ktf_call "vs"))
    | ((with_reducible refine' o_neI  ?kk))
    | ((with_reducible refine' o_neS  ?kk))
    | ((with_reducible refine' o_neLI ?ca ?cb ?cd ?kk); (case ca => assumption); (case cb => ktf_call "vi"); (case cd => ktf_call "vi"))
    | ((with_reducible refine' o_neLS ?ca ?cb ?cd ?kk); (case ca => assumption); (case cb => ktf_call "vs"); (case cd => ktf_call "vs"))
    | ((with_reducible refine' o_isB  ?kk))
    | fail "o")
  | ((with_reducible refine' u_neg  ?kk))
  | ((with_reducible refine' x_I ?ca ?cb ?kk); (case ca => ktf_call "vi"); (case cb => ktf_call "side"))
  | ((with_reducible refine' x_S ?ca ?cb ?kk); (case ca => ktf_call "vs"); (case cb => ktf_call "side"))
  | ((with_reducible refine' x_B ?ca ?cb ?kk); (case ca => ((with_reducible refine' vb_own ?cv); (case cv => ktf_call "has"))); (case cb => ktf_call "side"))
  | ((with_reducible refine' x_ch ?ca ?cb ?kk); (case ca => ktf_call "side"); (case cb => ktf_call "side"))
  | ((with_reducible refine' x_lst ?ca ?cb ?kk); (case ca => ktf_call "vl"); (case cb => ktf_call "ati"))
  | ((with_reducible refine' x_tup ?ca ?kk); (case ca => ktf_call "ati"))
  | ((with_reducible refine' x_str ?ca ?cb ?kk); (case ca => ktf_call "side"); (case cb => ktf_call "ati"))
  | ((with_reducible refine' s_lst ?ca (fun p => ?kk)); (case ca => ktf_call "vl"))
  | ((with_reducible refine' s_str ?ca ?kk); (case ca => ktf_call "side"))
  | fail "o")
local macro_rules | `(tactic| ktf_call "t") => `(tactic| first
  | ((with_reducible show DT _ _ _ _ (.Compare _ [_] [_] _) _); refine dt_cmp ?_)
  | ((with_reducible show DT _ _ _ _ (.BoolOp _ _ _) _); refine dt_bool ?_)
  | ((with_reducible show DT _ _ _ _ (.UnaryOp .Not _ _) _); refine dt_not ?_)
  | ((with_reducible show DT _ _ _ _ _ _); refine dt_val ?_)
  | ((with_reducible show DW _ _ _ _ (.BoolOp .And [_] _) _); refine dw_and1 ?_)
  | ((with_reducible show DW _ _ _ _ (.BoolOp .Or [_] _) _); refine dw_or1 ?_)
  | ((with_reducible show DW _ _ _ _ (.BoolOp .And _ _) _); refine dw_and ?_)
  | ((with_reducible show DW _ _ _ _ (.BoolOp .Or _ _) _); refine dw_or ?_))
local macro_rules | `(tactic| ktf_call "s") => `(tactic| first
  | ((with_reducible show DSs _ _ _ _ (List.drop _ _) _); first | refine dss_at rfl ?_ | refine dss_end rfl ?_)
  | ((with_reducible show DSs _ _ _ _ (_ :: _) _); refine dss_cons ?_)
  | ((with_reducible show DSs _ _ _ _ [] _); refine dss_nil ?_)
  | ((with_reducible show DS _ _ _ _ (.If _ _ _ _) _); refine ds_if ?_)
  | ((with_reducible show DS _ _ _ _ (.Return (some _) _) _); refine ds_ret ?_)
  | ((with_reducible show DS _ _ _ _ (.Assign [.Name _ _] _ _) _); refine ds_asg (by ktf_call "own") (by ktf_call "put") ?_)
  | ((with_reducible show DS _ _ _ _ (.Assign [.Subscript _ _ _] _ _) _); refine ds_setL ?_)
  | ((with_reducible show DS _ _ _ _ (.Expr _ _) _); refine ds_expr ?_)
  | ((with_reducible show DS _ _ _ _ (.AugAssign (.Name _ _) .Add _ _) _); refine ds_augI ip_add (by ktf_call "own") (by ktf_call "lk") (by ktf_call "put") ?_)
  | ((with_reducible show DS _ _ _ _ (.AugAssign (.Name _ _) .Sub _ _) _); refine ds_augI ip_sub (by ktf_call "own") (by ktf_call "lk") (by ktf_call "put") ?_)
  | fail "s")
local macro_rules | `(tactic| ktf_call "k") => `(tactic| first
  | ((with_reducible show DA _ _ _ _ [] _); refine da_nil ?_)
  | ((with_reducible show DA _ _ _ _ (_ :: _) _); refine da_cons ?_)
  | ((with_reducible show DO _ _ _ _ none _); refine do_none ?_)
  | ((with_reducible show DO _ _ _ _ (some _) _); refine do_some ?_)
  | ((with_reducible show KB _ _ _); refine kb ?_)
  | ((with_reducible show (_ = true → _) ∧ (_ = false → _)); refine ⟨fun hyp => ?_, fun hyp => ?_⟩ <;> (try simp only [decide_eq_true_eq, decide_eq_false_iff_not, Bool.not_eq_true', Bool.not_eq_false', Bool.not_true, Bool.not_false, Bool.true_eq_false, Bool.false_eq_true, Int.not_lt, Int.not_le, nil_len, Nat.pos_iff_ne_zero.symm] at hyp))
  | ((with_reducible show (_ = false → _) ∧ (_ = true → _)); refine ⟨fun hyp => ?_, fun hyp => ?_⟩ <;> (try simp only [decide_eq_true_eq, decide_eq_false_iff_not, Bool.not_eq_true', Bool.not_eq_false', Bool.not_true, Bool.not_false, Bool.true_eq_false, Bool.false_eq_true, Int.not_lt, Int.not_le, nil_len, Nat.pos_iff_ne_zero.symm] at hyp))
  | ((with_reducible show ∃ d, rB _ = rB d ∧ _); refine ⟨_, rfl, ?_⟩)
  | ((with_reducible show ∃ d, D2.rI _ = D2.rI d ∧ _); refine ⟨_, rfl, ?_⟩)
  | ((with_reducible show ∃ n, Ln _ _ n ∧ _); refine ⟨_, by ktf_call "ln", ?_⟩)
  | ((with_reducible refine' Exists.intro _ (Exists.intro _ (Exists.intro _ (Exists.intro _ (Exists.intro _ (And.intro rfl (And.intro rfl (And.intro ?ch (And.intro ?ix ?_))))))))); (case ch => ktf_call "chg"); (case ix => first | exact ixN_ok (by ktf_call "side") (by ktf_call "side") | exact rfl))
  | ((with_reducible show rS _ = rS [] ∧ _); refine ⟨rfl, ?_⟩)
  | ((with_reducible show ∃ s, rS _ = rS s ∧ _); refine ⟨_, rfl, ?_⟩)
  | ((with_reducible refine' Exists.intro _ (Exists.intro _ (Exists.intro _ (And.intro rfl (And.intro ?ch ?_))))); (case ch => ktf_call "has"))
  | ((with_reducible refine' Exists.intro _ (Exists.intro _ (And.intro ?ch (And.intro ?cl ?_)))); (case ch => ktf_call "chg"); (case cl => ktf_call "side"))
  | ((with_reducible refine' Exists.intro _ (Exists.intro _ (Exists.intro _ (And.intro ?ch (And.intro ?cu (And.intro ?cl ?_)))))); (case ch => ktf_call "chg"); (case cu => ktf_call "vu"); (case cl => ktf_call "side"))
  | ((with_reducible show _ ≤ 1000000 ∧ _); first | refine ⟨by ktf_call "side", fun p => ?_⟩ | refine ⟨by ktf_call "side", _, _, by ktf_call "frz", ?_⟩)
  | ktf_call "sp"
  | fail "k")
local macro_rules | `(tactic| ktf_call "d2") => `(tactic| (repeat' (first
  | ((with_reducible show DE _ _ _ _ _ _); ktf_call "e")
  | ((with_reducible show OP _ _ _ _ _ _ _ _); ktf_call "o")
  | ((with_reducible show IX _ _ _ _ _ _ _ _ _); ktf_call "o")
  | ((with_reducible show DT _ _ _ _ _ _); ktf_call "t")
  | ((with_reducible show DW _ _ _ _ _ _); ktf_call "t")
  | ((with_reducible show DA _ _ _ _ _ _); ktf_call "k")
  | ((with_reducible show DS _ _ _ _ _ _); ktf_call "s")
  | ((with_reducible show DSs _ _ _ _ _ _); ktf_call "s")
  | ((with_reducible show UP _ _ _ _ _ _ _); ktf_call "o")
  | ((with_reducible show SlK _ _ _ _ _ _ _ _); ktf_call "o")
  | ktf_call "k" | fail "stuck")))
local macro_rules | `(tactic| ktf_call "kitb") => `(tactic| with_reducible first | exact kitb_NoneType_int | exact kitb_NoneType_bool | exact kitb_NoneType_str | exact kitb_NoneType_list | exact kitb_NoneType_tuple | exact kitb_NoneType_dict | exact kitb_bool_int | exact kitb_bool_bool | exact kitb_bool_str | exact kitb_bool_list | exact kitb_bool_tuple | exact kitb_bool_dict | exact kitb_int_int | exact kitb_int_bool | exact kitb_int_str | exact kitb_int_list | exact kitb_int_tuple | exact kitb_int_dict | exact kitb_str_int | exact kitb_str_bool | exact kitb_str_str | exact kitb_str_list | exact kitb_str_tuple | exact kitb_str_dict | exact kitb_list_int | exact kitb_list_bool | exact kitb_list_str | exact kitb_list_list | exact kitb_list_tuple | exact kitb_list_dict | exact kitb_tuple_int | exact kitb_tuple_bool | exact kitb_tuple_str | exact kitb_tuple_list | exact kitb_tuple_tuple | exact kitb_tuple_dict | exact kitb_dict_int | exact kitb_dict_bool | exact kitb_dict_str | exact kitb_dict_list | exact kitb_dict_tuple | exact kitb_dict_dict)
local macro_rules | `(tactic| ktf_call "tyr") => `(tactic| with_reducible first | exact TyR.int | exact TyR.bl | exact TyR.str | exact TyR.non | exact TyR.tup | ((refine' TyR.lst ?clv); (case clv => ktf_call "vl")))
local macro_rules | `(tactic| ktf_call "vo") => `(tactic| with_reducible first | exact VO.dat | ((refine' VO.own ?cv); (case cv => ktf_call "has")))
local macro_rules | `(tactic| ktf_call "e") => `(tactic| first
  | ((with_reducible show DE _ _ _ _ (.Call (.Name "isinstance" _) _ _ _) _); refine d_isi (by ktf_call "gl") (by ktf_call "mg") ?_)
  | ((with_reducible show DE _ _ _ _ (.Name "int" _) _); refine de_ty (T := "int") (by ktf_call "gl") (by ktf_call "mg") (by decide +kernel) ?_)
  | ((with_reducible show DE _ _ _ _ (.Name "bool" _) _); refine de_ty (T := "bool") (by ktf_call "gl") (by ktf_call "mg") (by decide +kernel) ?_)
  | ((with_reducible show DE _ _ _ _ (.Name "str" _) _); refine de_ty (T := "str") (by ktf_call "gl") (by ktf_call "mg") (by decide +kernel) ?_)
  | ((with_reducible show DE _ _ _ _ (.Name "list" _) _); refine de_ty (T := "list") (by ktf_call "gl") (by ktf_call "mg") (by decide +kernel) ?_)
  | ((with_reducible show DE _ _ _ _ (.Name "tuple" _) _); refine de_ty (T := "tuple") (by ktf_call "gl") (by ktf_call "mg") (by decide +kernel) ?_)
  | ((with_reducible show DE _ _ _ _ (.Name _ _) _); first | refine de_tupG (by assumption) (by assumption) ?_ | refine de_strG (by assumption) (by assumption) ?_ | refine de_intG (by assumption) (by assumption) ?_)
  | ((with_reducible show DE _ _ _ _ (.Attribute _ _ _) _); refine de_fld (by assumption) (by assumption) ?_)
  | ((with_reducible show DE _ _ _ _ (.Call (.Attribute _ "strip" _) _ _ _) _); refine d_stripC ?_)
  | ((with_reducible show DE _ _ _ _ (.Call (.Attribute _ _ _) (_ :: _) _ _) _); refine de_meth (by assumption) (by assumption) ?_ (hjk := by omega))
  | ((with_reducible show DE _ _ _ _ (.Call (.Attribute _ _ _) [] _ _) _); refine de_meth0 (by assumption) (by assumption) ?_ (hjk := by omega))
  | ((with_reducible show DE _ _ _ _ (.Call (.Name "min" _) [_, _] _ _) _); refine d_min2 (by assumption) (by ktf_call "gl") (by ktf_call "mg") ?_)
  | ((with_reducible show DE _ _ _ _ (.Call (.Name "max" _) [_, _] _ _) _); refine d_max2 (by assumption) (by ktf_call "gl") (by ktf_call "mg") ?_)
  | ((with_reducible show DE _ _ _ _ (.Call (.Name _ _) (_ :: _) (_ :: _) _) _); refine de_callK (by assumption) (by assumption) (by ktf_call "gl") ?_ (hjk := by omega))
  | ((with_reducible show DE _ _ _ _ (.Call (.Name _ _) (_ :: _) [] _) _); refine de_make (by assumption) (by assumption) (by ktf_call "gl") ?_ (hjk := by omega))
  | ((with_reducible show DE _ _ _ _ (.Call (.Name _ _) [] [] _) _); refine de_make0 (by assumption) (by assumption) (by ktf_call "gl") ?_ (hjk := by omega))
  | ((with_reducible show DE _ _ _ _ (.Dict [] [] _) _); refine d_new0 fun p => ?_))
local macro_rules | `(tactic| ktf_call "k") => `(tactic| first
  | ((with_reducible refine' Exists.intro _ (Exists.intro _ (Exists.intro _ (Exists.intro _ (And.intro rfl (And.intro ?ty (And.intro ?kb ?_))))))); (case ty => ktf_call "tyr"); (case kb => ktf_call "kitb"))
  | ((with_reducible show ∃ fs r, VO _ _ _ fs ∧ _); refine ⟨_, _, by ktf_call "vo", rfl, ?_⟩)
  | ((with_reducible show (∃ fs, VO _ _ _ fs ∧ _) ∧ _); refine ⟨⟨_, by ktf_call "vo", rfl⟩, ?_⟩)
  | ((with_reducible show DKw _ _ _ _ [] _); refine dk_nil ?_)
  | ((with_reducible show DKw _ _ _ _ (_ :: _) _); refine dk_cons ?_)
  | ((with_reducible show _ ≤ 1000000 ∧ DE _ _ _ _ _ _); refine ⟨by ktf_call "side", ?_⟩))
local macro_rules | `(tactic| ktf_call "s") => `(tactic| first
  | ((with_reducible show DS _ _ _ _ (.Raise _ _ _) _); refine ds_raise (by assumption) (by assumption) (by ktf_call "gl") ?_)
  | ((with_reducible show DS _ _ _ _ (.Assign [.Attribute _ _ _] _ _) _); refine ds_fld (by assumption) (by assumption) ?_)
  | ((with_reducible show DS _ _ _ _ (.Break _) _); refine ds_brk ?_)
  | ((with_reducible show DS _ _ _ _ (.Continue _) _); refine ds_cont ?_)
  | ((with_reducible show DS _ _ _ _ (.Pass _) _); refine ds_pass ?_))
local macro_rules | `(tactic| ktf_call "o") => `(tactic| ((with_reducible refine' o_ninS ?ca ?kk); (case ca => assumption)))
local macro_rules | `(tactic| ktf_call "t") => `(tactic| ((with_reducible show DT _ _ _ _ (.Compare _ [_, _] [_, _] _) _); first | refine dt_chainI L2.op_le L2.op_le ?_ | refine dt_chainI L2.op_lt L2.op_le ?_ | refine dt_chainI L2.op_le L2.op_lt ?_ | refine dt_chainI L2.op_lt L2.op_lt ?_))
section
variable {P : Program} {w : World} {K : PySem.W.Frag} {mg : Str → Option Value} {base : Heap} {f : Addr} {fd : FuncData}
theorem ok_rankKind0 {C_RankBook : Addr} (F : FunD K "rank_kind" "RankBook.rank_kind" (defArgs (clsDef (top 16) 1)) (defBody (clsDef (top 16) 1)) (defScope (clsDef (top 16) 1)) [] [] f fd) (m0_len : mg "len" = none) (k_RankBook : Cls K C_RankBook) (n_RankBook_kind_numbers : NoAttr K C_RankBook "kind_numbers") (n_RankBook_word_numbers : NoAttr K C_RankBook "word_numbers") : FnOk P w K mg base (L2N.CX P w) (1) f fd ["self", "level", "word"] (spOf K (spKind P w C_RankBook 0)) := by
  refine fn2 F sc_RankBook_rank_kind (by decide +kernel) (fun rs m Kr Ke ⟨_, _, _, _, _, _, _, _, _, e, _⟩ => by rw [e]; rfl) fun X c rs m Kr Ke D L hx ⟨s, dx, pk, pw, Us, kn, wn, l, u, er, hl, h8, hu, hc, hus, em, hB, hU, hk⟩ => ?_
  subst er em
  have m_len : X.mg "len" = none := D.mg_ m0_len
  have kk_RankBook : Cls X.K C_RankBook := D.cls k_RankBook
  have nn_RankBook_kind_numbers : NoAttr X.K C_RankBook "kind_numbers" := D.noat n_RankBook_kind_numbers
  have nn_RankBook_word_numbers : NoAttr X.K C_RankBook "word_numbers" := D.noat n_RankBook_word_numbers
  have g_len : Gl X "len" := D.gl (by decide +kernel)
  have o_key : Own X "key" := D.own (by decide +kernel)
  refine dss_lo ?_
  show DSs X c [("self", some (.own s)), ("level", some (D2.rI (l : Int))), ("word", some (rS u)), ("key", none)] (bookM P w C_RankBook s dx pk pw kn wn) (_ :: _) _
  ktf_call "d2"
  · rename_i hyp
    have e0 : l = 0 := by omega
    subst e0
    exact ⟨_, List.Sublist.refl _, hk kn wn hB hU (Grow.refl _ _) (.inl rfl)⟩
  · rename_i hyp
    exact absurd (show (l : Int) = 0 by omega) hyp
theorem rank_levels {C fK fI : Addr} {dK dI : FuncData} {psK psI : List Str} (cl : Cls K C) (hK : Meth K C "rank_kind" fK) (hI : Meth K C "rank_items" fI) (bK : Binds K dK psK []) (bI : Binds K dI psI [])
    (h0 : FnOk P w K mg base (L2N.CX P w) 1 fK dK psK (spOf K (spKind P w C 0)))
    (h1 : ∀ n, CalleeM P w K mg base C "rank_items" (2 * n + 2) (spItems P w C n) → FnOk P w K mg base (L2N.CX P w) (2 * n + 3) fK dK psK (spOf K (spKind P w C (n + 1))))
    (h2 : ∀ n, CalleeM P w K mg base C "rank_kind" (2 * n + 1) (spKind P w C n) → FnOk P w K mg base (L2N.CX P w) (2 * n + 2) fI dI psI (spOf K (spItems P w C n))) : ∀ n, CalleeM P w K mg base C "rank_kind" (2 * n + 1) (spKind P w C n)
  | 0 => ⟨cl, fK, dK, psK, hK, bK, h0⟩
  | n + 1 => ⟨cl, fK, dK, psK, hK, bK, h1 n ⟨cl, fI, dI, psI, hI, bI, h2 n (rank_levels cl hK hI bK bI h0 h1 h2 n)⟩⟩
/-- all the levels -/
theorem rank_all {C fK fI : Addr} {dK dI : FuncData} {psK psI : List Str} (cl : Cls K C) (hK : Meth K C "rank_kind" fK) (hI : Meth K C "rank_items" fI) (bK : Binds K dK psK []) (bI : Binds K dI psI [])
    (h0 : FnOk P w K mg base (L2N.CX P w) 1 fK dK psK (spOf K (spKind P w C 0)))
    (h1 : ∀ n, CalleeM P w K mg base C "rank_items" (2 * n + 2) (spItems P w C n) → FnOk P w K mg base (L2N.CX P w) (2 * n + 3) fK dK psK (spOf K (spKind P w C (n + 1))))
    (h2 : ∀ n, CalleeM P w K mg base C "rank_kind" (2 * n + 1) (spKind P w C n) → FnOk P w K mg base (L2N.CX P w) (2 * n + 2) fI dI psI (spOf K (spItems P w C n))) : CalleeM P w K mg base C "rank_kind" 17 (spKind P w C 8) := rank_levels cl hK hI bK bI h0 h1 h2 8
/-! ### parts of words -/
def parts (w : List Nat) : List (List Nat) := (List.range (w.length + 1)).flatMap fun i => (List.range (w.length + 1)).map fun j => (w.drop i).take j
theorem parts_of {w v : List Nat} (h : v <:+: w) : v ∈ parts w := by
  obtain ⟨a, b, e⟩ := h
  have hl := congrArg List.length e
  simp only [List.length_append] at hl
  unfold parts
  rw [List.mem_flatMap]
  refine ⟨a.length, List.mem_range.mpr (by omega), List.mem_map.mpr ⟨v.length, List.mem_range.mpr (by omega), ?_⟩⟩
  rw [← e, List.append_assoc, List.drop_left, List.take_left]
theorem of_parts {w v : List Nat} (h : v ∈ parts w) : v <:+: w := by
  unfold parts at h
  rw [List.mem_flatMap] at h
  obtain ⟨i, _, h⟩ := h
  obtain ⟨j, _, rfl⟩ := List.mem_map.mp h
  exact (List.take_prefix _ _).isInfix.trans (List.drop_suffix _ _).isInfix
theorem parts_len (w : List Nat) : (parts w).length ≤ (w.length + 1) * (w.length + 1) := by
  have hl : ∀ n k, ((List.range n).flatMap fun i => (List.range k).map fun j => (w.drop i).take j).length = n * k := fun n k => by
    induction n with
    | zero => simp
    | succ n ih => rw [List.range_succ, List.flatMap_append, List.length_append, ih]; simp [Nat.succ_mul]
  unfold parts
  rw [hl]
  exact Nat.le_refl _
theorem parts_closed (ws : List (List Nat)) : Closed (ws.flatMap parts) := fun v hv p => by
  obtain ⟨w, hw, h⟩ := List.mem_flatMap.mp hv
  have := of_parts h
  exact ⟨List.mem_flatMap.mpr ⟨w, hw, parts_of ((List.take_prefix _ _).isInfix.trans this)⟩, List.mem_flatMap.mpr ⟨w, hw, parts_of ((List.drop_suffix _ _).isInfix.trans this)⟩⟩
theorem parts_self {ws : List (List Nat)} {w : List Nat} (h : w ∈ ws) : w ∈ ws.flatMap parts := List.mem_flatMap.mpr ⟨w, h, parts_of (List.infix_refl w)⟩
theorem parts_small {ws : List (List Nat)} {v : List Nat} {n : Nat} (hw : ∀ w ∈ ws, w.length ≤ n) (h : v ∈ ws.flatMap parts) : v.length ≤ n := by
  obtain ⟨w, h1, h2⟩ := List.mem_flatMap.mp h
  exact Nat.le_trans (of_parts h2).length_le (hw w h1)
theorem parts_two {u v : List Nat} {n : Nat} (hu : u.length ≤ n) (hv : v.length ≤ n) : ([u, v].flatMap parts).length ≤ 2 * ((n + 1) * (n + 1)) := by
  have h1 := Nat.le_trans (parts_len u) (Nat.mul_le_mul (Nat.succ_le_succ hu) (Nat.succ_le_succ hu))
  have h2 := Nat.le_trans (parts_len v) (Nat.mul_le_mul (Nat.succ_le_succ hv) (Nat.succ_le_succ hv))
  simp only [List.flatMap_cons, List.flatMap_nil, List.append_nil, List.length_append]
  simp only [Nat.succ_eq_add_one] at h1 h2
  omega
/-- the least level that parts the two -/
def Rapart (u v : List Nat) (r : Nat) : Prop := ¬ A r u v ∧ ∀ k, k < r → A k u v
theorem mp_kind {X : Cx} {c : Ct} {σ : Sl} {P : Program} {W : World} {C s dx pk pw : Addr} {Us : List (List Nat)} {kn : List NestedKey} {wn : WN} {l : Nat} {u : List Nat} {rest : Mem} {K : R → Mem → Prop} (hl : l ≤ 8) (hu : u ∈ Us) (hc : Closed Us) (hus : Us.length ≤ 60000 ∧ ∀ x ∈ Us, x.length ≤ 1000) (hB : Book kn wn) (hU : InU Us wn)
    (k : ∀ kn' wn', Book kn' wn' → InU Us wn' → Grow l wn wn' → Knows wn' l u → K (D2.rI (numW wn' l u : Int)) ((s, .ins C dx (bookF pk pw)) :: (pk, .dn P W pk (bkR kn')) :: (pw, .dn P W pw (wnR wn')) :: rest)) :
    MPost X c σ (spKind P W C 8) K (.own s) [D2.rI (l : Int), rS u] ((s, .ins C dx (bookF pk pw)) :: (pk, .dn P W pk (bkR kn)) :: (pw, .dn P W pw (wnR wn)) :: rest) :=
  ⟨bookM P W C s dx pk pw kn wn, rest, split3, s, dx, pk, pw, Us, kn, wn, l, u, rfl, hl, Nat.le_refl _, hu, hc, hus, rfl, hB, hU, k⟩
section
variable {P : Program} {w : World} {K : PySem.W.Frag} {mg : Str → Option Value} {base : Heap} {f : Addr} {fd : FuncData}
def spFirst (P : Program) (W : World) (C : Addr) : Sp2 := fun rs m Kr Ke => ∃ (s dx pk pw : Addr) (u v : List Nat), rs = [.own s, rS u, rS v] ∧ u ≠ v ∧ (u.length ≤ 60 ∧ v.length ≤ 60) ∧ m = bookM P W C s dx pk pw [] [] ∧ ∀ r m', Rapart u v r → Kr (D2.rI (r : Int)) m'
theorem sc_RankBook_first_parted : FnScope ["self", "first", "second", "level"] ["self", "first", "second"] (defScope (clsDef (top 16) 3)) := ⟨rfl, rfl, rfl, by decide +kernel, rfl, by decide +kernel, by decide +kernel⟩
theorem ok_firstParted {C_RankBook : Addr} (F : FunD K "first_parted" "RankBook.first_parted" (defArgs (clsDef (top 16) 3)) (defBody (clsDef (top 16) 3)) (defScope (clsDef (top 16) 3)) [] [] f fd) (c_RankBook_rank_kind : CalleeM P w K mg base C_RankBook "rank_kind" 17 (spKind P w C_RankBook 8)) : FnOk P w K mg base (L2N.CX P w) (18) f fd ["self", "first", "second"] (spOf K (spFirst P w C_RankBook)) := by
  refine fn2 F sc_RankBook_first_parted (by decide +kernel) (fun rs m Kr Ke ⟨_, _, _, _, _, _, e, _⟩ => by rw [e]; rfl) fun X c rs m Kr Ke D L hx ⟨s, dx, pk, pw, u, v, er, hne, ⟨hu, hv⟩, em, hk⟩ => ?_
  subst er em
  have e_RankBook_rank_kind : CalleeM X.prog X.w X.K X.mg X.base C_RankBook "rank_kind" 17 (spKind P w C_RankBook 8) := D.calleeM c_RankBook_rank_kind
  have o_level : Own X "level" := D.own (by decide +kernel)
  refine dss_lo ?_
  show DSs X c [("self", some (.own s)), ("first", some (rS u)), ("second", some (rS v)), ("level", none)] (bookM P w C_RankBook s dx pk pw [] []) (_ :: _) _
  obtain ⟨eP, eW⟩ : P = X.prog ∧ w = X.w := ⟨D.prog.symm, D.w.symm⟩
  subst eP eW
  have hus : ([u, v].flatMap parts).length ≤ 60000 ∧ ∀ x ∈ [u, v].flatMap parts, x.length ≤ 1000 := ⟨Nat.le_trans (parts_two hu hv) (by decide), fun x hx => Nat.le_trans (parts_small (n := 60) (by simp [hu, hv]) hx) (by decide)⟩
  have hcl := parts_closed [u, v]
  have hmu : u ∈ [u, v].flatMap parts := parts_self (by simp)
  have hmv : v ∈ [u, v].flatMap parts := parts_self (by simp)
  generalize [u, v].flatMap parts = Us at hus hcl hmu hmv
  ktf_call "d2"
  refine ds_while (fun j σ m => ∃ (r : Nat) (kn : List NestedKey) (wn : WN), (j = 8 - r ∧ 1 ≤ r ∧ r ≤ 7) ∧ σ = ([("self", some (.own s)), ("first", some (rS u)), ("second", some (rS v)), ("level", some (D2.rI (r : Int)))] : Sl) ∧ m = bookM X.prog X.w C_RankBook s dx pk pw kn wn ∧ Book kn wn ∧ InU Us wn ∧ ∀ k, k < r → A k u v) (n0 := 7) L ⟨1, [], [], ⟨rfl, Nat.le_refl _, by decide⟩, rfl, rfl, book0, (fun x hx => by cases hx), fun k hk => by rw [Nat.lt_one_iff.mp hk]; trivial⟩ ?_
  rintro j σ' m' ⟨r, kn, wn, ⟨ej, hr1, hr8⟩, rfl, rfl, hB, hU, hA⟩
  ktf_call "d2"
  refine mp_kind (by omega) hmu hcl hus hB hU fun kn1 wn1 hB1 hU1 hG1 hk1 => ?_
  ktf_call "d2"
  refine mp_kind (by omega) hmv hcl hus hB1 hU1 fun kn2 wn2 hB2 hU2 hG2 hk2 => ?_
  rw [← hG2.num hk1]
  have he := hB2.eq r (hG2.knows hk1) hk2
  ktf_call "d2"
  · rename_i hyp
    have ha : A r u v := he.mp (by omega)
    have hr : r < 7 := by
      by_cases q : r = 7
      · subst q; exact absurd (ha.short (by show u.length < 64; omega)) hne
      · omega
    refine ⟨_, by omega, r + 1, kn2, wn2, ⟨rfl, by omega, by omega⟩, rfl, rfl, hB2, hU2, fun k hk => ?_⟩
    by_cases q : k = r
    · rw [q]; exact ha
    · exact hA k (by omega)
  · rename_i hyp
    refine ⟨_, List.Sublist.refl _, hk r _ ⟨fun q => hyp ?_, hA⟩⟩
    rw [he.mpr q]
/-- a word that is told as good, or its fault -/
abbrev WOk (n : Nat) (s : List Nat) : Prop := Abc s ∧ s.length ≤ n
structure WEr (CW CL : Addr) (Ke : Addr → List (Str × D2.D) → Mem → Prop) (m : Mem) (n : Nat) (s : List Nat) : Prop where
  word : ¬ Abc s → Ke CW [("word", .str s)] m
  large : Abc s → n < s.length → Ke CL [("many", .int s.length)] m
theorem WEr.no {CW CL : Addr} {Ke : Addr → List (Str × D2.D) → Mem → Prop} {m : Mem} {n : Nat} {s : List Nat} (h : WOk n s) : WEr CW CL Ke m n s := ⟨fun q => absurd h.1 q, fun _ q => absurd h.2 (by omega)⟩
def spRWord (CW CL : Addr) : Sp2 := fun rs m Kr Ke => ∃ (s : List Nat), rs = [rS s] ∧ s.length ≤ 1000000 ∧ m = [] ∧ WEr CW CL Ke [] 40 s ∧ (WOk 40 s → Kr (rS s) [])
theorem sc_check_rounds_word : FnScope ["word"] ["word"] (defScope (top 17)) := ⟨rfl, rfl, rfl, by decide +kernel, rfl, by decide +kernel, by decide +kernel⟩
theorem ok_rWord {C_BadLetters C_BadWord C_TooLarge : Addr} (F : FunD K "check_rounds_word" "check_rounds_word" (defArgs (top 17)) (defBody (top 17)) (defScope (top 17)) [] [] f fd) (ck_check_word : CalleeK P w K mg base "check_word" 4 2 ["most"] (fun rs zs => rs ++ zs) (spCheckWord C_BadLetters C_BadWord C_TooLarge)) (t_LETTERS : StrG mg "LETTERS" [97, 98, 99]) (t_LONGEST_rankkinds : IntG mg "LONGEST_rankkinds" 40) : FnOk P w K mg base (L2N.CX P w) (5) f fd ["word"] (spOf K (spRWord C_BadWord C_TooLarge)) := by
  refine fn2 F sc_check_rounds_word (by decide +kernel) (fun rs m Kr Ke ⟨_, e, _⟩ => by rw [e]; rfl) fun X c rs m Kr Ke D L hx ⟨s, er, hs, em, he, hk⟩ => ?_
  subst er em
  have ek_check_word : CalleeK X.prog X.w X.K X.mg X.base "check_word" 4 2 ["most"] (fun rs zs => rs ++ zs) (spCheckWord C_BadLetters C_BadWord C_TooLarge) := by rw [D.prog, D.w, D.K, D.mg, D.base]; exact ck_check_word
  have u_LETTERS : StrG X.mg "LETTERS" [97, 98, 99] := by rw [D.mg]; exact t_LETTERS
  have u_LONGEST_rankkinds : IntG X.mg "LONGEST_rankkinds" 40 := by rw [D.mg]; exact t_LONGEST_rankkinds
  have g_check_word : Gl X "check_word" := D.gl (by decide +kernel)
  have g_LETTERS : Gl X "LETTERS" := D.gl (by decide +kernel)
  have g_LONGEST_rankkinds : Gl X "LONGEST_rankkinds" := D.gl (by decide +kernel)
  refine dss_lo ?_
  show DSs X c [("word", some (rS s))] [] (_ :: _) _
  ktf_call "d2"
  refine ⟨rfl, rfl, ?_⟩
  refine sp_checkWord hs (fun q => hx _ _ _ _ (he.word q)) (fun q q2 => hx _ _ _ _ (he.large q (by omega))) fun q q2 => ?_
  exact ⟨[], sub_nil, hk ⟨q, by omega⟩⟩
def spRLevel (CN : Addr) : Sp2 := fun rs m Kr Ke => ∃ (n : Int), rs = [D2.rI n] ∧ m = [] ∧ (n < 0 ∨ 8 < n → Ke CN [("number", .int n)] []) ∧ (0 ≤ n → n ≤ 8 → Kr (D2.rI n) [])
theorem sc_check_rounds_level : FnScope ["level"] ["level"] (defScope (top 18)) := ⟨rfl, rfl, rfl, by decide +kernel, rfl, by decide +kernel, by decide +kernel⟩
theorem ok_rLevel {C_BadNumber : Addr} (F : FunD K "check_rounds_level" "check_rounds_level" (defArgs (top 18)) (defBody (top 18)) (defScope (top 18)) [] [] f fd) (t_MOST_LEVEL : IntG mg "MOST_LEVEL" 8) (x_BadNumber : MkC P w K mg base "BadNumber" C_BadNumber 1 1 [("number", 0)] (fun _ => True)) : FnOk P w K mg base (L2N.CX P w) (3) f fd ["level"] (spOf K (spRLevel C_BadNumber)) := by
  refine fn2 F sc_check_rounds_level (by decide +kernel) (fun rs m Kr Ke ⟨_, e, _⟩ => by rw [e]; rfl) fun X c rs m Kr Ke D L hx ⟨n, er, em, he, hk⟩ => ?_
  subst er em
  have u_MOST_LEVEL : IntG X.mg "MOST_LEVEL" 8 := by rw [D.mg]; exact t_MOST_LEVEL
  have y_BadNumber : MkC X.prog X.w X.K X.mg X.base "BadNumber" C_BadNumber 1 1 [("number", 0)] (fun _ => True) := by rw [D.prog, D.w, D.K, D.mg, D.base]; exact x_BadNumber
  have g_MOST_LEVEL : Gl X "MOST_LEVEL" := D.gl (by decide +kernel)
  have g_BadNumber : Gl X "BadNumber" := D.gl (by decide +kernel)
  refine dss_lo ?_
  show DSs X c [("level", some (D2.rI n))] [] (_ :: _) _
  ktf_call "d2"
  all_goals first
    | exact ⟨[.int n], [], .cons .dat .nil, rfl, fun _ _ _ _ => trivial, hx _ _ _ _ (he (by omega))⟩
    | exact ⟨_, List.Sublist.refl _, hk (by omega) (by omega)⟩
def spRAlike (CW CL CN : Addr) : Sp2 := fun rs m Kr Ke => ∃ (u v : List Nat) (n : Int), rs = [rS u, rS v, D2.rI n] ∧ (u.length ≤ 1000000 ∧ v.length ≤ 1000000) ∧ m = [] ∧ WEr CW CL Ke [] 40 u ∧ (WOk 40 u → WEr CW CL Ke [] 40 v) ∧
  (WOk 40 u → WOk 40 v → n < 0 ∨ 8 < n → Ke CN [("number", .int n)] []) ∧ (WOk 40 u → WOk 40 v → 0 ≤ n → n ≤ 8 → ∀ b : Bool, (b = true ↔ A n.toNat u v) → Kr (rB b) [])
theorem sc_alike_in_rounds : FnScope ["first", "second", "level", "book"] ["first", "second", "level"] (defScope (top 19)) := ⟨rfl, rfl, rfl, by decide +kernel, rfl, by decide +kernel, by decide +kernel⟩
theorem ok_rAlike {C_BadWord C_TooLarge C_BadNumber C_RankBook : Addr} (F : FunD K "alike_in_rounds" "alike_in_rounds" (defArgs (top 19)) (defBody (top 19)) (defScope (top 19)) [] [] f fd) (c_check_rounds_word : CalleeG P w K mg base "check_rounds_word" 5 (spRWord C_BadWord C_TooLarge)) (c_check_rounds_level : CalleeG P w K mg base "check_rounds_level" 3 (spRLevel C_BadNumber)) (i_RankBook : CalleeI P w K mg base "RankBook" C_RankBook 1 (spBookInit P w C_RankBook)) (c_RankBook_rank_kind : CalleeM P w K mg base C_RankBook "rank_kind" 17 (spKind P w C_RankBook 8)) : FnOk P w K mg base (L2N.CX P w) (18) f fd ["first", "second", "level"] (spOf K (spRAlike C_BadWord C_TooLarge C_BadNumber)) := by
  refine fn2 F sc_alike_in_rounds (by decide +kernel) (fun rs m Kr Ke ⟨_, _, _, e, _⟩ => by rw [e]; rfl) fun X c rs m Kr Ke D L hx ⟨u, v, n, er, ⟨hu, hv⟩, em, e1, e2, e3, hk⟩ => ?_
  subst er em
  have e_check_rounds_word : Callee X "check_rounds_word" 5 (spRWord C_BadWord C_TooLarge) := D.callee c_check_rounds_word
  have e_check_rounds_level : Callee X "check_rounds_level" 3 (spRLevel C_BadNumber) := D.callee c_check_rounds_level
  have j_RankBook : CalleeI X.prog X.w X.K X.mg X.base "RankBook" C_RankBook 1 (spBookInit P w C_RankBook) := D.calleeI i_RankBook
  have e_RankBook_rank_kind : CalleeM X.prog X.w X.K X.mg X.base C_RankBook "rank_kind" 17 (spKind P w C_RankBook 8) := D.calleeM c_RankBook_rank_kind
  have g_check_rounds_word : Gl X "check_rounds_word" := D.gl (by decide +kernel)
  have g_check_rounds_level : Gl X "check_rounds_level" := D.gl (by decide +kernel)
  have g_RankBook : Gl X "RankBook" := D.gl (by decide +kernel)
  have o_book : Own X "book" := D.own (by decide +kernel)
  refine dss_lo ?_
  show DSs X c [("first", some (rS u)), ("second", some (rS v)), ("level", some (D2.rI n)), ("book", none)] [] (_ :: _) _
  obtain ⟨eP, eW⟩ : P = X.prog ∧ w = X.w := ⟨D.prog.symm, D.w.symm⟩
  subst eP eW
  ktf_call "d2"
  refine ⟨[], [], .nil, u, rfl, hu, rfl, ⟨fun q => hx _ _ _ _ (e1.word q), fun q q2 => hx _ _ _ _ (e1.large q q2)⟩, fun ok1 => ?_⟩
  ktf_call "d2"
  refine ⟨[], [], .nil, v, rfl, hv, rfl, ⟨fun q => hx _ _ _ _ ((e2 ok1).word q), fun q q2 => hx _ _ _ _ ((e2 ok1).large q q2)⟩, fun ok2 => ?_⟩
  ktf_call "d2"
  refine ⟨[], [], .nil, n, rfl, rfl, fun q => hx _ _ _ _ (e3 ok1 ok2 q), fun h0 h8 => ?_⟩
  obtain ⟨l, rfl⟩ := Int.eq_ofNat_of_zero_le h0
  have hus : ([u, v].flatMap parts).length ≤ 60000 ∧ ∀ x ∈ [u, v].flatMap parts, x.length ≤ 1000 := ⟨Nat.le_trans (parts_two ok1.2 ok2.2) (by decide), fun x hx => Nat.le_trans (parts_small (n := 40) (by simp [ok1.2, ok2.2]) hx) (by decide)⟩
  have hcl := parts_closed [u, v]
  have hmu : u ∈ [u, v].flatMap parts := parts_self (by simp)
  have hmv : v ∈ [u, v].flatMap parts := parts_self (by simp)
  generalize [u, v].flatMap parts = Us at hus hcl hmu hmv
  ktf_call "d2"
  intro s dx
  refine ⟨[], [], .nil, s, dx, rfl, rfl, fun pk pw => ⟨rfl, ?_⟩⟩
  dsimp only [bookM, List.append_nil, List.cons_append, List.nil_append]
  ktf_call "d2"
  refine mp_kind (by omega) hmu hcl hus book0 (fun x hx => by cases hx) fun kn1 wn1 hB1 hU1 hG1 hk1 => ?_
  ktf_call "d2"
  refine mp_kind (by omega) hmv hcl hus hB1 hU1 fun kn2 wn2 hB2 hU2 hG2 hk2 => ?_
  rw [← hG2.num hk1]
  have he := hB2.eq l (hG2.knows hk1) hk2
  ktf_call "d2"
  refine ⟨_, List.nil_sublist _, hk ok1 ok2 h0 h8 _ ?_⟩
  rw [decide_eq_true_eq, Int.toNat_natCast, ← he]
  omega
def spRApart (CW CL : Addr) : Sp2 := fun rs m Kr Ke => ∃ (u v : List Nat), rs = [rS u, rS v] ∧ (u.length ≤ 1000000 ∧ v.length ≤ 1000000) ∧ m = [] ∧ WEr CW CL Ke [] 40 u ∧ (WOk 40 u → WEr CW CL Ke [] 40 v) ∧
  (WOk 40 u → WOk 40 v → u = v → Kr (.dat .non) []) ∧ (WOk 40 u → WOk 40 v → u ≠ v → ∀ r, Rapart u v r → Kr (D2.rI (r : Int)) [])
theorem sc_rounds_apart : FnScope ["first", "second"] ["first", "second"] (defScope (top 20)) := ⟨rfl, rfl, rfl, by decide +kernel, rfl, by decide +kernel, by decide +kernel⟩
theorem ok_rApart {C_BadWord C_TooLarge C_RankBook : Addr} (F : FunD K "rounds_apart" "rounds_apart" (defArgs (top 20)) (defBody (top 20)) (defScope (top 20)) [] [] f fd) (c_check_rounds_word : CalleeG P w K mg base "check_rounds_word" 5 (spRWord C_BadWord C_TooLarge)) (i_RankBook : CalleeI P w K mg base "RankBook" C_RankBook 1 (spBookInit P w C_RankBook)) (c_RankBook_first_parted : CalleeM P w K mg base C_RankBook "first_parted" 18 (spFirst P w C_RankBook)) : FnOk P w K mg base (L2N.CX P w) (19) f fd ["first", "second"] (spOf K (spRApart C_BadWord C_TooLarge)) := by
  refine fn2 F sc_rounds_apart (by decide +kernel) (fun rs m Kr Ke ⟨_, _, e, _⟩ => by rw [e]; rfl) fun X c rs m Kr Ke D L hx ⟨u, v, er, ⟨hu, hv⟩, em, e1, e2, k1, k2⟩ => ?_
  subst er em
  have e_check_rounds_word : Callee X "check_rounds_word" 5 (spRWord C_BadWord C_TooLarge) := D.callee c_check_rounds_word
  have j_RankBook : CalleeI X.prog X.w X.K X.mg X.base "RankBook" C_RankBook 1 (spBookInit P w C_RankBook) := D.calleeI i_RankBook
  have e_RankBook_first_parted : CalleeM X.prog X.w X.K X.mg X.base C_RankBook "first_parted" 18 (spFirst P w C_RankBook) := D.calleeM c_RankBook_first_parted
  have g_check_rounds_word : Gl X "check_rounds_word" := D.gl (by decide +kernel)
  have g_RankBook : Gl X "RankBook" := D.gl (by decide +kernel)
  refine dss_lo ?_
  show DSs X c [("first", some (rS u)), ("second", some (rS v))] [] (_ :: _) _
  obtain ⟨eP, eW⟩ : P = X.prog ∧ w = X.w := ⟨D.prog.symm, D.w.symm⟩
  subst eP eW
  ktf_call "d2"
  refine ⟨[], [], .nil, u, rfl, hu, rfl, ⟨fun q => hx _ _ _ _ (e1.word q), fun q q2 => hx _ _ _ _ (e1.large q q2)⟩, fun ok1 => ?_⟩
  ktf_call "d2"
  refine ⟨[], [], .nil, v, rfl, hv, rfl, ⟨fun q => hx _ _ _ _ ((e2 ok1).word q), fun q q2 => hx _ _ _ _ ((e2 ok1).large q q2)⟩, fun ok2 => ?_⟩
  ktf_call "d2"
  · rename_i hyp
    exact ⟨_, List.nil_sublist _, k1 ok1 ok2 hyp⟩
  · rename_i hyp
    intro s dx
    refine ⟨[], [], .nil, s, dx, rfl, rfl, fun pk pw => ⟨rfl, ?_⟩⟩
    dsimp only [bookM, List.append_nil, List.cons_append, List.nil_append]
    ktf_call "d2"
    refine ⟨_, [], split_all _, s, dx, pk, pw, u, v, rfl, hyp, ⟨by omega, by omega⟩, rfl, fun r m' hr => ?_⟩
    exact ⟨_, List.nil_sublist _, k2 ok1 ok2 hyp r hr⟩
end
end
end NC
/-! ## D2Sk -/
set_option Elab.async false
set_option linter.all false
set_option maxRecDepth 100000
set_option maxHeartbeats 2000000
/-! sorted(d) of a dict whose keys are texts -/
namespace D2
open PySem PySem.Spec PyProof.Rows L2
section
open PySem.W
/-- what sorted does behind the collecting -/
theorem sorted_collD {prog : Program} {w : World} {A : Around} {E : Value → Shared → Prop} {s : Shared} {β : Type} {bs : List β} {enc : β → PyData} {RR : Value → β → Prop} {v : Value} {Q : Value → Shared → Prop}
    (hcol : ∀ {R : List Value → Shared → Prop} {E' : Value → Shared → Prop}, (∀ (h' : Heap) (tk : Nat) (vs : List Value), (∀ b o, s.heap.get? b = some o → h'.get? b = some o) → PySem.W.EachIs RR vs bs → PySem.W.EachIs (fun v b => ∃ as, Reads h' v (enc b) as) vs bs → R vs { s with heap := h', toks := tk }) → wpAny (model prog w) A.in1 (collect v) R E' s)
    (hal : PySem.W.AllAlike (bs.map enc)) (hk : PySem.W.Sortable (bs.map enc)) (hL : bs.length ≤ sizeLine) (hu : ∀ b, b ∈ bs → A.units + 2 + (enc b).depth < cLine)
    (h : ∀ (hp : Heap) (tk : Nat) (vs out : List Value), (∀ b u, s.heap.get? b = some u → hp.get? b = some u) → vs.length = bs.length → PySem.W.EachIs RR out (bs.mergeSort (PySem.W.dataLe false enc)) → Q (.ref hp.objs.size) { s with heap := sortedHeap (hp.push (seqObj "list" vs.toArray 0)) hp.objs.size vs out.toArray, toks := tk }) :
    wpAny (model prog w) A (call (.builtin "sorted") [v]) Q E s := by
  refine call_function_entry_kw kind_sorted plain_sorted entry_sorted (args_sorted1 _) ?_
  unfold Builtin.«sorted»
  refine wpAny_bind (m := checkCount "sorted" 1 1 _) (wpAny_pure (wpAny_bind ?_))
  refine hcol fun hp tk vs kp e er => ?_
  have hlen : vs.length ≤ sizeLine := by rw [e.length]; exact hL
  refine wpAny_bind (wpAny_newList ?_ (by simpa using hlen))
  have hat : (hp.push (seqObj "list" vs.toArray 0)).get? hp.objs.size = some (seqObj "list" vs.toArray 0) := Heap.get?_push_size _ rfl
  have er' : PySem.W.EachIs (fun v b => ∃ as, Reads (sortingHeap (hp.push (seqObj "list" vs.toArray 0)) hp.objs.size vs) v (enc b) as) vs bs := er.mono fun _ _ ⟨as, r⟩ => ⟨as, PyProof.Rows.Reads.keeps (fun b u q => sortingHeap_old (Nat.ne_of_lt (Heap.lt_size q)) (Heap.get?_push_of_some _ q)) r⟩
  refine wpAny_bind (wpAny_holding (wpAny_call_entry_kw slot_list_sort ⟨_, hat, rfl⟩ entry_list_sort ?body (args_list_sort _)))
  refine wpAny_mono (PySem.W.list_sort_vals (P := fun f s' => f = .done (.ret .none) ∧ Q (.ref hp.objs.size) s') (s := { s with heap := hp.push (seqObj "list" vs.toArray 0), toks := tk }) (E := fun _ _ => False) hat (PySem.W.SortsAt.data (s := { s with heap := sortingHeap (hp.push (seqObj "list" vs.toArray 0)) hp.objs.size vs, toks := tk }) (PySem.W.each_map (R := fun v d => ∃ as, Reads (sortingHeap (hp.push (seqObj "list" vs.toArray 0)) hp.objs.size vs) v d as) enc er') hal hk (PySem.W.bound_map hu)) hlen ⟨rfl, h hp tk vs _ kp e.length (PySem.W.sortVals_data false e er' hal)⟩) ?_ (fun _ _ z => z.elim)
  rintro f s' hf
  obtain ⟨rfl, hq⟩ := hf
  exact ⟨_, rfl, wpAny_pure ⟨_, rfl, hq⟩⟩
end
abbrev sD (x : List Nat) : PyData := .str (sOf x)
theorem sD_alike (ks : List (List Nat)) : PySem.W.AllAlike (ks.map sD) := fun d hd d' hd' => by
  obtain ⟨x, _, rfl⟩ := List.mem_map.mp hd
  obtain ⟨y, _, rfl⟩ := List.mem_map.mp hd'
  rfl
section
variable {X : Cx} {c : Ct} {σ : Sl} {m m' : Mem} {k : Nat} {K : R → Mem → Prop} {e : Expr} {px pos : Pos}
def rSortedK (X : Cx) : List V → Hp → VK → Prop := fun xs H Q => ∃ (a : Addr) (kvs : List (Key × V)) (ks : List (List Nat)), xs = [.ref a] ∧ Rd H a (.dK kvs) ∧ kvs.map (·.1) = ks.map (fun x => (.inr (sOf x) : Key)) ∧ ks.length ≤ 1000000 ∧
  ∀ p, H p = none → Q (.ref p) (L2.upd H p (.lst ((ks.mergeSort (PySem.W.dataLe false sD)).map fun x => V.str (sOf x))))
theorem call_sortedK (hu : X.A.units + 64 < cLine) (hcalm : X.calm = true) : CallR X (.builtin "sorted") (rSortedK X) := by
  intro pins s τ H xs us Q I r h
  obtain ⟨a, kvs, ks, ex, hd, hks, hl6, q⟩ := h
  subst ex
  obtain rfl := Vals.ref1 r
  obtain ⟨z, lo, vs, rel, dd⟩ := dk_rd I.hok hd
  obtain ⟨ep, hat⟩ := dd.dictAt
  have hkeys : vs.map (·.1) = ks.map (fun x => (.inr (sOf x) : Key)) := rel.keys.symm.trans hks
  have hl : vs.length = ks.length := by
    have e := congrArg List.length hkeys
    rw [List.length_map, List.length_map] at e
    exact e
  have h16 : (1000000 : Nat) ≤ sizeLine := by decide
  refine sorted_collD (bs := ks) (enc := sD) (RR := fun u x => ∃ t, u = Value.str (sOf x) t) (fun {R E'} hR => ?_) (sD_alike ks) (.inr fun d hd => ?_) (by omega) (fun b _ => by show X.A.units + 2 + (PyData.str (sOf b)).depth < cLine; rw [PyData.depth]; omega) fun hp tk vs' out kp hl' eo => ?_
  · refine PySem.W.kdu_collect (A := X.A.in1) (PySem.W.kdl_dict (knd := mixKind X.prog X.w) (kvs := vs) (ep := ep) lo) (I.ok.hd hcalm) hat (by omega) fun h' tk acc hk hacc => ?_
    have hal : acc.toList.length = ks.length := by rw [Array.length_toList, hacc.1, hl]
    have each : ∀ {ks : List (List Nat)} {ws : List Value}, ws.length = ks.length → (∀ (j : Nat) (v : Value) (y : List Nat), ws[j]? = some v → ks[j]? = some y → ∃ t, v = .str (sOf y) t) → PySem.W.EachIs (fun u x => ∃ t, u = Value.str (sOf x) t) ws ks := by
      intro ks
      induction ks with
      | nil => intro ws hw _; rw [List.length_eq_zero_iff.mp hw]; exact .nil
      | cons y ks ih =>
        intro ws hw hj
        cases ws with
        | nil => cases hw
        | cons u ws => exact .cons (hj 0 u y rfl rfl) (ih (by simpa using hw) fun j v y e1 e2 => hj (j + 1) v y e1 e2)
    have E1 := each hal fun j v y e e4 => by
      obtain ⟨k, x, e1, e2⟩ := hacc.2 j v (by rw [← Array.getElem?_toList]; exact e)
      have e3 : (vs.map (·.1))[j]? = some k := by rw [List.getElem?_map, e1] <;> rfl
      rw [hkeys, List.getElem?_map, e4] at e3
      have e5 : (.inr (sOf y) : Key) = k := Option.some.inj e3
      subst e5
      exact Value.isStrOf_shape (x := sOf y) (v := v) e2
    exact hR h' tk acc.toList hk E1 (E1.mono fun u x ⟨t, et⟩ => ⟨[], by subst et; exact .str _ _⟩)
  · obtain ⟨x, _, rfl⟩ := List.mem_map.mp hd
    exact ⟨fun e => (by cases e), fun xs e => (by cases e)⟩
  · have g3 : ∀ {ys : List (List Nat)} {out : List Value}, PySem.W.EachIs (fun u x => ∃ t, u = Value.str (sOf x) t) out ys → Vals (ys.map fun x => V.str (sOf x)) out := by
      intro ys
      induction ys with
      | nil => intro out r; cases r; exact .nil
      | cons y ys ih => intro out r; cases r with | cons p ps => exact .cons p (ih ps)
    have hlen2 : ((ks.mergeSort (PySem.W.dataLe false sD)).map fun x => V.str (sOf x)).length ≤ sizeLine := by
      rw [List.length_map, List.length_mergeSort]; omega
    have hat2 : (hp.push (seqObj "list" vs'.toArray 0)).get? hp.objs.size = some (seqObj "list" vs'.toArray 0) := Heap.get?_push_size _ rfl
    obtain ⟨cn, hcn⟩ := sortedHeap_at (vs := vs') (out := out.toArray) hat2
    have hg : s.heap.get? hp.objs.size = none := by
      cases q0 : s.heap.get? hp.objs.size with
      | none => rfl
      | some u => exact absurd (Heap.lt_size (kp _ _ q0)) (Nat.lt_irrefl _)
    have hn : H hp.objs.size = none := HOk.fresh (HOk.kept I.hok kp) (Nat.le_refl _)
    exact ⟨.ref hp.objs.size, _, L2.Inv.laidN I (a := hp.objs.size) (o := .lst ((ks.mergeSort (PySem.W.dataLe false sD)).map fun x => V.str (sOf x))) (t' := tk) (fun b o e => by
      have hb := kp b o e
      rw [sortedHeap_old (Nat.ne_of_lt (Heap.lt_size hb)) (by rw [size_push']; exact Nat.lt_succ_of_lt (Heap.lt_size hb))]
      exact Heap.get?_push_of_some _ hb) hg hn ⟨hlen2, out, cn, g3 eo, hcn⟩, rfl, q _ hn⟩
theorem relRs_S {Kf : PySem.W.Frag} {G : Hp} : ∀ l : List (List Nat), RelRs Kf G (l.map rS) (l.map fun x => V.str (sOf x))
  | [] => .nil
  | _ :: l => .cons (.dat .str) (relRs_S l)
/-- sorted(d), d's keys texts -/
theorem d_sortedK (L : Live X c k) (hg : Gl X "sorted") (hm : X.mg "sorted" = none)
    (h : DE X c σ m e (fun r m1 => ∃ (a : Addr) (kvs : List (Key × R)) (ks : List (List Nat)) (m2 : Mem), r = .own a ∧ Has m1 a (.dk kvs) m2 ∧ kvs.map (·.1) = ks.map (fun x => (.inr (sOf x) : Key)) ∧ ks.length ≤ 1000000 ∧ ∀ p, K (.own p) ((p, .lst ((ks.mergeSort (PySem.W.dataLe false sD)).map rS)) :: m1)))
    (hst : starEach [e] X.env = (false, eval e X.env) :: starEach [] X.env := by rfl) : DE X c σ m (.Call (.Name "sorted" px) [e] [] pos) K :=
  de_callB (call_sortedK L.room.units L.calm) hg hm (by decide +kernel) (da_cons (h.imp fun r m1 ⟨a, kvs, ks, m2, er, hh, hks, hl, z⟩ => da_nil fun τ H G vs Q E rv q => by
    subst er
    obtain ⟨v, rfl, r1⟩ := one_of rv
    cases r1
    obtain ⟨_, ho, hho, ro⟩ := E.mem _ hh.mem
    cases ro with | dk rel =>
    exact ⟨a, _, ks, rfl, .inl hho, by rw [← rel.keys]; exact hks, hl, fun p hp' => q _ _ G _ _ (z p) (Ex.refl G) (E.new hp' (.lst (relRs_S _))) .own⟩) hst) (he := hst)
end
end D2
/-! ## NPcM -/
set_option Elab.async false
set_option linter.all false
set_option maxRecDepth 100000
set_option maxHeartbeats 2000000
/-! pieces of words, plainly -/
namespace NC.Pc
open PySem PySem.Spec PyProof PyProof.Rows PySem.W L2 D2
def pieceS (s : List Nat) (f ch : Nat) : Nat := if f < s.length ∧ s.getD f 0 = ch then f + 1 else f
def pieceF (s t : List Nat) : Nat := t.foldl (pieceS s) 0
def isPiece (s t : List Nat) : Bool := decide (pieceF s t = s.length)
theorem piece_step {s t : List Nat} {i : Nat} (hi : i < t.length) : pieceF s (t.take (i + 1)) = pieceS s (pieceF s (t.take i)) t[i] := by
  unfold pieceF
  rw [take_snoc hi, List.foldl_append]; rfl

theorem sub_snoc {x c : Nat} {l u : List Nat} : (l ++ [x]).Sublist (u ++ [c]) ↔ (l ++ [x]).Sublist u ∨ (x = c ∧ l.Sublist u) := by
  rw [← List.reverse_sublist, List.reverse_append, List.reverse_append]
  show (x :: l.reverse).Sublist (c :: u.reverse) ↔ _
  have key : ∀ {x c : Nat} {l u : List Nat}, (x :: l).Sublist (c :: u) ↔ (x :: l).Sublist u ∨ (x = c ∧ l.Sublist u) := fun {x c l u} => by
    constructor
    · intro h
      cases h with
      | cons _ h => exact .inl h
      | cons_cons _ h => exact .inr ⟨rfl, h⟩
    · rintro (h | ⟨rfl, h⟩)
      · exact .cons _ h
      · exact .cons_cons _ h
  rw [key]
  constructor
  · rintro (h | ⟨h1, h2⟩)
    · left
      rw [← List.reverse_sublist, List.reverse_append]; exact h
    · right
      exact ⟨h1, List.reverse_sublist.mp h2⟩
  · rintro (h | ⟨h1, h2⟩)
    · left
      rw [← List.reverse_sublist, List.reverse_append] at h; exact h
    · right
      exact ⟨h1, List.reverse_sublist.mpr h2⟩
theorem take_sub_snoc {s u : List Nat} {c k : Nat} (hk : k < s.length) : (s.take (k + 1)).Sublist (u ++ [c]) ↔ (s.take (k + 1)).Sublist u ∨ (s[k] = c ∧ (s.take k).Sublist u) := by
  have e : s.take (k + 1) = s.take k ++ [s[k]] := by rw [List.take_succ, List.getElem?_eq_getElem hk]; rfl
  rw [e]; exact sub_snoc
/-- the greedy walk finds the longest beginning -/
theorem greedy (s u : List Nat) : pieceF s u ≤ s.length ∧ (s.take (pieceF s u)).Sublist u ∧ ∀ k, k ≤ s.length → (s.take k).Sublist u → k ≤ pieceF s u := by
  suffices H : ∀ n, ∀ u : List Nat, u.length = n → pieceF s u ≤ s.length ∧ (s.take (pieceF s u)).Sublist u ∧ ∀ k, k ≤ s.length → (s.take k).Sublist u → k ≤ pieceF s u from H _ u rfl
  intro n
  induction n with
  | zero =>
    intro u hu
    have : u = [] := List.length_eq_zero_iff.mp hu
    subst this
    refine ⟨Nat.zero_le _, by show (s.take 0).Sublist []; exact List.Sublist.refl _, fun k hk h => ?_⟩
    have h2 := h.length_le
    rw [List.length_take, Nat.min_eq_left hk] at h2
    exact h2
  | succ n ih =>
    intro u hu
    obtain ⟨u', c, rfl⟩ : ∃ u' c, u = u' ++ [c] := by
      refine ⟨u.dropLast, u.getLast (by intro e; rw [e] at hu; cases hu), ?_⟩
      exact (List.dropLast_concat_getLast _).symm
    obtain ⟨h1, h2, h3⟩ := ih u' (by simpa using hu)
    have e : pieceF s (u' ++ [c]) = pieceS s (pieceF s u') c := by unfold pieceF; rw [List.foldl_append]; rfl
    rw [e]
    generalize pieceF s u' = f at h1 h2 h3
    unfold pieceS
    by_cases hc : f < s.length ∧ s.getD f 0 = c
    · rw [if_pos hc]
      have hf : s[f] = c := by have := hc.2; rw [List.getD_eq_getElem?_getD, List.getElem?_eq_getElem hc.1] at this; exact this
      refine ⟨hc.1, (take_sub_snoc hc.1).mpr (.inr ⟨hf, h2⟩), fun k hk h => ?_⟩
      match k, h with
      | 0, _ => omega
      | k + 1, h =>
        rcases (take_sub_snoc (by omega)).mp h with h | ⟨_, h⟩
        · have := h3 _ hk h; omega
        · have := h3 k (by omega) h; omega
    · rw [if_neg hc]
      refine ⟨h1, h2.trans (List.sublist_append_left _ _), fun k hk h => ?_⟩
      match k, h with
      | 0, _ => omega
      | k + 1, h =>
        rcases (take_sub_snoc (by omega)).mp h with h | ⟨hx, h⟩
        · exact h3 _ hk h
        · have hk2 := h3 k (by omega) h
          by_cases hkf : k = f
          · subst hkf
            exact absurd ⟨by omega, by rw [List.getD_eq_getElem?_getD, List.getElem?_eq_getElem (by omega)]; exact hx⟩ hc
          · omega
theorem isPiece_eq (s t : List Nat) : isPiece s t = decide (s.Sublist t) := by
  obtain ⟨h1, h2, h3⟩ := greedy s t
  unfold isPiece
  refine decide_eq_decide.mpr ⟨fun e => ?_, fun h => ?_⟩
  · rw [e, List.take_length] at h2; exact h2
  · have := h3 s.length (Nat.le_refl _) (by rw [List.take_length]; exact h)
    omega

theorem sorted_unique {α : Type} {lt : α → α → Prop} (ir : ∀ a, ¬ lt a a) (as : ∀ a b, lt a b → ¬ lt b a) : ∀ {l l' : List α}, l.Pairwise lt → l'.Pairwise lt → (∀ x, x ∈ l ↔ x ∈ l') → l = l'
  | [], [], _, _, _ => rfl
  | [], b :: l', _, _, h => absurd ((h b).mpr List.mem_cons_self) (List.not_mem_nil)
  | a :: l, [], _, _, h => absurd ((h a).mp List.mem_cons_self) (List.not_mem_nil)
  | a :: l, b :: l', p, q, h => by
    have p' := List.pairwise_cons.mp p
    have q' := List.pairwise_cons.mp q
    have e : a = b := by
      rcases List.mem_cons.mp ((h a).mp List.mem_cons_self) with e | e
      · exact e
      · rcases List.mem_cons.mp ((h b).mpr List.mem_cons_self) with e2 | e2
        · exact e2.symm
        · exact absurd (p'.1 _ e2) (as _ _ (q'.1 _ e))
    subst e
    rw [sorted_unique ir as p'.2 q'.2 fun x => ?_]
    constructor
    · intro hx
      rcases List.mem_cons.mp ((h x).mp (List.mem_cons_of_mem _ hx)) with e | e
      · subst e; exact absurd (p'.1 _ hx) (ir _)
      · exact e
    · intro hx
      rcases List.mem_cons.mp ((h x).mpr (List.mem_cons_of_mem _ hx)) with e | e
      · subst e; exact absurd (q'.1 _ hx) (ir _)
      · exact e
def wlt (a b : List Nat) : Prop := a.length < b.length ∨ (a.length = b.length ∧ a < b)
theorem wlt_ir (a : List Nat) : ¬ wlt a a := by
  rintro (h | ⟨_, h⟩)
  · omega
  · exact List.lt_irrefl a h
theorem wlt_as (a b : List Nat) (h : wlt a b) : ¬ wlt b a := by
  rintro (h2 | ⟨h3, h2⟩)
  · rcases h with h | ⟨h, _⟩ <;> omega
  · rcases h with h | ⟨_, h⟩
    · omega
    · exact List.lt_irrefl a (List.lt_trans h h2)
theorem wlt_tot {a b : List Nat} (h : ¬ wlt b a) (hn : a ≠ b) : wlt a b := by
  by_cases h1 : a.length < b.length
  · exact .inl h1
  · by_cases h2 : b.length < a.length
    · exact absurd (.inl h2) h
    · refine .inr ⟨by omega, ?_⟩
      have h3 : ¬ b < a := fun z => h (.inr ⟨by omega, z⟩)
      by_cases h4 : a < b
      · exact h4
      · exact absurd (List.le_antisymm (List.not_lt.mp h3) (List.not_lt.mp h4)) hn
def IsPieces (w : List Nat) (n : Nat) (l : List (List Nat)) : Prop := l.Pairwise wlt ∧ ∀ x, x ∈ l ↔ x.Sublist w ∧ x.length ≤ n
theorem IsPieces.uniq {w : List Nat} {n : Nat} {l l' : List (List Nat)} (h : IsPieces w n l) (h' : IsPieces w n l') : l = l' :=
  sorted_unique wlt_ir wlt_as h.1 h'.1 fun x => (h.2 x).trans (h'.2 x).symm
theorem nodup_len {α : Type} [DecidableEq α] : ∀ {xs ys : List α}, xs.Nodup → (∀ x ∈ xs, x ∈ ys) → xs.length ≤ ys.length
  | [], _, _, _ => Nat.zero_le _
  | x :: xs, ys, h, hs => by
    have h' := List.nodup_cons.mp h
    have hx := hs x List.mem_cons_self
    have := nodup_len (xs := xs) (ys := ys.erase x) h'.2 fun y hy => (List.mem_erase_of_ne (fun e => h'.1 (by rw [← e]; exact hy))).mpr (hs y (List.mem_cons_of_mem _ hy))
    rw [List.length_erase_of_mem hx] at this
    have := List.length_pos_of_mem hx
    rw [List.length_cons]; omega
def allW : Nat → List (List Nat)
  | 0 => [[]]
  | n + 1 => [] :: (allW n).flatMap fun x => [97 :: x, 98 :: x, 99 :: x]
abbrev Abc (w : List Nat) : Prop := ∀ c ∈ w, c = 97 ∨ c = 98 ∨ c = 99
theorem mem_allW : ∀ {n : Nat} {x : List Nat}, x.length ≤ n → Abc x → x ∈ allW n
  | 0, x, h, _ => by
    have : x = [] := List.length_eq_zero_iff.mp (by omega)
    rw [this]; exact List.mem_cons_self
  | n + 1, [], _, _ => List.mem_cons_self
  | n + 1, c :: x, h, ha => by
    refine List.mem_cons_of_mem _ (List.mem_flatMap.mpr ⟨x, mem_allW (by simpa using h) fun d hd => ha d (List.mem_cons_of_mem _ hd), ?_⟩)
    rcases ha c List.mem_cons_self with e | e | e <;> subst e <;> simp
theorem few {w : List Nat} {n : Nat} {ks : List (List Nat)} (ha : Abc w) (hn : n ≤ 4) (nd : ks.Nodup) (h : ∀ x ∈ ks, x.Sublist w ∧ x.length ≤ n) : ks.length ≤ 121 := by
  refine Nat.le_trans (nodup_len nd (ys := allW 4) fun x hx => mem_allW (by have := (h x hx).2; omega) fun c hc => ha c ((h x hx).1.subset hc)) ?_
  decide
/-! ### rows -/
theorem lt_app : ∀ {p q u v : List Nat}, p.length = q.length → p < q → p ++ u < q ++ v
  | [], [], _, _, _, h => absurd h (List.lt_irrefl _)
  | [], _ :: _, _, _, h, _ => by simp at h
  | _ :: _, [], _, _, h, _ => by simp at h
  | a :: p, b :: q, u, v, h, hl => by
    rw [List.cons_append, List.cons_append]
    rcases List.cons_lt_cons_iff.mp hl with h1 | ⟨h1, h2⟩
    · exact List.cons_lt_cons_iff.mpr (.inl h1)
    · exact List.cons_lt_cons_iff.mpr (.inr ⟨h1, lt_app (by simpa using h) h2⟩)
theorem lt_app2 : ∀ {p : List Nat} {x y : Nat}, x < y → p ++ [x] < p ++ [y]
  | [], x, y, h => List.cons_lt_cons_iff.mpr (.inl h)
  | a :: p, x, y, h => List.cons_lt_cons_iff.mpr (.inr ⟨rfl, lt_app2 h⟩)
def EndW (w p : List Nat) (e : Int) : Prop := 0 ≤ e ∧ e ≤ w.length ∧ ∀ n : Nat, n ≤ w.length → (p.Sublist (w.take n) ↔ e ≤ n)
theorem endW_nil (w : List Nat) : EndW w [] 0 := ⟨by omega, by omega, fun n _ => ⟨fun _ => by omega, fun _ => List.nil_sublist _⟩⟩
theorem snoc_ends {w p : List Nat} {e : Int} {l : Nat} (h : EndW w p e) : ∀ n : Nat, n ≤ w.length → ((p ++ [l]).Sublist (w.take n) ↔ ∃ j : Nat, j < n ∧ w.getD j 0 = l ∧ e ≤ j)
  | 0, _ => by
    constructor
    · intro z
      have := z.length_le
      simp at this
    · rintro ⟨j, hj, _⟩; omega
  | n + 1, hn => by
    have e1 : w.take (n + 1) = w.take n ++ [w[n]'(by omega)] := by rw [List.take_succ, List.getElem?_eq_getElem (by omega)]; rfl
    have e2 : w.getD n 0 = w[n]'(by omega) := by rw [List.getD_eq_getElem?_getD, List.getElem?_eq_getElem (by omega)]; rfl
    rw [e1, sub_snoc, snoc_ends h n (by omega), h.2.2 n (by omega)]
    constructor
    · rintro (⟨j, a, b, c⟩ | ⟨a, b⟩)
      · exact ⟨j, by omega, b, c⟩
      · exact ⟨n, by omega, by rw [e2, a], b⟩
    · rintro ⟨j, a, b, c⟩
      by_cases hj : j < n
      · exact .inl ⟨j, hj, b, c⟩
      · have : j = n := by omega
        subst this
        exact .inr ⟨by rw [← b, e2], c⟩
theorem find_step {w p : List Nat} {e : Int} {l : Nat} (h : EndW w p e) : (find3 w [l] e < 0 ∧ ¬ (p ++ [l]).Sublist w) ∨ (0 ≤ find3 w [l] e ∧ EndW w (p ++ [l]) (find3 w [l] e + 1)) := by
  have key := snoc_ends (l := l) h
  have hlen : (sOf w).length = w.length := by simp [sOf, Str.length]
  have hf : fromIndex (sOf w).length e = e.toNat := by
    have := h.1
    have := h.2.1
    unfold fromIndex
    split <;> omega
  have hg : ∀ k, (sOf w).cps.getD k 0 = w.getD k 0 := fun k => by simp [sOf]
  rcases StrLaws.find3_spec (sOf w) l e with ⟨a, b⟩ | ⟨k, a, b, c, d, f⟩
  · left
    have a' : find3 w [l] e = -1 := a
    refine ⟨by omega, fun z => ?_⟩
    obtain ⟨j, hj, e1, e2⟩ := (key w.length (Nat.le_refl _)).mp (by rw [List.take_length]; exact z)
    refine b j (by rw [hf]; omega) (by rw [hlen]; exact hj) ?_
    rw [hg]; exact e1
  · right
    have a' : find3 w [l] e = k := a
    rw [a']
    rw [hf] at b
    rw [hlen] at c
    refine ⟨by omega, by omega, by omega, fun n hn => (key n hn).trans ?_⟩
    constructor
    · rintro ⟨j, hj, e1, e2⟩
      by_cases hk : j < k
      · exact absurd (by rw [hg]; exact e1) (f j (by rw [hf]; omega) hk)
      · omega
    · intro hk
      exact ⟨k, by omega, by rw [← hg]; exact d, by omega⟩
abbrev stepL (w p : List Nat) (e : Int) (l : Nat) : Option (List Nat × Int) := if 0 ≤ find3 w [l] e then some (p ++ [l], find3 w [l] e + 1) else none
abbrev stepR (w : List Nat) (pe : List Nat × Int) : List (List Nat × Int) := [97, 98, 99].filterMap (stepL w pe.1 pe.2)
def rowS (w : List Nat) (row : List (List Nat × Int)) : List (List Nat × Int) := row.flatMap (stepR w)
structure GoodRow (w : List Nat) (k : Nat) (row : List (List Nat × Int)) : Prop where
  srt : row.Pairwise fun a b => a.1 < b.1
  all : ∀ pe ∈ row, pe.1.length = k ∧ EndW w pe.1 pe.2
  has : ∀ x : List Nat, x.length = k → x.Sublist w → ∃ e, (x, e) ∈ row
theorem row0 (w : List Nat) : GoodRow w 0 [([], 0)] where
  srt := List.pairwise_singleton _ _
  all pe h := by rw [List.mem_singleton.mp h]; exact ⟨rfl, endW_nil w⟩
  has x hx _ := ⟨0, by rw [List.length_eq_zero_iff.mp hx]; exact List.mem_singleton.mpr rfl⟩
theorem mem_stepR {w : List Nat} {pe qe : List Nat × Int} : qe ∈ stepR w pe ↔ ∃ l, (l = 97 ∨ l = 98 ∨ l = 99) ∧ 0 ≤ find3 w [l] pe.2 ∧ qe = (pe.1 ++ [l], find3 w [l] pe.2 + 1) := by
  unfold stepR
  rw [List.mem_filterMap]
  constructor
  · rintro ⟨l, hl, h⟩
    refine ⟨l, by simpa using hl, ?_⟩
    unfold stepL at h
    split at h
    · next hc => exact ⟨hc, (Option.some.inj h).symm⟩
    · cases h
  · rintro ⟨l, hl, h1, h2⟩
    refine ⟨l, by simpa using hl, ?_⟩
    unfold stepL
    rw [if_pos h1, h2]
theorem rowS_ok {w : List Nat} {k : Nat} {row : List (List Nat × Int)} (ha : Abc w) (h : GoodRow w k row) : GoodRow w (k + 1) (rowS w row) where
  srt := by
    refine List.pairwise_flatMap.mpr ⟨fun pe hpe => ?_, ?_⟩
    · refine List.pairwise_filterMap.mpr ?_
      have base : List.Pairwise (· < ·) [97, 98, 99] := by decide
      refine base.imp fun {a b} hab => ?_
      intro x hx y hy
      unfold stepL at hx hy
      split at hx
      · split at hy
        · rw [← Option.some.inj hx, ← Option.some.inj hy]
          exact lt_app2 hab
        · cases hy
      · cases hx
    · refine (List.pairwise_iff_getElem.mpr fun i j hi hj hij => ?_)
      intro x hx y hy
      have hlt := List.pairwise_iff_getElem.mp h.srt i j hi hj hij
      obtain ⟨l, _, _, e1⟩ := mem_stepR.mp hx
      obtain ⟨l', _, _, e2⟩ := mem_stepR.mp hy
      rw [e1, e2]
      exact lt_app (by rw [(h.all _ (List.getElem_mem hi)).1, (h.all _ (List.getElem_mem hj)).1]) hlt
  all qe hq := by
    obtain ⟨pe, hp, hs⟩ := List.mem_flatMap.mp hq
    obtain ⟨l, _, h0, rfl⟩ := mem_stepR.mp hs
    obtain ⟨h1, h2⟩ := h.all pe hp
    refine ⟨by simp [h1], ?_⟩
    rcases find_step (l := l) h2 with ⟨a, _⟩ | ⟨_, b⟩
    · omega
    · exact b
  has x hx hs := by
    obtain ⟨p, l, rfl⟩ : ∃ p l, x = p ++ [l] := by
      refine ⟨x.dropLast, x.getLast (by intro e; rw [e] at hx; cases hx), ?_⟩
      exact (List.dropLast_concat_getLast _).symm
    obtain ⟨e, he⟩ := h.has p (by simpa using hx) ((List.sublist_append_left _ _).trans hs)
    rcases find_step (l := l) (h.all _ he).2 with ⟨_, a⟩ | ⟨a, _⟩
    · exact absurd hs a
    · exact ⟨_, List.mem_flatMap.mpr ⟨_, he, mem_stepR.mpr ⟨l, ha l (hs.subset (by simp)), a, rfl⟩⟩⟩
theorem rowS_len (w : List Nat) : ∀ row : List (List Nat × Int), (rowS w row).length ≤ 3 * row.length
  | [] => by simp [rowS]
  | pe :: row => by
    have := rowS_len w row
    have h2 : (stepR w pe).length ≤ 3 := List.length_filterMap_le _ _
    unfold rowS at *
    rw [List.flatMap_cons, List.length_append, List.length_cons]
    omega
theorem pieces0 (w : List Nat) : IsPieces w 0 [[]] := ⟨List.pairwise_singleton _ _, fun x => by
  rw [List.mem_singleton]
  constructor
  · rintro rfl; exact ⟨List.nil_sublist _, Nat.le_refl _⟩
  · rintro ⟨_, h⟩; exact List.length_eq_zero_iff.mp (by omega)⟩
theorem pieces_go {w : List Nat} {k : Nat} {out : List (List Nat)} {row : List (List Nat × Int)} (h : IsPieces w k out) (g : GoodRow w (k + 1) row) : IsPieces w (k + 1) (out ++ row.map (·.1)) := by
  refine ⟨List.pairwise_append.mpr ⟨h.1, ?_, fun a ha b hb => ?_⟩, fun x => ?_⟩
  · refine List.pairwise_map.mpr (List.pairwise_iff_getElem.mpr fun i j hi hj hij => ?_)
    exact .inr ⟨by rw [(g.all _ (List.getElem_mem hi)).1, (g.all _ (List.getElem_mem hj)).1], List.pairwise_iff_getElem.mp g.srt i j hi hj hij⟩
  · obtain ⟨pe, hp, rfl⟩ := List.mem_map.mp hb
    refine .inl ?_
    rw [(g.all _ hp).1]
    have := ((h.2 a).mp ha).2
    omega
  · rw [List.mem_append, h.2 x]
    constructor
    · rintro (⟨a, b⟩ | hx)
      · exact ⟨a, by omega⟩
      · obtain ⟨pe, hp, rfl⟩ := List.mem_map.mp hx
        obtain ⟨a, b, c, d⟩ := g.all _ hp
        refine ⟨?_, by omega⟩
        have := (d w.length (Nat.le_refl _)).mpr c
        rw [List.take_length] at this
        exact this
    · rintro ⟨a, b⟩
      by_cases hb : x.length ≤ k
      · exact .inl ⟨a, hb⟩
      · obtain ⟨e, he⟩ := g.has x (by omega) a
        exact .inr (List.mem_map.mpr ⟨_, he, rfl⟩)

/-- the datum of a pair (len(x), x) -/
abbrev gW (x : List Nat) : PyData := .tuple [.int x.length, .str (sOf x)]
theorem gW_lt (a b : List Nat) : dataLe false gW a b = true ↔ ¬ wlt b a := by
  show (!PyProof.Rows.lexLt itemOrd (keyToks (gW b)) (keyToks (gW a))) = true ↔ _
  have e : PyProof.Rows.lexLt itemOrd (keyToks (gW b)) (keyToks (gW a)) = true ↔ wlt b a := by
    have t : ∀ x, keyToks (gW x) = [.inl 1, .inl (x.length : Int), .inl 1, .inr x, .inl 0] := fun x => by
      simp only [gW, keyToks, keyToksAll, sOf]; rfl
    rw [t, t, lex_self (O := itemOrd), lex_true (O := itemOrd), lex_self (O := itemOrd), lex_true (O := itemOrd)]
    have h1 : ∀ a b : Int, itemOrd.blt (.inl a) (.inl b) = decide (a < b) := fun _ _ => rfl
    have h2 : ∀ a b : List Nat, itemOrd.blt (.inr a) (.inr b) = decide (a < b) := fun _ _ => rfl
    rw [h1, h1, h2, h2, lex_irrefl (O := itemOrd)]
    unfold wlt
    simp only [decide_eq_true_eq, decide_eq_false_iff_not, Bool.false_eq_true, and_false, or_false]
    constructor
    · rintro (h | ⟨h, h'⟩)
      · exact .inl (by omega)
      · by_cases hl : b.length < a.length
        · exact .inl hl
        · exact .inr ⟨by omega, h'⟩
    · rintro (h | ⟨h, h'⟩)
      · exact .inl (by omega)
      · exact .inr ⟨by omega, h'⟩
  rw [← e]
  cases PyProof.Rows.lexLt itemOrd (keyToks (gW b)) (keyToks (gW a)) <;> simp
/-- the keys kept behind the first letters -/
def Keys (w : List Nat) (n : Nat) (ks : List (List Nat)) : Prop := ks.Nodup ∧ ∀ x, x ∈ ks ↔ x.Sublist w ∧ x.length ≤ n
theorem keys0 (n : Nat) : Keys [] n [[]] := ⟨by simp, fun x => by
  rw [List.mem_singleton, List.sublist_nil]
  exact ⟨fun e => ⟨e, by rw [e]; exact Nat.zero_le _⟩, fun h => h.1⟩⟩
def putW (ks : List (List Nat)) (x : List Nat) : List (List Nat) := if x ∈ ks then ks else ks ++ [x]
theorem putW_nodup {ks : List (List Nat)} {x : List Nat} (h : ks.Nodup) : (putW ks x).Nodup := by
  unfold putW
  split
  · exact h
  · next hc =>
    refine List.nodup_append.mpr ⟨h, by simp, fun a ha b hb => ?_⟩
    rw [List.mem_singleton.mp hb]
    intro e; subst e; exact hc ha
theorem mem_putW {ks : List (List Nat)} {x y : List Nat} : y ∈ putW ks x ↔ y ∈ ks ∨ y = x := by
  unfold putW
  split
  · next hc => exact ⟨.inl, fun h => h.elim id fun e => by rw [e]; exact hc⟩
  · rw [List.mem_append, List.mem_singleton]
/-- within a turn: the first j of the listed keys l are done -/
def Mid (l : List (List Nat)) (a n j : Nat) (ks : List (List Nat)) : Prop := ks.Nodup ∧ ∀ x, x ∈ ks ↔ x ∈ l ∨ ∃ y ∈ l.take j, y.length < n ∧ x = y ++ [a]
theorem mid0 {w : List Nat} {n a : Nat} {ks : List (List Nat)} (h : Keys w n ks) : Mid ks a n 0 ks := ⟨h.1, fun x => by simp⟩
theorem mid_yes {l ks : List (List Nat)} {a n j : Nat} (h : Mid l a n j ks) (hj : j < l.length) (hy : (l[j]'hj).length < n) : Mid l a n (j + 1) (putW ks (l[j]'hj ++ [a])) := by
  refine ⟨putW_nodup h.1, fun x => ?_⟩
  have e : l.take (j + 1) = l.take j ++ [l[j]'hj] := by rw [List.take_succ, List.getElem?_eq_getElem hj]; rfl
  rw [mem_putW, h.2, e]
  constructor
  · rintro ((h | ⟨y, a1, a2, a3⟩) | h)
    · exact .inl h
    · exact .inr ⟨y, List.mem_append_left _ a1, a2, a3⟩
    · exact .inr ⟨_, List.mem_append_right _ List.mem_cons_self, hy, h⟩
  · rintro (h | ⟨y, a1, a2, a3⟩)
    · exact .inl (.inl h)
    · rcases List.mem_append.mp a1 with a1 | a1
      · exact .inl (.inr ⟨y, a1, a2, a3⟩)
      · rw [List.mem_singleton.mp a1] at a3
        exact .inr a3
theorem mid_no {l ks : List (List Nat)} {a n j : Nat} (h : Mid l a n j ks) (hj : j < l.length) (hy : ¬ (l[j]'hj).length < n) : Mid l a n (j + 1) ks := by
  refine ⟨h.1, fun x => ?_⟩
  have e : l.take (j + 1) = l.take j ++ [l[j]'hj] := by rw [List.take_succ, List.getElem?_eq_getElem hj]; rfl
  rw [h.2, e]
  constructor
  · rintro (h | ⟨y, a1, a2, a3⟩)
    · exact .inl h
    · exact .inr ⟨y, List.mem_append_left _ a1, a2, a3⟩
  · rintro (h | ⟨y, a1, a2, a3⟩)
    · exact .inl h
    · rcases List.mem_append.mp a1 with a1 | a1
      · exact .inr ⟨y, a1, a2, a3⟩
      · rw [List.mem_singleton.mp a1] at a2
        exact absurd a2 hy
theorem mid_end {w l ks : List (List Nat)} {u : List Nat} {a n : Nat} (h0 : Keys u n l) (h : Mid l a n l.length ks) : Keys (u ++ [a]) n ks := by
  refine ⟨h.1, fun x => (h.2 x).trans ?_⟩
  rw [List.take_length, h0.2]
  constructor
  · rintro (⟨a1, a2⟩ | ⟨y, a1, a2, rfl⟩)
    · exact ⟨a1.trans (List.sublist_append_left _ _), a2⟩
    · exact ⟨((h0.2 y).mp a1).1.append (List.Sublist.refl _), by simp; omega⟩
  · rintro ⟨a1, a2⟩
    by_cases hx : x = []
    · subst hx; exact .inl ⟨List.nil_sublist _, a2⟩
    · obtain ⟨p, c, rfl⟩ : ∃ p c, x = p ++ [c] := ⟨x.dropLast, x.getLast hx, (List.dropLast_concat_getLast _).symm⟩
      rcases sub_snoc.mp a1 with z | ⟨rfl, z⟩
      · exact .inl ⟨z, a2⟩
      · simp at a2
        exact .inr ⟨p, (h0.2 p).mpr ⟨z, by omega⟩, by omega, rfl⟩
theorem sort_ok {w : List Nat} {n : Nat} {ks : List (List Nat)} (h : Keys w n ks) : IsPieces w n (ks.mergeSort (dataLe false gW)) := by
  have tl := sortLe_total (listOrd itemOrd) false fun b => keyToks (gW b)
  have pw : (ks.mergeSort (dataLe false gW)).Pairwise fun a b => dataLe false gW a b = true :=
    List.pairwise_mergeSort (fun a b c h1 h2 => tl.trans a b c h1 h2) (fun a b => by rcases tl.total a b with z | z <;> simp [dataLe, z]) ks
  have nd : (ks.mergeSort (dataLe false gW)).Nodup := (List.mergeSort_perm ks _).nodup_iff.mpr h.1
  refine ⟨?_, fun x => by rw [List.mem_mergeSort]; exact h.2 x⟩
  have both := pw.and nd
  exact both.imp fun {a b} ⟨h1, h2⟩ => wlt_tot ((gW_lt a b).mp h1) h2
theorem gW_alike (ks : List (List Nat)) : AllAlike (ks.map gW) := fun d hd d' hd' => by
  obtain ⟨x, _, rfl⟩ := List.mem_map.mp hd
  obtain ⟨y, _, rfl⟩ := List.mem_map.mp hd'
  simp [gW, alike, alikeAll]
theorem gW_sortable (ks : List (List Nat)) : Sortable (ks.map gW) := .inl fun d hd => by
  obtain ⟨x, _, rfl⟩ := List.mem_map.mp hd
  exact ⟨_, _, rfl⟩
end NC.Pc
/-! ## NFlag -/
set_option Elab.async false
set_option linter.all false
set_option maxRecDepth 100000
set_option maxHeartbeats 2000000
namespace NC
open PySem PySem.Spec PyProof.Rows L2 D2
local macro_rules | `(tactic| ktf_call "lk") => `(tactic| (with_reducible first | exact Lk.here | exact (Lk.there Lk.here) | exact (Lk.there (Lk.there Lk.here)) | exact (Lk.there (Lk.there (Lk.there Lk.here))) | exact (Lk.there (Lk.there (Lk.there (Lk.there Lk.here)))) | exact (Lk.there (Lk.there (Lk.there (Lk.there (Lk.there Lk.here))))) | exact (Lk.there (Lk.there (Lk.there (Lk.there (Lk.there (Lk.there Lk.here)))))) | exact (Lk.there (Lk.there (Lk.there (Lk.there (Lk.there (Lk.there (Lk.there Lk.here))))))) | exact (Lk.there (Lk.there (Lk.there (Lk.there (Lk.there (Lk.there (Lk.there (Lk.there Lk.here)))))))) | exact (Lk.there (Lk.there (Lk.there (Lk.there (Lk.there (Lk.there (Lk.there (Lk.there (Lk.there Lk.here))))))))) | exact (Lk.there (Lk.there (Lk.there (Lk.there (Lk.there (Lk.there (Lk.there (Lk.there (Lk.there (Lk.there Lk.here)))))))))) | exact (Lk.there (Lk.there (Lk.there (Lk.there (Lk.there (Lk.there (Lk.there (Lk.there (Lk.there (Lk.there (Lk.there Lk.here))))))))))) | exact (Lk.there (Lk.there (Lk.there (Lk.there (Lk.there (Lk.there (Lk.there (Lk.there (Lk.there (Lk.there (Lk.there (Lk.there Lk.here)))))))))))) | exact (Lk.there (Lk.there (Lk.there (Lk.there (Lk.there (Lk.there (Lk.there (Lk.there (Lk.there (Lk.there (Lk.there (Lk.there (Lk.there Lk.here))))))))))))) | fail "none"))
local macro_rules | `(tactic| ktf_call "put") => `(tactic| (with_reducible first | exact PutF.here | exact (PutF.there PutF.here) | exact (PutF.there (PutF.there PutF.here)) | exact (PutF.there (PutF.there (PutF.there PutF.here))) | exact (PutF.there (PutF.there (PutF.there (PutF.there PutF.here)))) | exact (PutF.there (PutF.there (PutF.there (PutF.there (PutF.there PutF.here))))) | exact (PutF.there (PutF.there (PutF.there (PutF.there (PutF.there (PutF.there PutF.here)))))) | exact (PutF.there (PutF.there (PutF.there (PutF.there (PutF.there (PutF.there (PutF.there PutF.here))))))) | exact (PutF.there (PutF.there (PutF.there (PutF.there (PutF.there (PutF.there (PutF.there (PutF.there PutF.here)))))))) | exact (PutF.there (PutF.there (PutF.there (PutF.there (PutF.there (PutF.there (PutF.there (PutF.there (PutF.there PutF.here))))))))) | exact (PutF.there (PutF.there (PutF.there (PutF.there (PutF.there (PutF.there (PutF.there (PutF.there (PutF.there (PutF.there PutF.here)))))))))) | exact (PutF.there (PutF.there (PutF.there (PutF.there (PutF.there (PutF.there (PutF.there (PutF.there (PutF.there (PutF.there (PutF.there PutF.here))))))))))) | exact (PutF.there (PutF.there (PutF.there (PutF.there (PutF.there (PutF.there (PutF.there (PutF.there (PutF.there (PutF.there (PutF.there (PutF.there PutF.here)))))))))))) | exact (PutF.there (PutF.there (PutF.there (PutF.there (PutF.there (PutF.there (PutF.there (PutF.there (PutF.there (PutF.there (PutF.there (PutF.there (PutF.there PutF.here))))))))))))) | fail "none"))
local macro_rules | `(tactic| ktf_call "has") => `(tactic| (with_reducible first | exact Has.here | exact (Has.there Has.here) | exact (Has.there (Has.there Has.here)) | exact (Has.there (Has.there (Has.there Has.here))) | exact (Has.there (Has.there (Has.there (Has.there Has.here)))) | exact (Has.there (Has.there (Has.there (Has.there (Has.there Has.here))))) | exact (Has.there (Has.there (Has.there (Has.there (Has.there (Has.there Has.here)))))) | exact (Has.there (Has.there (Has.there (Has.there (Has.there (Has.there (Has.there Has.here))))))) | fail "none"))
local macro_rules | `(tactic| ktf_call "chg") => `(tactic| (with_reducible first | exact Chg.here | exact (Chg.there Chg.here) | exact (Chg.there (Chg.there Chg.here)) | exact (Chg.there (Chg.there (Chg.there Chg.here))) | exact (Chg.there (Chg.there (Chg.there (Chg.there Chg.here)))) | exact (Chg.there (Chg.there (Chg.there (Chg.there (Chg.there Chg.here))))) | exact (Chg.there (Chg.there (Chg.there (Chg.there (Chg.there (Chg.there Chg.here)))))) | exact (Chg.there (Chg.there (Chg.there (Chg.there (Chg.there (Chg.there (Chg.there Chg.here))))))) | fail "none"))
local macro_rules | `(tactic| ktf_call "vl") => `(tactic| first | ((with_reducible refine' VL.own ?cv); (case cv => ktf_call "has")) | with_reducible exact VL.dat | fail "vl")
local macro_rules | `(tactic| ktf_call "vu") => `(tactic| ((with_reducible refine' VU.own ?cv); (case cv => ktf_call "has")))
local macro_rules | `(tactic| ktf_call "ati") => `(tactic| first | assumption | exact ati_l rfl | fail "ati")
local macro_rules | `(tactic| ktf_call "vi") => `(tactic| first | with_reducible exact vi_dat | ((with_reducible refine' vi_own ?cv); (case cv => ktf_call "has")) | ((with_reducible refine' vi_nil ?cv); (case cv => ktf_call "vl")) | fail "vi")
local macro_rules | `(tactic| ktf_call "vs") => `(tactic| first | with_reducible exact vs_dat | ((with_reducible refine' vs_own ?cv); (case cv => ktf_call "has")) | ((with_reducible refine' vs_nil ?cv); (case cv => ktf_call "vl")) | fail "vs")
local macro_rules | `(tactic| ktf_call "hyp") => `(tactic| simp only [decide_eq_true_eq, decide_eq_false_iff_not, Bool.not_eq_true', Bool.not_eq_false', Bool.not_true, Bool.not_false, Bool.true_eq_false, Bool.false_eq_true, Int.not_lt, Int.not_le] at *)
local macro_rules | `(tactic| ktf_call "side") => `(tactic| first | assumption | decide | omega | (simp only [List.length_cons, List.length_nil, List.length_map]; omega) | exact ⟨Int.emod_nonneg _ (by omega), Int.emod_lt_of_pos _ (by omega)⟩ | (decide +kernel) | (simp; done) | (simp; omega))
local macro_rules | `(tactic| ktf_call "cmul") => `(tactic| first | assumption | exact cm_l (by omega) (by omega) | exact cm_r (by omega) (by omega) | fail "cmul")
local macro_rules | `(tactic| ktf_call "cdiv") => `(tactic| first | assumption | exact ⟨by assumption, by assumption⟩ | exact cd_s (by omega) (by omega) | fail "cdiv")
local macro_rules | `(tactic| ktf_call "frz") => `(tactic| (repeat (first | exact Frz.dat | exact Frzs.nil | apply Frzs.cons | apply Frz.lst | exact Frzs.map _ _)))
local macro_rules | `(tactic| ktf_call "ln") => `(tactic| first | ((with_reducible refine' ln_I ?cv); (case cv => ktf_call "vi")) | ((with_reducible refine' ln_S ?cv); (case cv => ktf_call "vs")) | ((with_reducible refine' Ln.lst ?cv); (case cv => ktf_call "vl")) | ((with_reducible refine' Ln.str ?cv); (case cv => ktf_call "side")) | with_reducible exact Ln.tup | fail "ln")
local macro_rules | `(tactic| ktf_call "tym") => `(tactic| first | with_reducible exact TyM.str | with_reducible exact TyM.lst (by ktf_call "vl") | with_reducible exact TyM.int | with_reducible exact TyM.dk (by ktf_call "has"))
local macro_rules | `(tactic| ktf_call "gl") => `(tactic| first | assumption | exact Def.gl (by assumption) (by decide +kernel) | exact IsBlk.gl (by assumption) (by decide +kernel) | exact IsBlkH.gl (by assumption) (by decide +kernel) | fail "gl")
local macro_rules | `(tactic| ktf_call "mg") => `(tactic| first | assumption | exact Def.mg_ (by assumption) (by assumption) | exact IsBlk.mg (by assumption) (by ktf_call "mg") | exact IsBlkH.mg (by assumption) (by ktf_call "mg") | fail "mg")
local macro_rules | `(tactic| ktf_call "own") => `(tactic| first | assumption | exact Def.own (by assumption) (by decide +kernel) | fail "own")
local macro_rules | `(tactic| ktf_call "cal") => `(tactic| first | assumption | exact Def.callee (by assumption) (by assumption) | exact IsBlk.callee (by assumption) (by ktf_call "cal") | fail "cal")
local macro_rules | `(tactic| ktf_call "fog") => `(tactic| (repeat (first | with_reducible exact Fog.nil | with_reducible apply Fog.keep | with_reducible apply Fog.drop)))
local macro_rules | `(tactic| ktf_call "blk") => `(tactic| first | with_reducible exact Blk.nil | exact Blk.keep (by decide +kernel) (by ktf_call "blk") | exact Blk.drop (by ktf_call "blk"))
local macro_rules | `(tactic| ktf_call "sub") => `(tactic| (repeat (with_reducible first | exact List.Sublist.slnil | exact List.nil_sublist _ | exact sub_nil _ | apply List.Sublist.cons_cons | apply List.Sublist.cons)))
local macro_rules | `(tactic| ktf_call "ce") => `(tactic| fail "ce")
-- expressions
local macro_rules | `(tactic| ktf_call "e") => `(tactic| first
  | ((with_reducible show DE _ _ _ _ (.Name _ _) _); refine de_name (by ktf_call "lk") ?_)
  | ((with_reducible show DE _ _ _ _ (.Constant _ _ _) _); first | refine de_int ?_ | refine de_str ?_ | refine de_bl ?_ | refine de_non ?_)
  | ((with_reducible show DE _ _ _ _ (.BinOp _ _ _ _) _); refine de_bin ?_)
  | ((with_reducible show DE _ _ _ _ (.Subscript _ (.Slice _ _ none _) _) _); refine d_slice ?_)
  | ((with_reducible show DE _ _ _ _ (.Subscript _ _ _) _); refine de_ix ?_)
  | ((with_reducible show DE _ _ _ _ (.Call (.Name _ _) _ _ _) _); first
      | ((with_reducible show DE _ _ _ _ (.Call (.Name "len" _) _ _ _) _); refine d_len (by ktf_call "gl") (by ktf_call "mg") ?_)
      | ((with_reducible show DE _ _ _ _ (.Call (.Name "int" _) _ _ _) _); refine d_int (by ktf_call "gl") (by ktf_call "mg") ?_)
      | ((with_reducible show DE _ _ _ _ (.Call (.Name "abs" _) _ _ _) _); refine d_abs (by ktf_call "gl") (by ktf_call "mg") ?_)
      | ktf_call "ce"
      | refine de_call (by ktf_call "cal") (by assumption) (by ktf_call "gl") ?_ (hjk := by omega))
  | ((with_reducible show DE _ _ _ _ (.Call (.Attribute _ "join" _) _ _ _) _); refine d_join ?_)
  | ((with_reducible show DE _ _ _ _ (.Call (.Attribute _ "append" _) _ _ _) _); refine d_appendL ?_)
  | ((with_reducible show DE _ _ _ _ (.Call (.Attribute _ "extend" _) _ _ _) _); refine d_extendL ?_)
  | ((with_reducible show DE _ _ _ _ (.Call (.Attribute _ "find" _) [_, _] _ _) _); refine d_find3 ?_)
  | ((with_reducible show DE _ _ _ _ (.Compare _ [_] [_] _) _); refine de_cmp ?_)
  | ((with_reducible show DE _ _ _ _ (.BoolOp _ [_] _) _); refine de_bo1 ?_)
  | ((with_reducible show DE _ _ _ _ (.BoolOp .And _ _) _); refine de_and ?_)
  | ((with_reducible show DE _ _ _ _ (.BoolOp .Or _ _) _); refine de_or ?_)
  | ((with_reducible show DE _ _ _ _ (.UnaryOp .Not _ _) _); refine de_not ?_)
  | ((with_reducible show DE _ _ _ _ (.UnaryOp _ _ _) _); refine de_un ?_)
  | ((with_reducible show DE _ _ _ _ (.List _ _) _); refine de_lst ?_)
  | ((with_reducible show DE _ _ _ _ (.Tuple _ _ _) _); refine de_tup ?_)
  | ((with_reducible show DE _ _ _ _ (.IfExp _ _ _ _) _); refine de_if ?_))
local macro_rules | `(tactic| ktf_call "o") => `(tactic| first
  | ((with_reducible show OP _ _ _ _ (binaryOp _) _ _ _); first
    | ((with_reducible refine' o_add  ?kk))
    | ((with_reducible refine' o_addS ?ca ?kk); (case ca => ktf_call "side"))
    | ((with_reducible refine' o_cat ?ca ?cb ?cd (fun p => ?kk)); (case ca => ktf_call "vu"); (case cb => ktf_call "vu"); (case cd => ktf_call "side"))
    | ((with_reducible refine' o_sub  ?kk))
    | ((with_reducible refine' o_mulS ?ca ?kk); (case ca => ktf_call "cmul"))
    | ((with_reducible refine' o_mul ?ca ?kk); (case ca => assumption))
    | ((with_reducible refine' o_div ?ca ?kk); (case ca => ktf_call "cdiv"))
    | ((with_reducible refine' o_mod ?ca ?kk); (case ca => (first | assumption | omega | decide)))
    | ((with_reducible refine' o_pow ?ca ?kk); (case ca => decide))
    | fail "o")
  | ((with_reducible show OP _ _ _ _ (compareOp _) _ _ _); first
    | ((with_reducible refine' o_lt  ?kk))
    | ((with_reducible refine' o_le  ?kk))
    | ((with_reducible refine' o_gt  ?kk))
    | ((with_reducible refine' o_ge  ?kk))
    | ((with_reducible refine' o_eqI  ?kk))
    | ((with_reducible refine' o_eqS  ?kk))
    | ((with_reducible refine' o_eqB  ?kk))
    | ((with_reducible refine' o_eqLI ?ca ?cb ?cd ?kk); (case ca => assumption); (case cb => ktf_call "vi"); (case cd => ktf_call "vi"))
    | ((with_reducible refine' o_eqLS ?ca ?cb ?cd ?kk); (case ca => assumption); (case cb => ktf_call "vs"); (case cd => ktf_call "vs"))
    | ((with_reducible refine' o_neI  ?kk))
    | ((with_reducible refine' o_neS  ?kk))
    | ((with_reducible refine' o_neLI ?ca ?cb ?cd ?kk); (case ca => assumption); (case cb => ktf_call "vi"); (case cd => ktf_call "vi"))
    | ((with_reducible refine' o_neLS ?ca ?cb ?cd ?kk); (case ca => assumption); (case cb => ktf_call "vs"); (case cd => ktf_call "vs"))
    | ((with_reducible refine' o_isB  ?kk))
    | fail "o")
  | ((with_reducible refine' u_neg  ?kk))
  | ((with_reducible refine' x_I ?ca ?cb ?kk); (case ca => ktf_call "vi"); (case cb => ktf_call "side"))
  | ((with_reducible refine' x_S ?ca ?cb ?kk); (case ca => ktf_call "vs"); (case cb => ktf_call "side"))
  | ((with_reducible refine' x_B ?ca ?cb ?kk); (case ca => ((with_reducible refine' vb_own ?cv); (case cv => ktf_call "has"))); (case cb => ktf_call "side"))
  | ((with_reducible refine' x_ch ?ca ?cb ?kk); (case ca => ktf_call "side"); (case cb => ktf_call "side"))
  | ((with_reducible refine' x_lst ?ca ?cb ?kk); (case ca => ktf_call "vl"); (case cb => ktf_call "ati"))
  | ((with_reducible refine' x_tup ?ca ?kk); (case ca => ktf_call "ati"))
  | ((with_reducible refine' x_str ?ca ?cb ?kk); (case ca => ktf_call "side"); (case cb => ktf_call "ati"))
  | ((with_reducible refine' s_lst ?ca (fun p => ?kk)); (case ca => ktf_call "vl"))
  | ((with_reducible refine' s_str ?ca ?kk); (case ca => ktf_call "side"))
  | fail "o")
local macro_rules | `(tactic| ktf_call "t") => `(tactic| first
  | ((with_reducible show DT _ _ _ _ (.Compare _ [_] [_] _) _); refine dt_cmp ?_)
  | ((with_reducible show DT _ _ _ _ (.BoolOp _ _ _) _); refine dt_bool ?_)
  | ((with_reducible show DT _ _ _ _ (.UnaryOp .Not _ _) _); refine dt_not ?_)
  | ((with_reducible show DT _ _ _ _ _ _); refine dt_val ?_)
  | ((with_reducible show DW _ _ _ _ (.BoolOp .And [_] _) _); refine dw_and1 ?_)
  | ((with_reducible show DW _ _ _ _ (.BoolOp .Or [_] _) _); refine dw_or1 ?_)
  | ((with_reducible show DW _ _ _ _ (.BoolOp .And _ _) _); refine dw_and ?_)
  | ((with_reducible show DW _ _ _ _ (.BoolOp .Or _ _) _); refine dw_or ?_))
local macro_rules | `(tactic| ktf_call "s") => `(tactic| first
  | ((with_reducible show DSs _ _ _ _ (List.drop _ _) _); first | refine dss_at rfl ?_ | refine dss_end rfl ?_)
  | ((with_reducible show DSs _ _ _ _ (_ :: _) _); refine dss_cons ?_)
  | ((with_reducible show DSs _ _ _ _ [] _); refine dss_nil ?_)
  | ((with_reducible show DS _ _ _ _ (.If _ _ _ _) _); refine ds_if ?_)
  | ((with_reducible show DS _ _ _ _ (.Return (some _) _) _); refine ds_ret ?_)
  | ((with_reducible show DS _ _ _ _ (.Assign [.Name _ _] _ _) _); refine ds_asg (by ktf_call "own") (by ktf_call "put") ?_)
  | ((with_reducible show DS _ _ _ _ (.Assign [.Subscript _ _ _] _ _) _); refine ds_setL ?_)
  | ((with_reducible show DS _ _ _ _ (.Expr _ _) _); refine ds_expr ?_)
  | ((with_reducible show DS _ _ _ _ (.AugAssign (.Name _ _) .Add _ _) _); refine ds_augI ip_add (by ktf_call "own") (by ktf_call "lk") (by ktf_call "put") ?_)
  | ((with_reducible show DS _ _ _ _ (.AugAssign (.Name _ _) .Sub _ _) _); refine ds_augI ip_sub (by ktf_call "own") (by ktf_call "lk") (by ktf_call "put") ?_)
  | fail "s")
local macro_rules | `(tactic| ktf_call "k") => `(tactic| first
  | ((with_reducible show DA _ _ _ _ [] _); refine da_nil ?_)
  | ((with_reducible show DA _ _ _ _ (_ :: _) _); refine da_cons ?_)
  | ((with_reducible show DO _ _ _ _ none _); refine do_none ?_)
  | ((with_reducible show DO _ _ _ _ (some _) _); refine do_some ?_)
  | ((with_reducible show KB _ _ _); refine kb ?_)
  | ((with_reducible show (_ = true → _) ∧ (_ = false → _)); refine ⟨fun hyp => ?_, fun hyp => ?_⟩ <;> (try simp only [decide_eq_true_eq, decide_eq_false_iff_not, Bool.not_eq_true', Bool.not_eq_false', Bool.not_true, Bool.not_false, Bool.true_eq_false, Bool.false_eq_true, Int.not_lt, Int.not_le, nil_len, Nat.pos_iff_ne_zero.symm] at hyp))
  | ((with_reducible show (_ = false → _) ∧ (_ = true → _)); refine ⟨fun hyp => ?_, fun hyp => ?_⟩ <;> (try simp only [decide_eq_true_eq, decide_eq_false_iff_not, Bool.not_eq_true', Bool.not_eq_false', Bool.not_true, Bool.not_false, Bool.true_eq_false, Bool.false_eq_true, Int.not_lt, Int.not_le, nil_len, Nat.pos_iff_ne_zero.symm] at hyp))
  | ((with_reducible show ∃ d, rB _ = rB d ∧ _); refine ⟨_, rfl, ?_⟩)
  | ((with_reducible show ∃ d, D2.rI _ = D2.rI d ∧ _); refine ⟨_, rfl, ?_⟩)
  | ((with_reducible show ∃ n, Ln _ _ n ∧ _); refine ⟨_, by ktf_call "ln", ?_⟩)
  | ((with_reducible refine' Exists.intro _ (Exists.intro _ (Exists.intro _ (Exists.intro _ (Exists.intro _ (And.intro rfl (And.intro rfl (And.intro ?ch (And.intro ?ix ?_))))))))); (case ch => ktf_call "chg"); (case ix => first | exact ixN_ok (by ktf_call "side") (by ktf_call "side") | exact rfl))
  | ((with_reducible show rS _ = rS [] ∧ _); refine ⟨rfl, ?_⟩)
  | ((with_reducible show ∃ s, rS _ = rS s ∧ _); refine ⟨_, rfl, ?_⟩)
  | ((with_reducible refine' Exists.intro _ (Exists.intro _ (Exists.intro _ (And.intro rfl (And.intro ?ch ?_))))); (case ch => ktf_call "has"))
  | ((with_reducible refine' Exists.intro _ (Exists.intro _ (And.intro ?ch (And.intro ?cl ?_)))); (case ch => ktf_call "chg"); (case cl => ktf_call "side"))
  | ((with_reducible refine' Exists.intro _ (Exists.intro _ (Exists.intro _ (And.intro ?ch (And.intro ?cu (And.intro ?cl ?_)))))); (case ch => ktf_call "chg"); (case cu => ktf_call "vu"); (case cl => ktf_call "side"))
  | ((with_reducible show _ ≤ 1000000 ∧ _); first | refine ⟨by ktf_call "side", fun p => ?_⟩ | refine ⟨by ktf_call "side", _, _, by ktf_call "frz", ?_⟩)
  | ktf_call "sp"
  | fail "k")
local macro_rules | `(tactic| ktf_call "d2") => `(tactic| (repeat' (first
  | ((with_reducible show DE _ _ _ _ _ _); ktf_call "e")
  | ((with_reducible show OP _ _ _ _ _ _ _ _); ktf_call "o")
  | ((with_reducible show IX _ _ _ _ _ _ _ _ _); ktf_call "o")
  | ((with_reducible show DT _ _ _ _ _ _); ktf_call "t")
  | ((with_reducible show DW _ _ _ _ _ _); ktf_call "t")
  | ((with_reducible show DA _ _ _ _ _ _); ktf_call "k")
  | ((with_reducible show DS _ _ _ _ _ _); ktf_call "s")
  | ((with_reducible show DSs _ _ _ _ _ _); ktf_call "s")
  | ((with_reducible show UP _ _ _ _ _ _ _); ktf_call "o")
  | ((with_reducible show SlK _ _ _ _ _ _ _ _); ktf_call "o")
  | ktf_call "k" | fail "stuck")))
local macro_rules | `(tactic| ktf_call "kitb") => `(tactic| with_reducible first | exact kitb_NoneType_int | exact kitb_NoneType_bool | exact kitb_NoneType_str | exact kitb_NoneType_list | exact kitb_NoneType_tuple | exact kitb_NoneType_dict | exact kitb_bool_int | exact kitb_bool_bool | exact kitb_bool_str | exact kitb_bool_list | exact kitb_bool_tuple | exact kitb_bool_dict | exact kitb_int_int | exact kitb_int_bool | exact kitb_int_str | exact kitb_int_list | exact kitb_int_tuple | exact kitb_int_dict | exact kitb_str_int | exact kitb_str_bool | exact kitb_str_str | exact kitb_str_list | exact kitb_str_tuple | exact kitb_str_dict | exact kitb_list_int | exact kitb_list_bool | exact kitb_list_str | exact kitb_list_list | exact kitb_list_tuple | exact kitb_list_dict | exact kitb_tuple_int | exact kitb_tuple_bool | exact kitb_tuple_str | exact kitb_tuple_list | exact kitb_tuple_tuple | exact kitb_tuple_dict | exact kitb_dict_int | exact kitb_dict_bool | exact kitb_dict_str | exact kitb_dict_list | exact kitb_dict_tuple | exact kitb_dict_dict)
local macro_rules | `(tactic| ktf_call "tyr") => `(tactic| with_reducible first | exact TyR.int | exact TyR.bl | exact TyR.str | exact TyR.non | exact TyR.tup | ((refine' TyR.lst ?clv); (case clv => ktf_call "vl")))
local macro_rules | `(tactic| ktf_call "vo") => `(tactic| with_reducible first | exact VO.dat | ((refine' VO.own ?cv); (case cv => ktf_call "has")))
local macro_rules | `(tactic| ktf_call "e") => `(tactic| first
  | ((with_reducible show DE _ _ _ _ (.Call (.Name "isinstance" _) _ _ _) _); refine d_isi (by ktf_call "gl") (by ktf_call "mg") ?_)
  | ((with_reducible show DE _ _ _ _ (.Name "int" _) _); refine de_ty (T := "int") (by ktf_call "gl") (by ktf_call "mg") (by decide +kernel) ?_)
  | ((with_reducible show DE _ _ _ _ (.Name "bool" _) _); refine de_ty (T := "bool") (by ktf_call "gl") (by ktf_call "mg") (by decide +kernel) ?_)
  | ((with_reducible show DE _ _ _ _ (.Name "str" _) _); refine de_ty (T := "str") (by ktf_call "gl") (by ktf_call "mg") (by decide +kernel) ?_)
  | ((with_reducible show DE _ _ _ _ (.Name "list" _) _); refine de_ty (T := "list") (by ktf_call "gl") (by ktf_call "mg") (by decide +kernel) ?_)
  | ((with_reducible show DE _ _ _ _ (.Name "tuple" _) _); refine de_ty (T := "tuple") (by ktf_call "gl") (by ktf_call "mg") (by decide +kernel) ?_)
  | ((with_reducible show DE _ _ _ _ (.Name _ _) _); first | refine de_tupG (by assumption) (by assumption) ?_ | refine de_strG (by assumption) (by assumption) ?_ | refine de_intG (by assumption) (by assumption) ?_)
  | ((with_reducible show DE _ _ _ _ (.Attribute _ _ _) _); refine de_fld (by assumption) (by assumption) ?_)
  | ((with_reducible show DE _ _ _ _ (.Call (.Attribute _ "strip" _) _ _ _) _); refine d_stripC ?_)
  | ((with_reducible show DE _ _ _ _ (.Call (.Attribute _ _ _) (_ :: _) _ _) _); refine de_meth (by assumption) (by assumption) ?_ (hjk := by omega))
  | ((with_reducible show DE _ _ _ _ (.Call (.Attribute _ _ _) [] _ _) _); refine de_meth0 (by assumption) (by assumption) ?_ (hjk := by omega))
  | ((with_reducible show DE _ _ _ _ (.Call (.Name "min" _) [_, _] _ _) _); refine d_min2 (by assumption) (by ktf_call "gl") (by ktf_call "mg") ?_)
  | ((with_reducible show DE _ _ _ _ (.Call (.Name "max" _) [_, _] _ _) _); refine d_max2 (by assumption) (by ktf_call "gl") (by ktf_call "mg") ?_)
  | ((with_reducible show DE _ _ _ _ (.Call (.Name _ _) (_ :: _) (_ :: _) _) _); refine de_callK (by assumption) (by assumption) (by ktf_call "gl") ?_ (hjk := by omega))
  | ((with_reducible show DE _ _ _ _ (.Call (.Name _ _) (_ :: _) [] _) _); refine de_make (by assumption) (by assumption) (by ktf_call "gl") ?_ (hjk := by omega))
  | ((with_reducible show DE _ _ _ _ (.Call (.Name _ _) [] [] _) _); refine de_make0 (by assumption) (by assumption) (by ktf_call "gl") ?_ (hjk := by omega))
  | ((with_reducible show DE _ _ _ _ (.Dict [] [] _) _); refine d_new0 fun p => ?_))
local macro_rules | `(tactic| ktf_call "k") => `(tactic| first
  | ((with_reducible refine' Exists.intro _ (Exists.intro _ (Exists.intro _ (Exists.intro _ (And.intro rfl (And.intro ?ty (And.intro ?kb ?_))))))); (case ty => ktf_call "tyr"); (case kb => ktf_call "kitb"))
  | ((with_reducible show ∃ fs r, VO _ _ _ fs ∧ _); refine ⟨_, _, by ktf_call "vo", rfl, ?_⟩)
  | ((with_reducible show (∃ fs, VO _ _ _ fs ∧ _) ∧ _); refine ⟨⟨_, by ktf_call "vo", rfl⟩, ?_⟩)
  | ((with_reducible show DKw _ _ _ _ [] _); refine dk_nil ?_)
  | ((with_reducible show DKw _ _ _ _ (_ :: _) _); refine dk_cons ?_)
  | ((with_reducible show _ ≤ 1000000 ∧ DE _ _ _ _ _ _); refine ⟨by ktf_call "side", ?_⟩))
local macro_rules | `(tactic| ktf_call "s") => `(tactic| first
  | ((with_reducible show DS _ _ _ _ (.Raise _ _ _) _); refine ds_raise (by assumption) (by assumption) (by ktf_call "gl") ?_)
  | ((with_reducible show DS _ _ _ _ (.Assign [.Attribute _ _ _] _ _) _); refine ds_fld (by assumption) (by assumption) ?_)
  | ((with_reducible show DS _ _ _ _ (.Break _) _); refine ds_brk ?_)
  | ((with_reducible show DS _ _ _ _ (.Continue _) _); refine ds_cont ?_)
  | ((with_reducible show DS _ _ _ _ (.Pass _) _); refine ds_pass ?_))
local macro_rules | `(tactic| ktf_call "o") => `(tactic| ((with_reducible refine' o_ninS ?ca ?kk); (case ca => assumption)))
local macro_rules | `(tactic| ktf_call "t") => `(tactic| ((with_reducible show DT _ _ _ _ (.Compare _ [_, _] [_, _] _) _); first | refine dt_chainI L2.op_le L2.op_le ?_ | refine dt_chainI L2.op_lt L2.op_le ?_ | refine dt_chainI L2.op_le L2.op_lt ?_ | refine dt_chainI L2.op_lt L2.op_lt ?_))
section
variable {P : Program} {w : World} {K : PySem.W.Frag} {mg : Str → Option Value} {base : Heap} {f : Addr} {fd : FuncData}
def spFlag : Sp2 := fun rs m Kr Ke => ∃ a b : Bool, rs = [rB a, rB b] ∧ m = [] ∧ Kr (rB (decide (a = b))) []
theorem sc__law_flag : FnScope ["told", "due"] ["told", "due"] (defScope (top 35)) := ⟨rfl, rfl, rfl, by decide +kernel, rfl, by decide +kernel, by decide +kernel⟩
theorem ok_flag (F : FunD K "_law_flag" "_law_flag" (defArgs (top 35)) (defBody (top 35)) (defScope (top 35)) [] [] f fd) (m0_isinstance : mg "isinstance" = none) (m0_bool : mg "bool" = none) : FnOk P w K mg base (L2N.CX P w) (1) f fd ["told", "due"] (spOf K spFlag) := by
  refine fn2 F sc__law_flag (by decide +kernel) (fun rs m Kr Ke ⟨_, _, e, _⟩ => by rw [e]; rfl) fun X c rs m Kr Ke D L hx ⟨a, b, er, em, hk⟩ => ?_
  subst er em
  have m_isinstance : X.mg "isinstance" = none := D.mg_ m0_isinstance
  have m_bool : X.mg "bool" = none := D.mg_ m0_bool
  have g_isinstance : Gl X "isinstance" := D.gl (by decide +kernel)
  have g_bool : Gl X "bool" := D.gl (by decide +kernel)
  refine dss_lo ?_
  show DSs X c [("told", some (rB a)), ("due", some (rB b))] [] (_ :: _) _
  ktf_call "d2"
  all_goals first | exact ⟨_, List.Sublist.refl _, hk⟩ | exact absurd rfl (by assumption) | skip
end
section
variable {m : Mem} {Kr : Mem → R → Mem → Prop} {Ke : Mem → Addr → List (Str × D2.D) → Mem → Prop}
theorem sp_flag {a b : Bool} (h : a = b) (k : Kr m (rB true) []) : ∃ mf rest, Split m mf rest ∧ spFlag [rB a, rB b] mf (Kr rest) (Ke rest) := ⟨[], m, .nil, a, b, rfl, rfl, by subst h; simpa using k⟩
end
end NC
/-! ## NPc -/
set_option Elab.async false
set_option linter.all false
set_option maxRecDepth 100000
set_option maxHeartbeats 2000000
set_option pp.maxSteps 1500
/-! is_piece, pieces: walked -/
namespace NC.Pc
open PySem PySem.Spec PyProof.Rows L2 D2
local macro_rules | `(tactic| ktf_call "lk") => `(tactic| (with_reducible first | exact Lk.here | exact (Lk.there Lk.here) | exact (Lk.there (Lk.there Lk.here)) | exact (Lk.there (Lk.there (Lk.there Lk.here))) | exact (Lk.there (Lk.there (Lk.there (Lk.there Lk.here)))) | exact (Lk.there (Lk.there (Lk.there (Lk.there (Lk.there Lk.here))))) | exact (Lk.there (Lk.there (Lk.there (Lk.there (Lk.there (Lk.there Lk.here)))))) | exact (Lk.there (Lk.there (Lk.there (Lk.there (Lk.there (Lk.there (Lk.there Lk.here))))))) | exact (Lk.there (Lk.there (Lk.there (Lk.there (Lk.there (Lk.there (Lk.there (Lk.there Lk.here)))))))) | exact (Lk.there (Lk.there (Lk.there (Lk.there (Lk.there (Lk.there (Lk.there (Lk.there (Lk.there Lk.here))))))))) | exact (Lk.there (Lk.there (Lk.there (Lk.there (Lk.there (Lk.there (Lk.there (Lk.there (Lk.there (Lk.there Lk.here)))))))))) | exact (Lk.there (Lk.there (Lk.there (Lk.there (Lk.there (Lk.there (Lk.there (Lk.there (Lk.there (Lk.there (Lk.there Lk.here))))))))))) | exact (Lk.there (Lk.there (Lk.there (Lk.there (Lk.there (Lk.there (Lk.there (Lk.there (Lk.there (Lk.there (Lk.there (Lk.there Lk.here)))))))))))) | exact (Lk.there (Lk.there (Lk.there (Lk.there (Lk.there (Lk.there (Lk.there (Lk.there (Lk.there (Lk.there (Lk.there (Lk.there (Lk.there Lk.here))))))))))))) | fail "none"))
local macro_rules | `(tactic| ktf_call "put") => `(tactic| (with_reducible first | exact PutF.here | exact (PutF.there PutF.here) | exact (PutF.there (PutF.there PutF.here)) | exact (PutF.there (PutF.there (PutF.there PutF.here))) | exact (PutF.there (PutF.there (PutF.there (PutF.there PutF.here)))) | exact (PutF.there (PutF.there (PutF.there (PutF.there (PutF.there PutF.here))))) | exact (PutF.there (PutF.there (PutF.there (PutF.there (PutF.there (PutF.there PutF.here)))))) | exact (PutF.there (PutF.there (PutF.there (PutF.there (PutF.there (PutF.there (PutF.there PutF.here))))))) | exact (PutF.there (PutF.there (PutF.there (PutF.there (PutF.there (PutF.there (PutF.there (PutF.there PutF.here)))))))) | exact (PutF.there (PutF.there (PutF.there (PutF.there (PutF.there (PutF.there (PutF.there (PutF.there (PutF.there PutF.here))))))))) | exact (PutF.there (PutF.there (PutF.there (PutF.there (PutF.there (PutF.there (PutF.there (PutF.there (PutF.there (PutF.there PutF.here)))))))))) | exact (PutF.there (PutF.there (PutF.there (PutF.there (PutF.there (PutF.there (PutF.there (PutF.there (PutF.there (PutF.there (PutF.there PutF.here))))))))))) | exact (PutF.there (PutF.there (PutF.there (PutF.there (PutF.there (PutF.there (PutF.there (PutF.there (PutF.there (PutF.there (PutF.there (PutF.there PutF.here)))))))))))) | exact (PutF.there (PutF.there (PutF.there (PutF.there (PutF.there (PutF.there (PutF.there (PutF.there (PutF.there (PutF.there (PutF.there (PutF.there (PutF.there PutF.here))))))))))))) | fail "none"))
local macro_rules | `(tactic| ktf_call "has") => `(tactic| (with_reducible first | exact Has.here | exact (Has.there Has.here) | exact (Has.there (Has.there Has.here)) | exact (Has.there (Has.there (Has.there Has.here))) | exact (Has.there (Has.there (Has.there (Has.there Has.here)))) | exact (Has.there (Has.there (Has.there (Has.there (Has.there Has.here))))) | exact (Has.there (Has.there (Has.there (Has.there (Has.there (Has.there Has.here)))))) | exact (Has.there (Has.there (Has.there (Has.there (Has.there (Has.there (Has.there Has.here))))))) | fail "none"))
local macro_rules | `(tactic| ktf_call "chg") => `(tactic| (with_reducible first | exact Chg.here | exact (Chg.there Chg.here) | exact (Chg.there (Chg.there Chg.here)) | exact (Chg.there (Chg.there (Chg.there Chg.here))) | exact (Chg.there (Chg.there (Chg.there (Chg.there Chg.here)))) | exact (Chg.there (Chg.there (Chg.there (Chg.there (Chg.there Chg.here))))) | exact (Chg.there (Chg.there (Chg.there (Chg.there (Chg.there (Chg.there Chg.here)))))) | exact (Chg.there (Chg.there (Chg.there (Chg.there (Chg.there (Chg.there (Chg.there Chg.here))))))) | fail "none"))
local macro_rules | `(tactic| ktf_call "vl") => `(tactic| first | ((with_reducible refine' VL.own ?cv); (case cv => ktf_call "has")) | with_reducible exact VL.dat | fail "vl")
local macro_rules | `(tactic| ktf_call "vu") => `(tactic| ((with_reducible refine' VU.own ?cv); (case cv => ktf_call "has")))
local macro_rules | `(tactic| ktf_call "ati") => `(tactic| first | assumption | exact ati_l rfl | fail "ati")
local macro_rules | `(tactic| ktf_call "vi") => `(tactic| first | with_reducible exact vi_dat | ((with_reducible refine' vi_own ?cv); (case cv => ktf_call "has")) | ((with_reducible refine' vi_nil ?cv); (case cv => ktf_call "vl")) | fail "vi")
local macro_rules | `(tactic| ktf_call "vs") => `(tactic| first | with_reducible exact vs_dat | ((with_reducible refine' vs_own ?cv); (case cv => ktf_call "has")) | ((with_reducible refine' vs_nil ?cv); (case cv => ktf_call "vl")) | fail "vs")
local macro_rules | `(tactic| ktf_call "hyp") => `(tactic| simp only [decide_eq_true_eq, decide_eq_false_iff_not, Bool.not_eq_true', Bool.not_eq_false', Bool.not_true, Bool.not_false, Bool.true_eq_false, Bool.false_eq_true, Int.not_lt, Int.not_le] at *)
local macro_rules | `(tactic| ktf_call "side") => `(tactic| first | assumption | decide | omega | (simp only [List.length_cons, List.length_nil, List.length_map]; omega) | exact ⟨Int.emod_nonneg _ (by omega), Int.emod_lt_of_pos _ (by omega)⟩ | (decide +kernel) | (simp; done) | (simp; omega))
local macro_rules | `(tactic| ktf_call "cmul") => `(tactic| first | assumption | exact cm_l (by omega) (by omega) | exact cm_r (by omega) (by omega) | fail "cmul")
local macro_rules | `(tactic| ktf_call "cdiv") => `(tactic| first | assumption | exact ⟨by assumption, by assumption⟩ | exact cd_s (by omega) (by omega) | fail "cdiv")
local macro_rules | `(tactic| ktf_call "frz") => `(tactic| (repeat (first | exact Frz.dat | exact Frzs.nil | apply Frzs.cons | apply Frz.lst | exact Frzs.map _ _)))
local macro_rules | `(tactic| ktf_call "ln") => `(tactic| first | ((with_reducible refine' ln_I ?cv); (case cv => ktf_call "vi")) | ((with_reducible refine' ln_S ?cv); (case cv => ktf_call "vs")) | ((with_reducible refine' Ln.lst ?cv); (case cv => ktf_call "vl")) | ((with_reducible refine' Ln.str ?cv); (case cv => ktf_call "side")) | with_reducible exact Ln.tup | fail "ln")
local macro_rules | `(tactic| ktf_call "tym") => `(tactic| first | with_reducible exact TyM.str | with_reducible exact TyM.lst (by ktf_call "vl") | with_reducible exact TyM.int | with_reducible exact TyM.dk (by ktf_call "has"))
local macro_rules | `(tactic| ktf_call "gl") => `(tactic| first | assumption | exact Def.gl (by assumption) (by decide +kernel) | exact IsBlk.gl (by assumption) (by decide +kernel) | exact IsBlkH.gl (by assumption) (by decide +kernel) | fail "gl")
local macro_rules | `(tactic| ktf_call "mg") => `(tactic| first | assumption | exact Def.mg_ (by assumption) (by assumption) | exact IsBlk.mg (by assumption) (by ktf_call "mg") | exact IsBlkH.mg (by assumption) (by ktf_call "mg") | fail "mg")
local macro_rules | `(tactic| ktf_call "own") => `(tactic| first | assumption | exact Def.own (by assumption) (by decide +kernel) | fail "own")
local macro_rules | `(tactic| ktf_call "cal") => `(tactic| first | assumption | exact Def.callee (by assumption) (by assumption) | exact IsBlk.callee (by assumption) (by ktf_call "cal") | fail "cal")
local macro_rules | `(tactic| ktf_call "fog") => `(tactic| (repeat (first | with_reducible exact Fog.nil | with_reducible apply Fog.keep | with_reducible apply Fog.drop)))
local macro_rules | `(tactic| ktf_call "blk") => `(tactic| first | with_reducible exact Blk.nil | exact Blk.keep (by decide +kernel) (by ktf_call "blk") | exact Blk.drop (by ktf_call "blk"))
local macro_rules | `(tactic| ktf_call "sub") => `(tactic| (repeat (with_reducible first | exact List.Sublist.slnil | exact List.nil_sublist _ | exact sub_nil _ | apply List.Sublist.cons_cons | apply List.Sublist.cons)))
local macro_rules | `(tactic| ktf_call "ce") => `(tactic| fail "ce")
-- expressions
local macro_rules | `(tactic| ktf_call "e") => `(tactic| first
  | ((with_reducible show DE _ _ _ _ (.Name _ _) _); refine de_name (by ktf_call "lk") ?_)
  | ((with_reducible show DE _ _ _ _ (.Constant _ _ _) _); first | refine de_int ?_ | refine de_str ?_ | refine de_bl ?_ | refine de_non ?_)
  | ((with_reducible show DE _ _ _ _ (.BinOp _ _ _ _) _); refine de_bin ?_)
  | ((with_reducible show DE _ _ _ _ (.Subscript _ (.Slice _ _ none _) _) _); refine d_slice ?_)
  | ((with_reducible show DE _ _ _ _ (.Subscript _ _ _) _); refine de_ix ?_)
  | ((with_reducible show DE _ _ _ _ (.Call (.Name _ _) _ _ _) _); first
      | ((with_reducible show DE _ _ _ _ (.Call (.Name "len" _) _ _ _) _); refine d_len (by ktf_call "gl") (by ktf_call "mg") ?_)
      | ((with_reducible show DE _ _ _ _ (.Call (.Name "int" _) _ _ _) _); refine d_int (by ktf_call "gl") (by ktf_call "mg") ?_)
      | ((with_reducible show DE _ _ _ _ (.Call (.Name "abs" _) _ _ _) _); refine d_abs (by ktf_call "gl") (by ktf_call "mg") ?_)
      | ktf_call "ce"
      | refine de_call (by ktf_call "cal") (by assumption) (by ktf_call "gl") ?_ (hjk := by omega))
  | ((with_reducible show DE _ _ _ _ (.Call (.Attribute _ "join" _) _ _ _) _); refine d_join ?_)
  | ((with_reducible show DE _ _ _ _ (.Call (.Attribute _ "append" _) _ _ _) _); refine d_appendL ?_)
  | ((with_reducible show DE _ _ _ _ (.Call (.Attribute _ "extend" _) _ _ _) _); refine d_extendL ?_)
  | ((with_reducible show DE _ _ _ _ (.Call (.Attribute _ "find" _) [_, _] _ _) _); refine d_find3 ?_)
  | ((with_reducible show DE _ _ _ _ (.Compare _ [_] [_] _) _); refine de_cmp ?_)
  | ((with_reducible show DE _ _ _ _ (.BoolOp _ [_] _) _); refine de_bo1 ?_)
  | ((with_reducible show DE _ _ _ _ (.BoolOp .And _ _) _); refine de_and ?_)
  | ((with_reducible show DE _ _ _ _ (.BoolOp .Or _ _) _); refine de_or ?_)
  | ((with_reducible show DE _ _ _ _ (.UnaryOp .Not _ _) _); refine de_not ?_)
  | ((with_reducible show DE _ _ _ _ (.UnaryOp _ _ _) _); refine de_un ?_)
  | ((with_reducible show DE _ _ _ _ (.List _ _) _); refine de_lst ?_)
  | ((with_reducible show DE _ _ _ _ (.Tuple _ _ _) _); refine de_tup ?_)
  | ((with_reducible show DE _ _ _ _ (.IfExp _ _ _ _) _); refine de_if ?_))
local macro_rules | `(tactic| ktf_call "o") => `(tactic| first
  | ((with_reducible show OP _ _ _ _ (binaryOp _) _ _ _); first
    | ((with_reducible refine' o_add  ?kk))
    | ((with_reducible refine' o_addS ?ca ?kk); (case ca => ktf_call "side"))
    | ((with_reducible refine' o_cat ?ca ?cb ?cd (fun p => ?kk)); (case ca => ktf_call "vu"); (case cb => ktf_call "vu"); (case cd => ktf_call "side"))
    | ((with_reducible refine' o_sub  ?kk))
    | ((with_reducible refine' o_mulS ?ca ?kk); (case ca => ktf_call "cmul"))
    | ((with_reducible refine' o_mul ?ca ?kk); (case ca => assumption))
    | ((with_reducible refine' o_div ?ca ?kk); (case ca => ktf_call "cdiv"))
    | ((with_reducible refine' o_mod ?ca ?kk); (case ca => (first | assumption | omega | decide)))
    | ((with_reducible refine' o_pow ?ca ?kk); (case ca => decide))
    | fail "o")
  | ((with_reducible show OP _ _ _ _ (compareOp _) _ _ _); first
    | ((with_reducible refine' o_lt  ?kk))
    | ((with_reducible refine' o_le  ?kk))
    | ((with_reducible refine' o_gt  ?kk))
    | ((with_reducible refine' o_ge  ?kk))
    | ((with_reducible refine' o_eqI  ?kk))
    | ((with_reducible refine' o_eqS  ?kk))
    | ((with_reducible refine' o_eqB  ?kk))
    | ((with_reducible refine' o_eqLI ?ca ?cb ?cd ?kk); (case ca => assumption); (case cb => ktf_call "vi"); (case cd => ktf_call "vi"))
    | ((with_reducible refine' o_eqLS ?ca ?cb ?cd ?kk); (case ca => assumption); (case cb => ktf_call "vs"); (case cd => ktf_call "vs"))
    | ((with_reducible refine' o_neI  ?kk))
    | ((with_reducible refine' o_neS  ?kk))
    | ((with_reducible refine' o_neLI ?ca ?cb ?cd ?kk); (case ca => assumption); (case cb => ktf_call "vi"); (case cd => ktf_call "vi"))
    | ((with_reducible refine' o_neLS ?ca ?cb ?cd ?kk); (case ca => assumption); (case cb => ktf_call "vs"); (case cd => ktf_call "vs"))
    | ((with_reducible refine' o_isB  ?kk))
    | fail "o")
  | ((with_reducible refine' u_neg  ?kk))
  | ((with_reducible refine' x_I ?ca ?cb ?kk); (case ca => ktf_call "vi"); (case cb => ktf_call "side"))
  | ((with_reducible refine' x_S ?ca ?cb ?kk); (case ca => ktf_call "vs"); (case cb => ktf_call "side"))
  | ((with_reducible refine' x_B ?ca ?cb ?kk); (case ca => ((with_reducible refine' vb_own ?cv); (case cv => ktf_call "has"))); (case cb => ktf_call "side"))
  | ((with_reducible refine' x_ch ?ca ?cb ?kk); (case ca => ktf_call "side"); (case cb => ktf_call "side"))
  | ((with_reducible refine' x_lst ?ca ?cb ?kk); (case ca => ktf_call "vl"); (case cb => ktf_call "ati"))
  | ((with_reducible refine' x_tup ?ca ?kk); (case ca => ktf_call "ati"))
  | ((with_reducible refine' x_str ?ca ?cb ?kk); (case ca => ktf_call "side"); (case cb => ktf_call "ati"))
  | ((with_reducible refine' s_lst ?ca (fun p => ?kk)); (case ca => ktf_call "vl"))
  | ((with_reducible refine' s_str ?ca ?kk); (case ca => ktf_call "side"))
  | fail "o")
local macro_rules | `(tactic| ktf_call "t") => `(tactic| first
  | ((with_reducible show DT _ _ _ _ (.Compare _ [_] [_] _) _); refine dt_cmp ?_)
  | ((with_reducible show DT _ _ _ _ (.BoolOp _ _ _) _); refine dt_bool ?_)
  | ((with_reducible show DT _ _ _ _ (.UnaryOp .Not _ _) _); refine dt_not ?_)
  | ((with_reducible show DT _ _ _ _ _ _); refine dt_val ?_)
  | ((with_reducible show DW _ _ _ _ (.BoolOp .And [_] _) _); refine dw_and1 ?_)
  | ((with_reducible show DW _ _ _ _ (.BoolOp .Or [_] _) _); refine dw_or1 ?_)
  | ((with_reducible show DW _ _ _ _ (.BoolOp .And _ _) _); refine dw_and ?_)
  | ((with_reducible show DW _ _ _ _ (.BoolOp .Or _ _) _); refine dw_or ?_))
local macro_rules | `(tactic| ktf_call "s") => `(tactic| first
  | ((with_reducible show DSs _ _ _ _ (List.drop _ _) _); first | refine dss_at rfl ?_ | refine dss_end rfl ?_)
  | ((with_reducible show DSs _ _ _ _ (_ :: _) _); refine dss_cons ?_)
  | ((with_reducible show DSs _ _ _ _ [] _); refine dss_nil ?_)
  | ((with_reducible show DS _ _ _ _ (.If _ _ _ _) _); refine ds_if ?_)
  | ((with_reducible show DS _ _ _ _ (.Return (some _) _) _); refine ds_ret ?_)
  | ((with_reducible show DS _ _ _ _ (.Assign [.Name _ _] _ _) _); refine ds_asg (by ktf_call "own") (by ktf_call "put") ?_)
  | ((with_reducible show DS _ _ _ _ (.Assign [.Subscript _ _ _] _ _) _); refine ds_setL ?_)
  | ((with_reducible show DS _ _ _ _ (.Expr _ _) _); refine ds_expr ?_)
  | ((with_reducible show DS _ _ _ _ (.AugAssign (.Name _ _) .Add _ _) _); refine ds_augI ip_add (by ktf_call "own") (by ktf_call "lk") (by ktf_call "put") ?_)
  | ((with_reducible show DS _ _ _ _ (.AugAssign (.Name _ _) .Sub _ _) _); refine ds_augI ip_sub (by ktf_call "own") (by ktf_call "lk") (by ktf_call "put") ?_)
  | fail "s")
local macro_rules | `(tactic| ktf_call "k") => `(tactic| first
  | ((with_reducible show DA _ _ _ _ [] _); refine da_nil ?_)
  | ((with_reducible show DA _ _ _ _ (_ :: _) _); refine da_cons ?_)
  | ((with_reducible show DO _ _ _ _ none _); refine do_none ?_)
  | ((with_reducible show DO _ _ _ _ (some _) _); refine do_some ?_)
  | ((with_reducible show KB _ _ _); refine kb ?_)
  | ((with_reducible show (_ = true → _) ∧ (_ = false → _)); refine ⟨fun hyp => ?_, fun hyp => ?_⟩ <;> (try simp only [decide_eq_true_eq, decide_eq_false_iff_not, Bool.not_eq_true', Bool.not_eq_false', Bool.not_true, Bool.not_false, Bool.true_eq_false, Bool.false_eq_true, Int.not_lt, Int.not_le, nil_len, Nat.pos_iff_ne_zero.symm] at hyp))
  | ((with_reducible show (_ = false → _) ∧ (_ = true → _)); refine ⟨fun hyp => ?_, fun hyp => ?_⟩ <;> (try simp only [decide_eq_true_eq, decide_eq_false_iff_not, Bool.not_eq_true', Bool.not_eq_false', Bool.not_true, Bool.not_false, Bool.true_eq_false, Bool.false_eq_true, Int.not_lt, Int.not_le, nil_len, Nat.pos_iff_ne_zero.symm] at hyp))
  | ((with_reducible show ∃ d, rB _ = rB d ∧ _); refine ⟨_, rfl, ?_⟩)
  | ((with_reducible show ∃ d, D2.rI _ = D2.rI d ∧ _); refine ⟨_, rfl, ?_⟩)
  | ((with_reducible show ∃ n, Ln _ _ n ∧ _); refine ⟨_, by ktf_call "ln", ?_⟩)
  | ((with_reducible refine' Exists.intro _ (Exists.intro _ (Exists.intro _ (Exists.intro _ (Exists.intro _ (And.intro rfl (And.intro rfl (And.intro ?ch (And.intro ?ix ?_))))))))); (case ch => ktf_call "chg"); (case ix => first | exact ixN_ok (by ktf_call "side") (by ktf_call "side") | exact rfl))
  | ((with_reducible show rS _ = rS [] ∧ _); refine ⟨rfl, ?_⟩)
  | ((with_reducible show ∃ s, rS _ = rS s ∧ _); refine ⟨_, rfl, ?_⟩)
  | ((with_reducible refine' Exists.intro _ (Exists.intro _ (Exists.intro _ (And.intro rfl (And.intro ?ch ?_))))); (case ch => ktf_call "has"))
  | ((with_reducible refine' Exists.intro _ (Exists.intro _ (And.intro ?ch (And.intro ?cl ?_)))); (case ch => ktf_call "chg"); (case cl => ktf_call "side"))
  | ((with_reducible refine' Exists.intro _ (Exists.intro _ (Exists.intro _ (And.intro ?ch (And.intro ?cu (And.intro ?cl ?_)))))); (case ch => ktf_call "chg"); (case cu => ktf_call "vu"); (case cl => ktf_call "side"))
  | ((with_reducible show _ ≤ 1000000 ∧ _); first | refine ⟨by ktf_call "side", fun p => ?_⟩ | refine ⟨by ktf_call "side", _, _, by ktf_call "frz", ?_⟩)
  | ktf_call "sp"
  | fail "k")
local macro_rules | `(tactic| ktf_call "d2") => `(tactic| (repeat' (first
  | ((with_reducible show DE _ _ _ _ _ _); ktf_call "e")
  | ((with_reducible show OP _ _ _ _ _ _ _ _); ktf_call "o")
  | ((with_reducible show IX _ _ _ _ _ _ _ _ _); ktf_call "o")
  | ((with_reducible show DT _ _ _ _ _ _); ktf_call "t")
  | ((with_reducible show DW _ _ _ _ _ _); ktf_call "t")
  | ((with_reducible show DA _ _ _ _ _ _); ktf_call "k")
  | ((with_reducible show DS _ _ _ _ _ _); ktf_call "s")
  | ((with_reducible show DSs _ _ _ _ _ _); ktf_call "s")
  | ((with_reducible show UP _ _ _ _ _ _ _); ktf_call "o")
  | ((with_reducible show SlK _ _ _ _ _ _ _ _); ktf_call "o")
  | ktf_call "k" | fail "stuck")))
local macro_rules | `(tactic| ktf_call "s") => `(tactic| ((with_reducible show DS _ _ _ _ (.Assign [.Name "row" _] (.List _ _) _) _); refine ds_asg (by ktf_call "own") (by ktf_call "put") ?_; refine de_frz ?_))
abbrev tP (pe : List Nat × Int) : D2.D := .tup [.str pe.1, .int pe.2]
theorem frzs_tP (m : Mem) (row : List (List Nat × Int)) : Frzs m (row.map fun pe => R.dat (tP pe)) (row.map tP) m := by
  rw [show (row.map fun pe => R.dat (tP pe)) = (row.map tP).map R.dat by rw [List.map_map]; rfl]
  exact Frzs.map _ _
theorem tP_at {row : List (List Nat × Int)} {i : Nat} {d : D2.D} (h : (row.map tP)[i]? = some d) : ∃ hi : i < row.length, d = tP (row[i]'hi) := by
  rw [List.getElem?_map] at h
  by_cases hi : i < row.length
  · rw [List.getElem?_eq_getElem hi] at h
    exact ⟨hi, (Option.some.inj h).symm⟩
  · rw [List.getElem?_eq_none (by omega)] at h; cases h
section
variable {P : Program} {w : World} {K : PySem.W.Frag} {mg : Str → Option Value} {base : Heap} {f : Addr} {fd : FuncData}
def spIsPiece : Sp2 := fun rs m Kr Ke => ∃ s t, rs = [rS s, rS t] ∧ s.length ≤ 1000000 ∧ m = [] ∧ Kr (rB (isPiece s t)) []
theorem sc_is_piece : FnScope ["small", "word", "found", "char"] ["small", "word"] (defScope (top 22)) := ⟨rfl, rfl, rfl, by decide +kernel, rfl, by decide +kernel, by decide +kernel⟩
theorem ok_is_piece (F : FunD K "is_piece" "is_piece" (defArgs (top 22)) (defBody (top 22)) (defScope (top 22)) [] [] f fd) (m0_len : mg "len" = none) : FnOk P w K mg base (L2N.CX P w) (1) f fd ["small", "word"] (spOf K Pc.spIsPiece) := by
  refine fn2 F sc_is_piece (by decide +kernel) (fun rs m Kr Ke ⟨_, _, e, _⟩ => by rw [e]; rfl) fun X c rs m Kr Ke D L hx ⟨s, t, er, hs, em, hk⟩ => ?_
  subst er em
  have m_len : X.mg "len" = none := D.mg_ m0_len
  have g_len : Gl X "len" := D.gl (by decide +kernel)
  have o_found : Own X "found" := D.own (by decide +kernel)
  have o_char : Own X "char" := D.own (by decide +kernel)
  refine dss_lo ?_
  show DSs X c [("small", some (rS s)), ("word", some (rS t)), ("found", none), ("char", none)] [] (_ :: _) _
  have g1 : Gl X "len" := D.gl (by decide +kernel)
  have o_found : Own X "found" := D.own (by decide +kernel)
  have o_char : Own X "char" := D.own (by decide +kernel)
  ktf_call "d2"
  refine ds_for (ds := t.map fun ch => D2.D.str [ch]) (fun i => Iv [("small", some (rS s)), ("word", some (rS t)), ("found", some (D2.rI (pieceF s (t.take i) : Nat))), ("char", none)] []) L (it_str ?_) ?_ ?_
  · ktf_call "d2"
    exact ⟨rfl, rfl, rfl⟩
  · rintro i d σ' m' hd ⟨rfl, rfl⟩
    obtain ⟨hi, rfl⟩ := str_item hd
    refine dg_name o_char (by ktf_call "put") ?_
    refine dss_lo ?_
    ktf_call "d2"
    · rename_i h1 h2
      refine lo_iv ?_ (List.Sublist.refl _)
      rw [piece_step hi, pieceS, if_pos ⟨by omega, by simpa using h2.symm⟩, Int.natCast_succ]
      ktf_call "fog"
    · rename_i h1 h2
      refine lo_iv ?_ (List.Sublist.refl _)
      rw [piece_step hi, pieceS, if_neg fun h => h2 (by simpa using h.2.symm)]
      ktf_call "fog"
    · rename_i h1 h2
      refine lo_iv ?_ (List.Sublist.refl _)
      rw [piece_step hi, pieceS, if_neg fun h => by omega]
      ktf_call "fog"
  · rintro σ' m' ⟨rfl, rfl⟩
    ktf_call "d2"
    refine ⟨_, List.Sublist.refl _, ?_⟩
    have e : decide ((pieceF s (t.take (t.map fun ch => D2.D.str [ch]).length) : Int) = (s.length : Int)) = isPiece s t := by
      rw [List.length_map, List.take_length]
      unfold isPiece
      exact decide_eq_decide.mpr (by omega)
    show Kr (rB (decide _)) []
    rw [e]; exact hk
end
section
variable {P : Program} {w : World} {K : PySem.W.Frag} {mg : Str → Option Value} {base : Heap} {f : Addr} {fd : FuncData}
def spPieces (C : Addr) : Sp2 := fun rs m Kr Ke => ∃ (s : List Nat) (n : Int), rs = [rS s, D2.rI n] ∧ s.length ≤ 100000 ∧ Abc s ∧ m = [] ∧ (0 ≤ n → n ≤ 4 → ∀ q l, IsPieces s n.toNat l → Kr (.own q) [(q, .lst (l.map rS))]) ∧ (n < 0 ∨ 4 < n → Ke C [("number", .int n)] [])

theorem sc_pieces : FnScope ["word", "most", "result", "row", "_", "piece", "end", "letter"] ["word", "most"] (defScope (top 23)) := ⟨rfl, rfl, rfl, by decide +kernel, rfl, by decide +kernel, by decide +kernel⟩
theorem ok_pieces {C_BadNumber : Addr} (F : FunD K "pieces" "pieces" (defArgs (top 23)) (defBody (top 23)) (defScope (top 23)) [] [] f fd) (x_BadNumber : MkC P w K mg base "BadNumber" C_BadNumber 1 1 [("number", 0)] (fun _ => True)) (m0_range : mg "range" = none) : FnOk P w K mg base (L2N.CX P w) (3) f fd ["word", "most"] (spOf K (Pc.spPieces C_BadNumber)) := by
  refine fn2 F sc_pieces (by decide +kernel) (fun rs m Kr Ke ⟨_, _, e, _⟩ => by rw [e]; rfl) fun X c rs m Kr Ke D L hx ⟨s, n, er, hs, ha, em, hk, hke⟩ => ?_
  subst er em
  have y_BadNumber : MkC X.prog X.w X.K X.mg X.base "BadNumber" C_BadNumber 1 1 [("number", 0)] (fun _ => True) := by rw [D.prog, D.w, D.K, D.mg, D.base]; exact x_BadNumber
  have m_range : X.mg "range" = none := D.mg_ m0_range
  have g_BadNumber : Gl X "BadNumber" := D.gl (by decide +kernel)
  have g_range : Gl X "range" := D.gl (by decide +kernel)
  have o_result : Own X "result" := D.own (by decide +kernel)
  have o_row : Own X "row" := D.own (by decide +kernel)
  have o__ : Own X "_" := D.own (by decide +kernel)
  refine dss_lo ?_
  show DSs X c [("word", some (rS s)), ("most", some (D2.rI n)), ("result", none), ("row", none), ("_", none), ("piece", none), ("end", none), ("letter", none)] [] (_ :: _) _
  have g1 : Gl X "range" := D.gl (by decide +kernel)
  have g2 : Gl X "BadNumber" := D.gl (by decide +kernel)
  have o1 : Own X "result" := D.own (by decide +kernel)
  have o2 : Own X "row" := D.own (by decide +kernel)
  have o3 : Own X "_" := D.own (by decide +kernel)
  refine dss_cons ?_
  refine ds_if ?_
  refine dt_not ?_
  refine dt_chainI L2.op_le L2.op_le ?_
  ktf_call "d2"
  · refine ds_raise y_BadNumber L g2 ?_
    ktf_call "d2"
    exact ⟨[.int n], [], .cons .dat .nil, rfl, fun _ _ _ _ => trivial, hx _ _ _ _ (hke (by omega))⟩
  · rename_i h0 h4 p p2
    refine ⟨_, _, .lst .here (.cons .dat .nil), ?_⟩
    ktf_call "d2"
    refine ds_for (ds := ups 0 n.toNat) (fun i σ m => ∃ (row : List (List Nat × Int)) (out : List (List Nat)), σ = ([("word", some (rS s)), ("most", some (D2.rI n)), ("result", some (.own p)), ("row", some (.dat (.lst (row.map tP)))), ("_", none), ("piece", none), ("end", none), ("letter", none)] : Sl) ∧ m = [(p, .lst (out.map rS))] ∧ IsPieces s i out ∧ GoodRow s i row ∧ row.length ≤ 3 ^ i) L (it_rng1 g_range m_range ?_) ?_ ?_
    · ktf_call "d2"
      exact ⟨by omega, by omega, rfl, [([], 0)], [[]], rfl, rfl, pieces0 s, row0 s, by simp⟩
    · rintro i d σ' m' hd ⟨row, out, rfl, rfl, hp, hr, hl⟩
      obtain ⟨hi, rfl⟩ := ups_at hd
      have hi4 : i < 4 := by omega
      have hpow : 3 ^ i ≤ 27 := Nat.le_trans (Nat.pow_le_pow_right (by omega) (by omega : i ≤ 3)) (by decide)
      have hf := few ha (by omega : i ≤ 4) (hp.1.imp fun {a b} h (e : a = b) => wlt_ir b (by rw [e] at h; exact h)) fun x hx => (hp.2 x).mp hx
      have hrl := rowS_len s row
      refine dg_name o3 (by ktf_call "put") ?_
      refine dss_lo ?_
      ktf_call "d2"
      refine ds_lc2 (own := [("piece", 5), ("end", 6), ("letter", 7)]) (y1 := "letter") (j1 := 7) (ds := row.map tP) (fun i rs m => rs = ((row.take i).flatMap (stepR s)).map (fun pe => R.dat (tP pe)) ∧ m = [(p, .lst (out.map rS))]) L (D.nd (by decide +kernel)) (by rw [D.sc]; decide +kernel) (by ktf_call "put") (blk_ok D (by decide +kernel)) (by decide +kernel) (by ktf_call "blk") (.pair (by ktf_call "put") List.mem_cons_self (fun _ => by ktf_call "put") (List.mem_cons_of_mem _ List.mem_cons_self)) (by decide) (it_list ?_) ?_ ?_ (sw_d D (by decide +kernel) (by decide +kernel) rfl (by decide +kernel))
      · ktf_call "d2"
        exact ⟨_, _, .dat, rfl, rfl, rfl⟩
      · rintro j d rs m' hd ⟨rfl, rfl⟩
        obtain ⟨hj, rfl⟩ := tP_at hd
        have hpl := (hr.all _ (List.getElem_mem hj)).1
        have hfl := rowS_len s (row.take j)
        rw [List.length_take] at hfl
        refine ⟨_, _, rfl, fun Xb c' hX hL => ⟨fun _ => ?_, fun h => by cases h⟩⟩
        refine ⟨_, [97, 98, 99].map (fun ch => D2.D.str [ch]), fun jj rs' m' => rs' = ((row.take j).flatMap (stepR s)).map (fun pe => R.dat (tP pe)) ++ (([97, 98, 99].take jj).filterMap (stepL s row[j].1 row[j].2)).map (fun pe => R.dat (tP pe)) ∧ m' = [(p, .lst (out.map rS))], by ktf_call "put", rfl, ?_, ?_, ?_, ?_⟩
        · intro Xb c' hX hL
          refine it_str ?_
          ktf_call "d2"
          have l3 : lit "abc" = [97, 98, 99] := by decide +kernel
          exact ⟨by rw [l3], by simp, rfl⟩
        · rintro jj d1 rs' m' hd1 ⟨rfl, rfl⟩ Xb c' hX hL
          obtain ⟨hjj, rfl⟩ := str_item hd1
          have ets : List.take (jj + 1) [97, 98, 99] = List.take jj [97, 98, 99] ++ [[97, 98, 99][jj]] := take_snoc hjj
          generalize [97, 98, 99][jj] = x at ets ⊢
          show DT _ _ _ _ _ _
          ktf_call "d2"
          · rename_i hf0
            intro Xe hX2 hL2
            ktf_call "d2"
            refine ⟨?_, rfl⟩
            rw [ets, List.filterMap_append, List.map_append, ← List.append_assoc]
            have e1 : List.filterMap (stepL s row[j].1 row[j].2) [x] = [(row[j].1 ++ [x], find3 s [x] row[j].2 + 1)] := by
              simp only [List.filterMap_cons, List.filterMap_nil, stepL]
              rw [if_pos hf0]
            rw [e1]; rfl
          · rename_i hf0
            refine ⟨?_, rfl⟩
            have e1 : List.filterMap (stepL s row[j].1 row[j].2) [x] = [] := by
              simp only [List.filterMap_cons, List.filterMap_nil, stepL]
              rw [if_neg (by omega)]
            rw [ets, List.filterMap_append, e1, List.append_nil]
        · rintro jj rs' m' ⟨rfl, rfl⟩
          have := List.length_filterMap_le (stepL s row[j].1 row[j].2) (List.take jj [97, 98, 99])
          have h2 : (List.take jj [97, 98, 99]).length ≤ 3 := by rw [List.length_take]; exact Nat.min_le_right _ _
          rw [List.length_append, List.length_map, List.length_map]
          unfold rowS at hfl
          omega
        · rintro rs' m' ⟨rfl, rfl⟩
          refine ⟨?_, rfl⟩
          rw [take_snoc hj, List.flatMap_append, List.map_append, List.length_map]
          rw [show List.take [97, 98, 99].length [97, 98, 99] = [97, 98, 99] from rfl]
          simp only [List.flatMap_cons, List.flatMap_nil, List.append_nil, stepR]
      · rintro rs m' q ⟨rfl, rfl⟩
        rw [List.length_map, List.take_length]
        have hr2 := rowS_ok ha hr
        unfold rowS at hr2 hrl
        generalize row.flatMap (stepR s) = row' at hr2 hrl
        refine ⟨_, _, .frz (.lst .here (frzs_tP _ _)), ?_⟩
        ktf_call "d2"
        refine de_lc (own := [("piece", 5), ("_", 4)]) (ds := row'.map tP) (fun i rs m => rs = (row'.take i).map (fun pe => rS pe.1) ∧ m = [(p, .lst (out.map rS))]) L (D.nd (by decide +kernel)) (blk_ok D (by decide +kernel)) (by decide +kernel) (by ktf_call "blk") (.pair (by ktf_call "put") List.mem_cons_self (fun _ => by ktf_call "put") (List.mem_cons_of_mem _ List.mem_cons_self)) (it_list ?_) ?_ ?_ ?_
        · ktf_call "d2"
          exact ⟨_, _, .dat, rfl, rfl, rfl⟩
        · rintro j d rs m' hd ⟨rfl, rfl⟩
          obtain ⟨hj, rfl⟩ := tP_at hd
          refine ⟨_, _, rfl, turn0 fun Xe c' hX hL => ?_⟩
          ktf_call "d2"
          exact ⟨by rw [take_snoc hj, List.map_append]; rfl, rfl⟩
        · rw [List.length_map]; omega
        · rintro rs m' q2 ⟨rfl, rfl⟩
          rw [List.length_map, List.take_length]
          refine ⟨_, _, _, .there .here, .own .here, by rw [List.length_map, List.length_map]; omega, ?_⟩
          refine dss_nil ?_
          have hr3 : row'.length ≤ 3 ^ (i + 1) := by rw [Nat.pow_succ]; omega
          refine ⟨_, _, by ktf_call "fog", List.sublist_cons_self _ _, row', out ++ row'.map (·.1), rfl, ?_, pieces_go hp hr2, hr2, hr3⟩
          rw [List.map_append, List.map_map]; rfl
    · rintro σ' m' ⟨row, out, rfl, rfl, hp, hr, hl⟩
      rw [ups_len] at hp
      ktf_call "d2"
      exact ⟨_, List.Sublist.refl _, hk (by omega) (by omega) _ _ hp⟩
  · refine ds_raise y_BadNumber L g2 ?_
    ktf_call "d2"
    exact ⟨[.int n], [], .cons .dat .nil, rfl, fun _ _ _ _ => trivial, hx _ _ _ _ (hke (by omega))⟩
end
end NC.Pc
/-! ## NPoolA -/
set_option Elab.async false
set_option linter.all false
set_option maxRecDepth 100000
set_option maxHeartbeats 2000000
/-! the pool of draws: cells, place, what is left, digits -/
namespace NC
open PySem PySem.Spec PyProof.Rows L2 D2
local macro_rules | `(tactic| ktf_call "lk") => `(tactic| (with_reducible first | exact Lk.here | exact (Lk.there Lk.here) | exact (Lk.there (Lk.there Lk.here)) | exact (Lk.there (Lk.there (Lk.there Lk.here))) | exact (Lk.there (Lk.there (Lk.there (Lk.there Lk.here)))) | exact (Lk.there (Lk.there (Lk.there (Lk.there (Lk.there Lk.here))))) | exact (Lk.there (Lk.there (Lk.there (Lk.there (Lk.there (Lk.there Lk.here)))))) | exact (Lk.there (Lk.there (Lk.there (Lk.there (Lk.there (Lk.there (Lk.there Lk.here))))))) | exact (Lk.there (Lk.there (Lk.there (Lk.there (Lk.there (Lk.there (Lk.there (Lk.there Lk.here)))))))) | exact (Lk.there (Lk.there (Lk.there (Lk.there (Lk.there (Lk.there (Lk.there (Lk.there (Lk.there Lk.here))))))))) | exact (Lk.there (Lk.there (Lk.there (Lk.there (Lk.there (Lk.there (Lk.there (Lk.there (Lk.there (Lk.there Lk.here)))))))))) | exact (Lk.there (Lk.there (Lk.there (Lk.there (Lk.there (Lk.there (Lk.there (Lk.there (Lk.there (Lk.there (Lk.there Lk.here))))))))))) | exact (Lk.there (Lk.there (Lk.there (Lk.there (Lk.there (Lk.there (Lk.there (Lk.there (Lk.there (Lk.there (Lk.there (Lk.there Lk.here)))))))))))) | exact (Lk.there (Lk.there (Lk.there (Lk.there (Lk.there (Lk.there (Lk.there (Lk.there (Lk.there (Lk.there (Lk.there (Lk.there (Lk.there Lk.here))))))))))))) | fail "none"))
local macro_rules | `(tactic| ktf_call "put") => `(tactic| (with_reducible first | exact PutF.here | exact (PutF.there PutF.here) | exact (PutF.there (PutF.there PutF.here)) | exact (PutF.there (PutF.there (PutF.there PutF.here))) | exact (PutF.there (PutF.there (PutF.there (PutF.there PutF.here)))) | exact (PutF.there (PutF.there (PutF.there (PutF.there (PutF.there PutF.here))))) | exact (PutF.there (PutF.there (PutF.there (PutF.there (PutF.there (PutF.there PutF.here)))))) | exact (PutF.there (PutF.there (PutF.there (PutF.there (PutF.there (PutF.there (PutF.there PutF.here))))))) | exact (PutF.there (PutF.there (PutF.there (PutF.there (PutF.there (PutF.there (PutF.there (PutF.there PutF.here)))))))) | exact (PutF.there (PutF.there (PutF.there (PutF.there (PutF.there (PutF.there (PutF.there (PutF.there (PutF.there PutF.here))))))))) | exact (PutF.there (PutF.there (PutF.there (PutF.there (PutF.there (PutF.there (PutF.there (PutF.there (PutF.there (PutF.there PutF.here)))))))))) | exact (PutF.there (PutF.there (PutF.there (PutF.there (PutF.there (PutF.there (PutF.there (PutF.there (PutF.there (PutF.there (PutF.there PutF.here))))))))))) | exact (PutF.there (PutF.there (PutF.there (PutF.there (PutF.there (PutF.there (PutF.there (PutF.there (PutF.there (PutF.there (PutF.there (PutF.there PutF.here)))))))))))) | exact (PutF.there (PutF.there (PutF.there (PutF.there (PutF.there (PutF.there (PutF.there (PutF.there (PutF.there (PutF.there (PutF.there (PutF.there (PutF.there PutF.here))))))))))))) | fail "none"))
local macro_rules | `(tactic| ktf_call "has") => `(tactic| (with_reducible first | exact Has.here | exact (Has.there Has.here) | exact (Has.there (Has.there Has.here)) | exact (Has.there (Has.there (Has.there Has.here))) | exact (Has.there (Has.there (Has.there (Has.there Has.here)))) | exact (Has.there (Has.there (Has.there (Has.there (Has.there Has.here))))) | exact (Has.there (Has.there (Has.there (Has.there (Has.there (Has.there Has.here)))))) | exact (Has.there (Has.there (Has.there (Has.there (Has.there (Has.there (Has.there Has.here))))))) | fail "none"))
local macro_rules | `(tactic| ktf_call "chg") => `(tactic| (with_reducible first | exact Chg.here | exact (Chg.there Chg.here) | exact (Chg.there (Chg.there Chg.here)) | exact (Chg.there (Chg.there (Chg.there Chg.here))) | exact (Chg.there (Chg.there (Chg.there (Chg.there Chg.here)))) | exact (Chg.there (Chg.there (Chg.there (Chg.there (Chg.there Chg.here))))) | exact (Chg.there (Chg.there (Chg.there (Chg.there (Chg.there (Chg.there Chg.here)))))) | exact (Chg.there (Chg.there (Chg.there (Chg.there (Chg.there (Chg.there (Chg.there Chg.here))))))) | fail "none"))
local macro_rules | `(tactic| ktf_call "vl") => `(tactic| first | ((with_reducible refine' VL.own ?cv); (case cv => ktf_call "has")) | with_reducible exact VL.dat | fail "vl")
local macro_rules | `(tactic| ktf_call "vu") => `(tactic| ((with_reducible refine' VU.own ?cv); (case cv => ktf_call "has")))
local macro_rules | `(tactic| ktf_call "ati") => `(tactic| first | assumption | exact ati_l rfl | fail "ati")
local macro_rules | `(tactic| ktf_call "vi") => `(tactic| first | with_reducible exact vi_dat | ((with_reducible refine' vi_own ?cv); (case cv => ktf_call "has")) | ((with_reducible refine' vi_nil ?cv); (case cv => ktf_call "vl")) | fail "vi")
local macro_rules | `(tactic| ktf_call "vs") => `(tactic| first | with_reducible exact vs_dat | ((with_reducible refine' vs_own ?cv); (case cv => ktf_call "has")) | ((with_reducible refine' vs_nil ?cv); (case cv => ktf_call "vl")) | fail "vs")
local macro_rules | `(tactic| ktf_call "hyp") => `(tactic| simp only [decide_eq_true_eq, decide_eq_false_iff_not, Bool.not_eq_true', Bool.not_eq_false', Bool.not_true, Bool.not_false, Bool.true_eq_false, Bool.false_eq_true, Int.not_lt, Int.not_le] at *)
local macro_rules | `(tactic| ktf_call "side") => `(tactic| first | assumption | decide | omega | (simp only [List.length_cons, List.length_nil, List.length_map]; omega) | exact ⟨Int.emod_nonneg _ (by omega), Int.emod_lt_of_pos _ (by omega)⟩ | (decide +kernel) | (simp; done) | (simp; omega))
local macro_rules | `(tactic| ktf_call "cmul") => `(tactic| first | assumption | exact cm_l (by omega) (by omega) | exact cm_r (by omega) (by omega) | fail "cmul")
local macro_rules | `(tactic| ktf_call "cdiv") => `(tactic| first | assumption | exact ⟨by assumption, by assumption⟩ | exact cd_s (by omega) (by omega) | fail "cdiv")
local macro_rules | `(tactic| ktf_call "frz") => `(tactic| (repeat (first | exact Frz.dat | exact Frzs.nil | apply Frzs.cons | apply Frz.lst | exact Frzs.map _ _)))
local macro_rules | `(tactic| ktf_call "ln") => `(tactic| first | ((with_reducible refine' ln_I ?cv); (case cv => ktf_call "vi")) | ((with_reducible refine' ln_S ?cv); (case cv => ktf_call "vs")) | ((with_reducible refine' Ln.lst ?cv); (case cv => ktf_call "vl")) | ((with_reducible refine' Ln.str ?cv); (case cv => ktf_call "side")) | with_reducible exact Ln.tup | fail "ln")
local macro_rules | `(tactic| ktf_call "tym") => `(tactic| first | with_reducible exact TyM.str | with_reducible exact TyM.lst (by ktf_call "vl") | with_reducible exact TyM.int | with_reducible exact TyM.dk (by ktf_call "has"))
local macro_rules | `(tactic| ktf_call "gl") => `(tactic| first | assumption | exact Def.gl (by assumption) (by decide +kernel) | exact IsBlk.gl (by assumption) (by decide +kernel) | exact IsBlkH.gl (by assumption) (by decide +kernel) | fail "gl")
local macro_rules | `(tactic| ktf_call "mg") => `(tactic| first | assumption | exact Def.mg_ (by assumption) (by assumption) | exact IsBlk.mg (by assumption) (by ktf_call "mg") | exact IsBlkH.mg (by assumption) (by ktf_call "mg") | fail "mg")
local macro_rules | `(tactic| ktf_call "own") => `(tactic| first | assumption | exact Def.own (by assumption) (by decide +kernel) | fail "own")
local macro_rules | `(tactic| ktf_call "cal") => `(tactic| first | assumption | exact Def.callee (by assumption) (by assumption) | exact IsBlk.callee (by assumption) (by ktf_call "cal") | fail "cal")
local macro_rules | `(tactic| ktf_call "fog") => `(tactic| (repeat (first | with_reducible exact Fog.nil | with_reducible apply Fog.keep | with_reducible apply Fog.drop)))
local macro_rules | `(tactic| ktf_call "blk") => `(tactic| first | with_reducible exact Blk.nil | exact Blk.keep (by decide +kernel) (by ktf_call "blk") | exact Blk.drop (by ktf_call "blk"))
local macro_rules | `(tactic| ktf_call "sub") => `(tactic| (repeat (with_reducible first | exact List.Sublist.slnil | exact List.nil_sublist _ | exact sub_nil _ | apply List.Sublist.cons_cons | apply List.Sublist.cons)))
local macro_rules | `(tactic| ktf_call "ce") => `(tactic| fail "ce")
-- expressions
local macro_rules | `(tactic| ktf_call "e") => `(tactic| first
  | ((with_reducible show DE _ _ _ _ (.Name _ _) _); refine de_name (by ktf_call "lk") ?_)
  | ((with_reducible show DE _ _ _ _ (.Constant _ _ _) _); first | refine de_int ?_ | refine de_str ?_ | refine de_bl ?_ | refine de_non ?_)
  | ((with_reducible show DE _ _ _ _ (.BinOp _ _ _ _) _); refine de_bin ?_)
  | ((with_reducible show DE _ _ _ _ (.Subscript _ (.Slice _ _ none _) _) _); refine d_slice ?_)
  | ((with_reducible show DE _ _ _ _ (.Subscript _ _ _) _); refine de_ix ?_)
  | ((with_reducible show DE _ _ _ _ (.Call (.Name _ _) _ _ _) _); first
      | ((with_reducible show DE _ _ _ _ (.Call (.Name "len" _) _ _ _) _); refine d_len (by ktf_call "gl") (by ktf_call "mg") ?_)
      | ((with_reducible show DE _ _ _ _ (.Call (.Name "int" _) _ _ _) _); refine d_int (by ktf_call "gl") (by ktf_call "mg") ?_)
      | ((with_reducible show DE _ _ _ _ (.Call (.Name "abs" _) _ _ _) _); refine d_abs (by ktf_call "gl") (by ktf_call "mg") ?_)
      | ktf_call "ce"
      | refine de_call (by ktf_call "cal") (by assumption) (by ktf_call "gl") ?_ (hjk := by omega))
  | ((with_reducible show DE _ _ _ _ (.Call (.Attribute _ "join" _) _ _ _) _); refine d_join ?_)
  | ((with_reducible show DE _ _ _ _ (.Call (.Attribute _ "append" _) _ _ _) _); refine d_appendL ?_)
  | ((with_reducible show DE _ _ _ _ (.Call (.Attribute _ "extend" _) _ _ _) _); refine d_extendL ?_)
  | ((with_reducible show DE _ _ _ _ (.Call (.Attribute _ "find" _) [_, _] _ _) _); refine d_find3 ?_)
  | ((with_reducible show DE _ _ _ _ (.Compare _ [_] [_] _) _); refine de_cmp ?_)
  | ((with_reducible show DE _ _ _ _ (.BoolOp _ [_] _) _); refine de_bo1 ?_)
  | ((with_reducible show DE _ _ _ _ (.BoolOp .And _ _) _); refine de_and ?_)
  | ((with_reducible show DE _ _ _ _ (.BoolOp .Or _ _) _); refine de_or ?_)
  | ((with_reducible show DE _ _ _ _ (.UnaryOp .Not _ _) _); refine de_not ?_)
  | ((with_reducible show DE _ _ _ _ (.UnaryOp _ _ _) _); refine de_un ?_)
  | ((with_reducible show DE _ _ _ _ (.List _ _) _); refine de_lst ?_)
  | ((with_reducible show DE _ _ _ _ (.Tuple _ _ _) _); refine de_tup ?_)
  | ((with_reducible show DE _ _ _ _ (.IfExp _ _ _ _) _); refine de_if ?_))
local macro_rules | `(tactic| ktf_call "o") => `(tactic| first
  | ((with_reducible show OP _ _ _ _ (binaryOp _) _ _ _); first
    | ((with_reducible refine' o_add  ?kk))
    | ((with_reducible refine' o_addS ?ca ?kk); (case ca => ktf_call "side"))
    | ((with_reducible refine' o_cat ?ca ?cb ?cd (fun p => ?kk)); (case ca => ktf_call "vu"); (case cb => ktf_call "vu"); (case cd => ktf_call "side"))
    | ((with_reducible refine' o_sub  ?kk))
    | ((with_reducible refine' o_mulS ?ca ?kk); (case ca => ktf_call "cmul"))
    | ((with_reducible refine' o_mul ?ca ?kk); (case ca => assumption))
    | ((with_reducible refine' o_div ?ca ?kk); (case ca => ktf_call "cdiv"))
    | ((with_reducible refine' o_mod ?ca ?kk); (case ca => (first | assumption | omega | decide)))
    | ((with_reducible refine' o_pow ?ca ?kk); (case ca => decide))
    | fail "o")
  | ((with_reducible show OP _ _ _ _ (compareOp _) _ _ _); first
    | ((with_reducible refine' o_lt  ?kk))
    | ((with_reducible refine' o_le  ?kk))
    | ((with_reducible refine' o_gt  ?kk))
    | ((with_reducible refine' o_ge  ?kk))
    | ((with_reducible refine' o_eqI  ?kk))
    | ((with_reducible refine' o_eqS  ?kk))
    | ((with_reducible refine' o_eqB  ?kk))
    | ((with_reducible refine' o_eqLI ?ca ?cb ?cd ?kk); (case ca => assumption); (case cb => ktf_call "vi"); (case cd => ktf_call "vi"))
    | ((with_reducible refine' o_eqLS ?ca ?cb ?cd ?kk); (case ca => assumption); (case cb => ktf_call "vs"); (case cd => ktf_call "vs"))
    | ((with_reducible refine' o_neI  ?kk))
    | ((with_reducible refine' o_neS  ?kk))
    | ((with_reducible refine' o_neLI ?ca ?cb ?cd ?kk); (case ca => assumption); (case cb => ktf_call "vi"); (case cd => ktf_call "vi"))
    | ((with_reducible refine' o_neLS ?ca ?cb ?cd ?kk); (case ca => assumption); (case cb => ktf_call "vs"); (case cd => ktf_call "vs"))
    | ((with_reducible refine' o_isB  ?kk))
    | fail "o")
  | ((with_reducible refine' u_neg  ?kk))
  | ((with_reducible refine' x_I ?ca ?cb ?kk); (case ca => ktf_call "vi"); (case cb => ktf_call "side"))
  | ((with_reducible refine' x_S ?ca ?cb ?kk); (case ca => ktf_call "vs"); (case cb => ktf_call "side"))
  | ((with_reducible refine' x_B ?ca ?cb ?kk); (case ca => ((with_reducible refine' vb_own ?cv); (case cv => ktf_call "has"))); (case cb => ktf_call "side"))
  | ((with_reducible refine' x_ch ?ca ?cb ?kk); (case ca => ktf_call "side"); (case cb => ktf_call "side"))
  | ((with_reducible refine' x_lst ?ca ?cb ?kk); (case ca => ktf_call "vl"); (case cb => ktf_call "ati"))
  | ((with_reducible refine' x_tup ?ca ?kk); (case ca => ktf_call "ati"))
  | ((with_reducible refine' x_str ?ca ?cb ?kk); (case ca => ktf_call "side"); (case cb => ktf_call "ati"))
  | ((with_reducible refine' s_lst ?ca (fun p => ?kk)); (case ca => ktf_call "vl"))
  | ((with_reducible refine' s_str ?ca ?kk); (case ca => ktf_call "side"))
  | fail "o")
local macro_rules | `(tactic| ktf_call "t") => `(tactic| first
  | ((with_reducible show DT _ _ _ _ (.Compare _ [_] [_] _) _); refine dt_cmp ?_)
  | ((with_reducible show DT _ _ _ _ (.BoolOp _ _ _) _); refine dt_bool ?_)
  | ((with_reducible show DT _ _ _ _ (.UnaryOp .Not _ _) _); refine dt_not ?_)
  | ((with_reducible show DT _ _ _ _ _ _); refine dt_val ?_)
  | ((with_reducible show DW _ _ _ _ (.BoolOp .And [_] _) _); refine dw_and1 ?_)
  | ((with_reducible show DW _ _ _ _ (.BoolOp .Or [_] _) _); refine dw_or1 ?_)
  | ((with_reducible show DW _ _ _ _ (.BoolOp .And _ _) _); refine dw_and ?_)
  | ((with_reducible show DW _ _ _ _ (.BoolOp .Or _ _) _); refine dw_or ?_))
local macro_rules | `(tactic| ktf_call "s") => `(tactic| first
  | ((with_reducible show DSs _ _ _ _ (List.drop _ _) _); first | refine dss_at rfl ?_ | refine dss_end rfl ?_)
  | ((with_reducible show DSs _ _ _ _ (_ :: _) _); refine dss_cons ?_)
  | ((with_reducible show DSs _ _ _ _ [] _); refine dss_nil ?_)
  | ((with_reducible show DS _ _ _ _ (.If _ _ _ _) _); refine ds_if ?_)
  | ((with_reducible show DS _ _ _ _ (.Return (some _) _) _); refine ds_ret ?_)
  | ((with_reducible show DS _ _ _ _ (.Assign [.Name _ _] _ _) _); refine ds_asg (by ktf_call "own") (by ktf_call "put") ?_)
  | ((with_reducible show DS _ _ _ _ (.Assign [.Subscript _ _ _] _ _) _); refine ds_setL ?_)
  | ((with_reducible show DS _ _ _ _ (.Expr _ _) _); refine ds_expr ?_)
  | ((with_reducible show DS _ _ _ _ (.AugAssign (.Name _ _) .Add _ _) _); refine ds_augI ip_add (by ktf_call "own") (by ktf_call "lk") (by ktf_call "put") ?_)
  | ((with_reducible show DS _ _ _ _ (.AugAssign (.Name _ _) .Sub _ _) _); refine ds_augI ip_sub (by ktf_call "own") (by ktf_call "lk") (by ktf_call "put") ?_)
  | fail "s")
local macro_rules | `(tactic| ktf_call "k") => `(tactic| first
  | ((with_reducible show DA _ _ _ _ [] _); refine da_nil ?_)
  | ((with_reducible show DA _ _ _ _ (_ :: _) _); refine da_cons ?_)
  | ((with_reducible show DO _ _ _ _ none _); refine do_none ?_)
  | ((with_reducible show DO _ _ _ _ (some _) _); refine do_some ?_)
  | ((with_reducible show KB _ _ _); refine kb ?_)
  | ((with_reducible show (_ = true → _) ∧ (_ = false → _)); refine ⟨fun hyp => ?_, fun hyp => ?_⟩ <;> (try simp only [decide_eq_true_eq, decide_eq_false_iff_not, Bool.not_eq_true', Bool.not_eq_false', Bool.not_true, Bool.not_false, Bool.true_eq_false, Bool.false_eq_true, Int.not_lt, Int.not_le, nil_len, Nat.pos_iff_ne_zero.symm] at hyp))
  | ((with_reducible show (_ = false → _) ∧ (_ = true → _)); refine ⟨fun hyp => ?_, fun hyp => ?_⟩ <;> (try simp only [decide_eq_true_eq, decide_eq_false_iff_not, Bool.not_eq_true', Bool.not_eq_false', Bool.not_true, Bool.not_false, Bool.true_eq_false, Bool.false_eq_true, Int.not_lt, Int.not_le, nil_len, Nat.pos_iff_ne_zero.symm] at hyp))
  | ((with_reducible show ∃ d, rB _ = rB d ∧ _); refine ⟨_, rfl, ?_⟩)
  | ((with_reducible show ∃ d, D2.rI _ = D2.rI d ∧ _); refine ⟨_, rfl, ?_⟩)
  | ((with_reducible show ∃ n, Ln _ _ n ∧ _); refine ⟨_, by ktf_call "ln", ?_⟩)
  | ((with_reducible refine' Exists.intro _ (Exists.intro _ (Exists.intro _ (Exists.intro _ (Exists.intro _ (And.intro rfl (And.intro rfl (And.intro ?ch (And.intro ?ix ?_))))))))); (case ch => ktf_call "chg"); (case ix => first | exact ixN_ok (by ktf_call "side") (by ktf_call "side") | exact rfl))
  | ((with_reducible show rS _ = rS [] ∧ _); refine ⟨rfl, ?_⟩)
  | ((with_reducible show ∃ s, rS _ = rS s ∧ _); refine ⟨_, rfl, ?_⟩)
  | ((with_reducible refine' Exists.intro _ (Exists.intro _ (Exists.intro _ (And.intro rfl (And.intro ?ch ?_))))); (case ch => ktf_call "has"))
  | ((with_reducible refine' Exists.intro _ (Exists.intro _ (And.intro ?ch (And.intro ?cl ?_)))); (case ch => ktf_call "chg"); (case cl => ktf_call "side"))
  | ((with_reducible refine' Exists.intro _ (Exists.intro _ (Exists.intro _ (And.intro ?ch (And.intro ?cu (And.intro ?cl ?_)))))); (case ch => ktf_call "chg"); (case cu => ktf_call "vu"); (case cl => ktf_call "side"))
  | ((with_reducible show _ ≤ 1000000 ∧ _); first | refine ⟨by ktf_call "side", fun p => ?_⟩ | refine ⟨by ktf_call "side", _, _, by ktf_call "frz", ?_⟩)
  | ktf_call "sp"
  | fail "k")
local macro_rules | `(tactic| ktf_call "d2") => `(tactic| (repeat' (first
  | ((with_reducible show DE _ _ _ _ _ _); ktf_call "e")
  | ((with_reducible show OP _ _ _ _ _ _ _ _); ktf_call "o")
  | ((with_reducible show IX _ _ _ _ _ _ _ _ _); ktf_call "o")
  | ((with_reducible show DT _ _ _ _ _ _); ktf_call "t")
  | ((with_reducible show DW _ _ _ _ _ _); ktf_call "t")
  | ((with_reducible show DA _ _ _ _ _ _); ktf_call "k")
  | ((with_reducible show DS _ _ _ _ _ _); ktf_call "s")
  | ((with_reducible show DSs _ _ _ _ _ _); ktf_call "s")
  | ((with_reducible show UP _ _ _ _ _ _ _); ktf_call "o")
  | ((with_reducible show SlK _ _ _ _ _ _ _ _); ktf_call "o")
  | ktf_call "k" | fail "stuck")))
abbrev poolO (cells : List Int) (a b n : Int) : O := .lst [.dat (.lst (dI cells)), rI a, rI b, rI n]
def Pl (o : O) : Prop := ∃ cells a b n, 0 ≤ a ∧ o = poolO cells a b n
theorem Pl.mk {cells : List Int} {a b n : Int} (h : 0 ≤ a) : Pl (poolO cells a b n) := ⟨_, _, _, _, h, rfl⟩
def spMixed : Sp2 := fun rs m Kr Ke => ∃ (cells : List Int) (a : Int), rs = [.dat (.lst (dI cells)), rI a] ∧ 0 ≤ a ∧ m = [] ∧ ∀ v, Kr (rI v) []
def spDraw : Sp2 := fun rs m Kr Ke => ∃ (p : Addr) (o : O) (size : Int), rs = [.own p, rI size] ∧ m = [(p, o)] ∧ Pl o ∧ 0 < size ∧ size.natAbs.log2 < 9000 ∧ ∀ d o', 0 ≤ d → d < size → Pl o' → Kr (rI d) [(p, o')]
local macro_rules | `(tactic| ktf_call "t") => `(tactic| ((with_reducible show DT _ _ _ _ (.Name "cells" _) _); refine dt_I ?_))
local macro_rules | `(tactic| ktf_call "k") => `(tactic| ((with_reducible refine' Exists.intro _ (And.intro ?cv ?_)); (case cv => ktf_call "vi")))
local macro_rules | `(tactic| ktf_call "sp") => `(tactic| first | ktf_call "sp_cell" | fail "sp")
local macro_rules | `(tactic| ktf_call "sp_cell") => `(tactic| (with_reducible refine ⟨[], _, Split.nil, (show spMixed _ _ _ _ from ?_)⟩); unfold spMixed; refine ⟨_, _, rfl, by ktf_call "side", rfl, fun v => ?_⟩; dsimp only [List.nil_append])
section
variable {P : Program} {w : World} {K : PySem.W.Frag} {mg : Str → Option Value} {base : Heap} {f : Addr} {fd : FuncData}
theorem sc__law_mixed : FnScope ["cells", "at", "number"] ["cells", "at"] (defScope (top 26)) := ⟨rfl, rfl, rfl, by decide +kernel, rfl, by decide +kernel, by decide +kernel⟩
theorem ok_mixed (F : FunD K "_law_mixed" "_law_mixed" (defArgs (top 26)) (defBody (top 26)) (defScope (top 26)) [] [] f fd) (m0_int : mg "int" = none) (m0_len : mg "len" = none) : FnOk P w K mg base (L2N.CX P w) (1) f fd ["cells", "at"] (spOf K spMixed) := by
  refine fn2 F sc__law_mixed (by decide +kernel) (fun rs m Kr Ke ⟨_, _, e, _⟩ => by rw [e]; rfl) fun X c rs m Kr Ke D L hx ⟨cells, a, er, ha, em, hk⟩ => ?_
  subst er em
  have m_int : X.mg "int" = none := D.mg_ m0_int
  have m_len : X.mg "len" = none := D.mg_ m0_len
  have g_int : Gl X "int" := D.gl (by decide +kernel)
  have g_len : Gl X "len" := D.gl (by decide +kernel)
  have o_number : Own X "number" := D.own (by decide +kernel)
  refine dss_lo ?_
  show DSs X c [("cells", some (.dat (.lst (dI cells)))), ("at", some (rI a)), ("number", none)] [] (_ :: _) _
  ktf_call "d2"
  all_goals exact ⟨[], sub_nil, hk _⟩
theorem sc__law_draw : FnScope ["pool", "size", "at", "digit"] ["pool", "size"] (defScope (top 27)) := ⟨rfl, rfl, rfl, by decide +kernel, rfl, by decide +kernel, by decide +kernel⟩
theorem ok_draw (F : FunD K "_law_draw" "_law_draw" (defArgs (top 27)) (defBody (top 27)) (defScope (top 27)) [] [] f fd) (m0_len : mg "len" = none) (c__law_mixed : CalleeG P w K mg base "_law_mixed" 1 spMixed) (m0_int : mg "int" = none) : FnOk P w K mg base (L2N.CX P w) (2) f fd ["pool", "size"] (spOf K spDraw) := by
  refine fn2 F sc__law_draw (by decide +kernel) (fun rs m Kr Ke ⟨_, _, _, e, _⟩ => by rw [e]; rfl) fun X c rs m Kr Ke D L hx ⟨p, o, size, er, em, ⟨cells, a, b, n, ha, eo⟩, h0, h1, hk⟩ => ?_
  subst er em eo
  have m_len : X.mg "len" = none := D.mg_ m0_len
  have e__law_mixed : Callee X "_law_mixed" 1 spMixed := D.callee c__law_mixed
  have m_int : X.mg "int" = none := D.mg_ m0_int
  have g_len : Gl X "len" := D.gl (by decide +kernel)
  have g__law_mixed : Gl X "_law_mixed" := D.gl (by decide +kernel)
  have g_int : Gl X "int" := D.gl (by decide +kernel)
  have o_at : Own X "at" := D.own (by decide +kernel)
  have o_digit : Own X "digit" := D.own (by decide +kernel)
  refine dss_lo ?_
  show DSs X c [("pool", some (.own p)), ("size", some (rI size)), ("at", none), ("digit", none)] [(p, poolO cells a b n)] (_ :: _) _
  have hcd : ∀ i, CDivW i size := fun i => ⟨h0, h1⟩
  ktf_call "d2"
  all_goals exact ⟨_, List.Sublist.refl _, hk _ _ (Int.emod_nonneg _ (by omega)) (Int.emod_lt_of_pos _ (by omega)) (Pl.mk (by omega))⟩
def absI (i : Int) : Int := if i < 0 then -i else i
def spStart : Sp2 := fun rs m Kr Ke => ∃ ns : List Int, rs = [.dat (.lst (dI ns))] ∧ ns.length ≤ 63 ∧ m = [] ∧ ∀ p o, Pl o → Kr (.own p) [(p, o)]
theorem sc__law_start : FnScope ["script", "cell"] ["script"] (defScope (top 25)) := ⟨rfl, rfl, rfl, by decide +kernel, rfl, by decide +kernel, by decide +kernel⟩
theorem ok_start (F : FunD K "_law_start" "_law_start" (defArgs (top 25)) (defBody (top 25)) (defScope (top 25)) [] [] f fd) (gi : mg "int" = none) (ga : mg "abs" = none) : FnOk P w K mg base (L2N.CX P w) (1) f fd ["script"] (spOf K spStart) := by
  refine fn2 F sc__law_start (by decide +kernel) (fun rs m Kr Ke ⟨_, e, _⟩ => by rw [e]; rfl) fun X c rs m Kr Ke D L hx ⟨ns, er, hn, em, hk⟩ => ?_
  subst er em
  refine dss_lo ?_
  show DSs X c [("script", some (.dat (.lst (dI ns)))), ("cell", none)] [] (_ :: _) _
  ktf_call "d2"
  refine de_frz ?_
  refine de_lc (own := [("cell", 1)]) (ds := dI (cutL ns none (some 63))) (fun i rs m => rs = ((cutL ns none (some 63)).take i).map (fun n => D2.rI (absI n)) ∧ m = []) L (D.nd (by decide +kernel)) (blk_ok D (by decide +kernel)) (by decide +kernel) (by ktf_call "blk") (.name (by ktf_call "put") List.mem_cons_self) (it_list ?_) ?_ ?_ ?_
  · ktf_call "d2"
    rw [cut_dI]
    exact ⟨_, _, .lst .here (Frzs.map _ _), rfl, rfl, rfl⟩
  · rintro i d rs m' hd ⟨rfl, rfl⟩
    obtain ⟨hi, rfl⟩ := dI_at hd
    refine turn0 fun Xe c' hX hL => ?_
    ktf_call "d2"
    exact ⟨by rw [take_snoc hi, List.map_append]; rfl, rfl⟩
  · rw [dI_len]
    exact Nat.le_trans (cut_len _ _ _) (by omega)
  · rintro rs m' p ⟨rfl, rfl⟩
    rw [dI_len, List.take_length]
    have e : (cutL ns none (some 63)).map (fun n => D2.rI (absI n)) = (dI ((cutL ns none (some 63)).map absI)).map R.dat := by
      unfold dI
      rw [List.map_map, List.map_map]; rfl
    rw [e]
    refine ⟨_, _, .lst .here (Frzs.map _ _), ?_⟩
    ktf_call "d2"
    exact ⟨_, List.Sublist.refl _, hk _ _ (Pl.mk (by omega))⟩
end
/-- a draw, asked -/
theorem sp_draw {m rest : Mem} {p : Addr} {o : O} {size : Int} {Kr : Mem → R → Mem → Prop} {Ke : Mem → Addr → List (Str × D2.D) → Mem → Prop} (hs : Has m p o rest) (ho : Pl o) (h0 : 0 < size) (h1 : size.natAbs.log2 < 9000) (k : ∀ d o', 0 ≤ d → d < size → Pl o' → Kr rest (rI d) [(p, o')]) :
    ∃ mf rest, Split m mf rest ∧ spDraw [.own p, rI size] mf (Kr rest) (Ke rest) := ⟨[(p, o)], rest, .cons hs .nil, p, o, size, rfl, rfl, ho, h0, h1, k⟩
theorem sp_start {m : Mem} {Kr : Mem → R → Mem → Prop} {Ke : Mem → Addr → List (Str × D2.D) → Mem → Prop} {ns : List Int} (h : ns.length ≤ 63) (k : ∀ p o, Pl o → Kr m (.own p) [(p, o)]) : ∃ mf rest, Split m mf rest ∧ spStart [.dat (.lst (dI ns))] mf (Kr rest) (Ke rest) := ⟨[], m, .nil, ns, rfl, h, rfl, k⟩
end NC
/-! ## NPick -/
set_option Elab.async false
set_option linter.all false
set_option maxRecDepth 100000
set_option maxHeartbeats 2000000
set_option pp.maxSteps 1500
namespace NC
open PySem PySem.Spec PyProof.Rows L2 D2
local macro_rules | `(tactic| ktf_call "lk") => `(tactic| (with_reducible first | exact Lk.here | exact (Lk.there Lk.here) | exact (Lk.there (Lk.there Lk.here)) | exact (Lk.there (Lk.there (Lk.there Lk.here))) | exact (Lk.there (Lk.there (Lk.there (Lk.there Lk.here)))) | exact (Lk.there (Lk.there (Lk.there (Lk.there (Lk.there Lk.here))))) | exact (Lk.there (Lk.there (Lk.there (Lk.there (Lk.there (Lk.there Lk.here)))))) | exact (Lk.there (Lk.there (Lk.there (Lk.there (Lk.there (Lk.there (Lk.there Lk.here))))))) | exact (Lk.there (Lk.there (Lk.there (Lk.there (Lk.there (Lk.there (Lk.there (Lk.there Lk.here)))))))) | exact (Lk.there (Lk.there (Lk.there (Lk.there (Lk.there (Lk.there (Lk.there (Lk.there (Lk.there Lk.here))))))))) | exact (Lk.there (Lk.there (Lk.there (Lk.there (Lk.there (Lk.there (Lk.there (Lk.there (Lk.there (Lk.there Lk.here)))))))))) | exact (Lk.there (Lk.there (Lk.there (Lk.there (Lk.there (Lk.there (Lk.there (Lk.there (Lk.there (Lk.there (Lk.there Lk.here))))))))))) | exact (Lk.there (Lk.there (Lk.there (Lk.there (Lk.there (Lk.there (Lk.there (Lk.there (Lk.there (Lk.there (Lk.there (Lk.there Lk.here)))))))))))) | exact (Lk.there (Lk.there (Lk.there (Lk.there (Lk.there (Lk.there (Lk.there (Lk.there (Lk.there (Lk.there (Lk.there (Lk.there (Lk.there Lk.here))))))))))))) | fail "none"))
local macro_rules | `(tactic| ktf_call "put") => `(tactic| (with_reducible first | exact PutF.here | exact (PutF.there PutF.here) | exact (PutF.there (PutF.there PutF.here)) | exact (PutF.there (PutF.there (PutF.there PutF.here))) | exact (PutF.there (PutF.there (PutF.there (PutF.there PutF.here)))) | exact (PutF.there (PutF.there (PutF.there (PutF.there (PutF.there PutF.here))))) | exact (PutF.there (PutF.there (PutF.there (PutF.there (PutF.there (PutF.there PutF.here)))))) | exact (PutF.there (PutF.there (PutF.there (PutF.there (PutF.there (PutF.there (PutF.there PutF.here))))))) | exact (PutF.there (PutF.there (PutF.there (PutF.there (PutF.there (PutF.there (PutF.there (PutF.there PutF.here)))))))) | exact (PutF.there (PutF.there (PutF.there (PutF.there (PutF.there (PutF.there (PutF.there (PutF.there (PutF.there PutF.here))))))))) | exact (PutF.there (PutF.there (PutF.there (PutF.there (PutF.there (PutF.there (PutF.there (PutF.there (PutF.there (PutF.there PutF.here)))))))))) | exact (PutF.there (PutF.there (PutF.there (PutF.there (PutF.there (PutF.there (PutF.there (PutF.there (PutF.there (PutF.there (PutF.there PutF.here))))))))))) | exact (PutF.there (PutF.there (PutF.there (PutF.there (PutF.there (PutF.there (PutF.there (PutF.there (PutF.there (PutF.there (PutF.there (PutF.there PutF.here)))))))))))) | exact (PutF.there (PutF.there (PutF.there (PutF.there (PutF.there (PutF.there (PutF.there (PutF.there (PutF.there (PutF.there (PutF.there (PutF.there (PutF.there PutF.here))))))))))))) | fail "none"))
local macro_rules | `(tactic| ktf_call "has") => `(tactic| (with_reducible first | exact Has.here | exact (Has.there Has.here) | exact (Has.there (Has.there Has.here)) | exact (Has.there (Has.there (Has.there Has.here))) | exact (Has.there (Has.there (Has.there (Has.there Has.here)))) | exact (Has.there (Has.there (Has.there (Has.there (Has.there Has.here))))) | exact (Has.there (Has.there (Has.there (Has.there (Has.there (Has.there Has.here)))))) | exact (Has.there (Has.there (Has.there (Has.there (Has.there (Has.there (Has.there Has.here))))))) | fail "none"))
local macro_rules | `(tactic| ktf_call "chg") => `(tactic| (with_reducible first | exact Chg.here | exact (Chg.there Chg.here) | exact (Chg.there (Chg.there Chg.here)) | exact (Chg.there (Chg.there (Chg.there Chg.here))) | exact (Chg.there (Chg.there (Chg.there (Chg.there Chg.here)))) | exact (Chg.there (Chg.there (Chg.there (Chg.there (Chg.there Chg.here))))) | exact (Chg.there (Chg.there (Chg.there (Chg.there (Chg.there (Chg.there Chg.here)))))) | exact (Chg.there (Chg.there (Chg.there (Chg.there (Chg.there (Chg.there (Chg.there Chg.here))))))) | fail "none"))
local macro_rules | `(tactic| ktf_call "vl") => `(tactic| first | ((with_reducible refine' VL.own ?cv); (case cv => ktf_call "has")) | with_reducible exact VL.dat | fail "vl")
local macro_rules | `(tactic| ktf_call "vu") => `(tactic| ((with_reducible refine' VU.own ?cv); (case cv => ktf_call "has")))
local macro_rules | `(tactic| ktf_call "ati") => `(tactic| first | assumption | exact ati_l rfl | fail "ati")
local macro_rules | `(tactic| ktf_call "vi") => `(tactic| first | with_reducible exact vi_dat | ((with_reducible refine' vi_own ?cv); (case cv => ktf_call "has")) | ((with_reducible refine' vi_nil ?cv); (case cv => ktf_call "vl")) | fail "vi")
local macro_rules | `(tactic| ktf_call "vs") => `(tactic| first | with_reducible exact vs_dat | ((with_reducible refine' vs_own ?cv); (case cv => ktf_call "has")) | ((with_reducible refine' vs_nil ?cv); (case cv => ktf_call "vl")) | fail "vs")
local macro_rules | `(tactic| ktf_call "hyp") => `(tactic| simp only [decide_eq_true_eq, decide_eq_false_iff_not, Bool.not_eq_true', Bool.not_eq_false', Bool.not_true, Bool.not_false, Bool.true_eq_false, Bool.false_eq_true, Int.not_lt, Int.not_le] at *)
local macro_rules | `(tactic| ktf_call "side") => `(tactic| first | assumption | decide | omega | (simp only [List.length_cons, List.length_nil, List.length_map]; omega) | exact ⟨Int.emod_nonneg _ (by omega), Int.emod_lt_of_pos _ (by omega)⟩ | (decide +kernel) | (simp; done) | (simp; omega))
local macro_rules | `(tactic| ktf_call "cmul") => `(tactic| first | assumption | exact cm_l (by omega) (by omega) | exact cm_r (by omega) (by omega) | fail "cmul")
local macro_rules | `(tactic| ktf_call "cdiv") => `(tactic| first | assumption | exact ⟨by assumption, by assumption⟩ | exact cd_s (by omega) (by omega) | fail "cdiv")
local macro_rules | `(tactic| ktf_call "frz") => `(tactic| (repeat (first | exact Frz.dat | exact Frzs.nil | apply Frzs.cons | apply Frz.lst | exact Frzs.map _ _)))
local macro_rules | `(tactic| ktf_call "ln") => `(tactic| first | ((with_reducible refine' ln_I ?cv); (case cv => ktf_call "vi")) | ((with_reducible refine' ln_S ?cv); (case cv => ktf_call "vs")) | ((with_reducible refine' Ln.lst ?cv); (case cv => ktf_call "vl")) | ((with_reducible refine' Ln.str ?cv); (case cv => ktf_call "side")) | with_reducible exact Ln.tup | fail "ln")
local macro_rules | `(tactic| ktf_call "tym") => `(tactic| first | with_reducible exact TyM.str | with_reducible exact TyM.lst (by ktf_call "vl") | with_reducible exact TyM.int | with_reducible exact TyM.dk (by ktf_call "has"))
local macro_rules | `(tactic| ktf_call "gl") => `(tactic| first | assumption | exact Def.gl (by assumption) (by decide +kernel) | exact IsBlk.gl (by assumption) (by decide +kernel) | exact IsBlkH.gl (by assumption) (by decide +kernel) | fail "gl")
local macro_rules | `(tactic| ktf_call "mg") => `(tactic| first | assumption | exact Def.mg_ (by assumption) (by assumption) | exact IsBlk.mg (by assumption) (by ktf_call "mg") | exact IsBlkH.mg (by assumption) (by ktf_call "mg") | fail "mg")
local macro_rules | `(tactic| ktf_call "own") => `(tactic| first | assumption | exact Def.own (by assumption) (by decide +kernel) | fail "own")
local macro_rules | `(tactic| ktf_call "cal") => `(tactic| first | assumption | exact Def.callee (by assumption) (by assumption) | exact IsBlk.callee (by assumption) (by ktf_call "cal") | fail "cal")
local macro_rules | `(tactic| ktf_call "fog") => `(tactic| (repeat (first | with_reducible exact Fog.nil | with_reducible apply Fog.keep | with_reducible apply Fog.drop)))
local macro_rules | `(tactic| ktf_call "blk") => `(tactic| first | with_reducible exact Blk.nil | exact Blk.keep (by decide +kernel) (by ktf_call "blk") | exact Blk.drop (by ktf_call "blk"))
local macro_rules | `(tactic| ktf_call "sub") => `(tactic| (repeat (with_reducible first | exact List.Sublist.slnil | exact List.nil_sublist _ | exact sub_nil _ | apply List.Sublist.cons_cons | apply List.Sublist.cons)))
local macro_rules | `(tactic| ktf_call "ce") => `(tactic| fail "ce")
-- expressions
local macro_rules | `(tactic| ktf_call "e") => `(tactic| first
  | ((with_reducible show DE _ _ _ _ (.Name _ _) _); refine de_name (by ktf_call "lk") ?_)
  | ((with_reducible show DE _ _ _ _ (.Constant _ _ _) _); first | refine de_int ?_ | refine de_str ?_ | refine de_bl ?_ | refine de_non ?_)
  | ((with_reducible show DE _ _ _ _ (.BinOp _ _ _ _) _); refine de_bin ?_)
  | ((with_reducible show DE _ _ _ _ (.Subscript _ (.Slice _ _ none _) _) _); refine d_slice ?_)
  | ((with_reducible show DE _ _ _ _ (.Subscript _ _ _) _); refine de_ix ?_)
  | ((with_reducible show DE _ _ _ _ (.Call (.Name _ _) _ _ _) _); first
      | ((with_reducible show DE _ _ _ _ (.Call (.Name "len" _) _ _ _) _); refine d_len (by ktf_call "gl") (by ktf_call "mg") ?_)
      | ((with_reducible show DE _ _ _ _ (.Call (.Name "int" _) _ _ _) _); refine d_int (by ktf_call "gl") (by ktf_call "mg") ?_)
      | ((with_reducible show DE _ _ _ _ (.Call (.Name "abs" _) _ _ _) _); refine d_abs (by ktf_call "gl") (by ktf_call "mg") ?_)
      | ktf_call "ce"
      | refine de_call (by ktf_call "cal") (by assumption) (by ktf_call "gl") ?_ (hjk := by omega))
  | ((with_reducible show DE _ _ _ _ (.Call (.Attribute _ "join" _) _ _ _) _); refine d_join ?_)
  | ((with_reducible show DE _ _ _ _ (.Call (.Attribute _ "append" _) _ _ _) _); refine d_appendL ?_)
  | ((with_reducible show DE _ _ _ _ (.Call (.Attribute _ "extend" _) _ _ _) _); refine d_extendL ?_)
  | ((with_reducible show DE _ _ _ _ (.Call (.Attribute _ "find" _) [_, _] _ _) _); refine d_find3 ?_)
  | ((with_reducible show DE _ _ _ _ (.Compare _ [_] [_] _) _); refine de_cmp ?_)
  | ((with_reducible show DE _ _ _ _ (.BoolOp _ [_] _) _); refine de_bo1 ?_)
  | ((with_reducible show DE _ _ _ _ (.BoolOp .And _ _) _); refine de_and ?_)
  | ((with_reducible show DE _ _ _ _ (.BoolOp .Or _ _) _); refine de_or ?_)
  | ((with_reducible show DE _ _ _ _ (.UnaryOp .Not _ _) _); refine de_not ?_)
  | ((with_reducible show DE _ _ _ _ (.UnaryOp _ _ _) _); refine de_un ?_)
  | ((with_reducible show DE _ _ _ _ (.List _ _) _); refine de_lst ?_)
  | ((with_reducible show DE _ _ _ _ (.Tuple _ _ _) _); refine de_tup ?_)
  | ((with_reducible show DE _ _ _ _ (.IfExp _ _ _ _) _); refine de_if ?_))
local macro_rules | `(tactic| ktf_call "o") => `(tactic| first
  | ((with_reducible show OP _ _ _ _ (binaryOp _) _ _ _); first
    | ((with_reducible refine' o_add  ?kk))
    | ((with_reducible refine' o_addS ?ca ?kk); (case ca => ktf_call "side"))
    | ((with_reducible refine' o_cat ?ca ?cb ?cd (fun p => ?kk)); (case ca => ktf_call "vu"); (case cb => ktf_call "vu"); (case cd => ktf_call "side"))
    | ((with_reducible refine' o_sub  ?kk))
    | ((with_reducible refine' o_mulS ?ca ?kk); (case ca => ktf_call "cmul"))
    | ((with_reducible refine' o_mul ?ca ?kk); (case ca => assumption))
    | ((with_reducible refine' o_div ?ca ?kk); (case ca => ktf_call "cdiv"))
    | ((with_reducible refine' o_mod ?ca ?kk); (case ca => (first | assumption | omega | decide)))
    | ((with_reducible refine' o_pow ?ca ?kk); (case ca => decide))
    | fail "o")
  | ((with_reducible show OP _ _ _ _ (compareOp _) _ _ _); first
    | ((with_reducible refine' o_lt  ?kk))
    | ((with_reducible refine' o_le  ?kk))
    | ((with_reducible refine' o_gt  ?kk))
    | ((with_reducible refine' o_ge  ?kk))
    | ((with_reducible refine' o_eqI  ?kk))
    | ((with_reducible refine' o_eqS  ?kk))
    | ((with_reducible refine' o_eqB  ?kk))
    | ((with_reducible refine' o_eqLI ?ca ?cb ?cd ?kk); (case ca => assumption); (case cb => ktf_call "vi"); (case cd => ktf_call "vi"))
    | ((with_reducible refine' o_eqLS ?ca ?cb ?cd ?kk); (case ca => assumption); (case cb => ktf_call "vs"); (case cd => ktf_call "vs"))
    | ((with_reducible refine' o_neI  ?kk))
    | ((with_reducible refine' o_neS  ?kk))
    | ((with_reducible refine' o_neLI ?ca ?cb ?cd ?kk); (case ca => assumption); (case cb => ktf_call "vi"); (case cd => ktf_call "vi"))
    | ((with_reducible refine' o_neLS ?ca ?cb ?cd ?kk); (case ca => assumption); (case cb => ktf_call "vs"); (case cd => ktf_call "vs"))
    | ((with_reducible refine' o_isB  ?kk))
    | fail "o")
  | ((with_reducible refine' u_neg  ?kk))
  | ((with_reducible refine' x_I ?ca ?cb ?kk); (case ca => ktf_call "vi"); (case cb => ktf_call "side"))
  | ((with_reducible refine' x_S ?ca ?cb ?kk); (case ca => ktf_call "vs"); (case cb => ktf_call "side"))
  | ((with_reducible refine' x_B ?ca ?cb ?kk); (case ca => ((with_reducible refine' vb_own ?cv); (case cv => ktf_call "has"))); (case cb => ktf_call "side"))
  | ((with_reducible refine' x_ch ?ca ?cb ?kk); (case ca => ktf_call "side"); (case cb => ktf_call "side"))
  | ((with_reducible refine' x_lst ?ca ?cb ?kk); (case ca => ktf_call "vl"); (case cb => ktf_call "ati"))
  | ((with_reducible refine' x_tup ?ca ?kk); (case ca => ktf_call "ati"))
  | ((with_reducible refine' x_str ?ca ?cb ?kk); (case ca => ktf_call "side"); (case cb => ktf_call "ati"))
  | ((with_reducible refine' s_lst ?ca (fun p => ?kk)); (case ca => ktf_call "vl"))
  | ((with_reducible refine' s_str ?ca ?kk); (case ca => ktf_call "side"))
  | fail "o")
local macro_rules | `(tactic| ktf_call "t") => `(tactic| first
  | ((with_reducible show DT _ _ _ _ (.Compare _ [_] [_] _) _); refine dt_cmp ?_)
  | ((with_reducible show DT _ _ _ _ (.BoolOp _ _ _) _); refine dt_bool ?_)
  | ((with_reducible show DT _ _ _ _ (.UnaryOp .Not _ _) _); refine dt_not ?_)
  | ((with_reducible show DT _ _ _ _ _ _); refine dt_val ?_)
  | ((with_reducible show DW _ _ _ _ (.BoolOp .And [_] _) _); refine dw_and1 ?_)
  | ((with_reducible show DW _ _ _ _ (.BoolOp .Or [_] _) _); refine dw_or1 ?_)
  | ((with_reducible show DW _ _ _ _ (.BoolOp .And _ _) _); refine dw_and ?_)
  | ((with_reducible show DW _ _ _ _ (.BoolOp .Or _ _) _); refine dw_or ?_))
local macro_rules | `(tactic| ktf_call "s") => `(tactic| first
  | ((with_reducible show DSs _ _ _ _ (List.drop _ _) _); first | refine dss_at rfl ?_ | refine dss_end rfl ?_)
  | ((with_reducible show DSs _ _ _ _ (_ :: _) _); refine dss_cons ?_)
  | ((with_reducible show DSs _ _ _ _ [] _); refine dss_nil ?_)
  | ((with_reducible show DS _ _ _ _ (.If _ _ _ _) _); refine ds_if ?_)
  | ((with_reducible show DS _ _ _ _ (.Return (some _) _) _); refine ds_ret ?_)
  | ((with_reducible show DS _ _ _ _ (.Assign [.Name _ _] _ _) _); refine ds_asg (by ktf_call "own") (by ktf_call "put") ?_)
  | ((with_reducible show DS _ _ _ _ (.Assign [.Subscript _ _ _] _ _) _); refine ds_setL ?_)
  | ((with_reducible show DS _ _ _ _ (.Expr _ _) _); refine ds_expr ?_)
  | ((with_reducible show DS _ _ _ _ (.AugAssign (.Name _ _) .Add _ _) _); refine ds_augI ip_add (by ktf_call "own") (by ktf_call "lk") (by ktf_call "put") ?_)
  | ((with_reducible show DS _ _ _ _ (.AugAssign (.Name _ _) .Sub _ _) _); refine ds_augI ip_sub (by ktf_call "own") (by ktf_call "lk") (by ktf_call "put") ?_)
  | fail "s")
local macro_rules | `(tactic| ktf_call "k") => `(tactic| first
  | ((with_reducible show DA _ _ _ _ [] _); refine da_nil ?_)
  | ((with_reducible show DA _ _ _ _ (_ :: _) _); refine da_cons ?_)
  | ((with_reducible show DO _ _ _ _ none _); refine do_none ?_)
  | ((with_reducible show DO _ _ _ _ (some _) _); refine do_some ?_)
  | ((with_reducible show KB _ _ _); refine kb ?_)
  | ((with_reducible show (_ = true → _) ∧ (_ = false → _)); refine ⟨fun hyp => ?_, fun hyp => ?_⟩ <;> (try simp only [decide_eq_true_eq, decide_eq_false_iff_not, Bool.not_eq_true', Bool.not_eq_false', Bool.not_true, Bool.not_false, Bool.true_eq_false, Bool.false_eq_true, Int.not_lt, Int.not_le, nil_len, Nat.pos_iff_ne_zero.symm] at hyp))
  | ((with_reducible show (_ = false → _) ∧ (_ = true → _)); refine ⟨fun hyp => ?_, fun hyp => ?_⟩ <;> (try simp only [decide_eq_true_eq, decide_eq_false_iff_not, Bool.not_eq_true', Bool.not_eq_false', Bool.not_true, Bool.not_false, Bool.true_eq_false, Bool.false_eq_true, Int.not_lt, Int.not_le, nil_len, Nat.pos_iff_ne_zero.symm] at hyp))
  | ((with_reducible show ∃ d, rB _ = rB d ∧ _); refine ⟨_, rfl, ?_⟩)
  | ((with_reducible show ∃ d, D2.rI _ = D2.rI d ∧ _); refine ⟨_, rfl, ?_⟩)
  | ((with_reducible show ∃ n, Ln _ _ n ∧ _); refine ⟨_, by ktf_call "ln", ?_⟩)
  | ((with_reducible refine' Exists.intro _ (Exists.intro _ (Exists.intro _ (Exists.intro _ (Exists.intro _ (And.intro rfl (And.intro rfl (And.intro ?ch (And.intro ?ix ?_))))))))); (case ch => ktf_call "chg"); (case ix => first | exact ixN_ok (by ktf_call "side") (by ktf_call "side") | exact rfl))
  | ((with_reducible show rS _ = rS [] ∧ _); refine ⟨rfl, ?_⟩)
  | ((with_reducible show ∃ s, rS _ = rS s ∧ _); refine ⟨_, rfl, ?_⟩)
  | ((with_reducible refine' Exists.intro _ (Exists.intro _ (Exists.intro _ (And.intro rfl (And.intro ?ch ?_))))); (case ch => ktf_call "has"))
  | ((with_reducible refine' Exists.intro _ (Exists.intro _ (And.intro ?ch (And.intro ?cl ?_)))); (case ch => ktf_call "chg"); (case cl => ktf_call "side"))
  | ((with_reducible refine' Exists.intro _ (Exists.intro _ (Exists.intro _ (And.intro ?ch (And.intro ?cu (And.intro ?cl ?_)))))); (case ch => ktf_call "chg"); (case cu => ktf_call "vu"); (case cl => ktf_call "side"))
  | ((with_reducible show _ ≤ 1000000 ∧ _); first | refine ⟨by ktf_call "side", fun p => ?_⟩ | refine ⟨by ktf_call "side", _, _, by ktf_call "frz", ?_⟩)
  | ktf_call "sp"
  | fail "k")
local macro_rules | `(tactic| ktf_call "d2") => `(tactic| (repeat' (first
  | ((with_reducible show DE _ _ _ _ _ _); ktf_call "e")
  | ((with_reducible show OP _ _ _ _ _ _ _ _); ktf_call "o")
  | ((with_reducible show IX _ _ _ _ _ _ _ _ _); ktf_call "o")
  | ((with_reducible show DT _ _ _ _ _ _); ktf_call "t")
  | ((with_reducible show DW _ _ _ _ _ _); ktf_call "t")
  | ((with_reducible show DA _ _ _ _ _ _); ktf_call "k")
  | ((with_reducible show DS _ _ _ _ _ _); ktf_call "s")
  | ((with_reducible show DSs _ _ _ _ _ _); ktf_call "s")
  | ((with_reducible show UP _ _ _ _ _ _ _); ktf_call "o")
  | ((with_reducible show SlK _ _ _ _ _ _ _ _); ktf_call "o")
  | ktf_call "k" | fail "stuck")))
local macro_rules | `(tactic| ktf_call "sp") => `(tactic| ((with_reducible refine' sp_draw ?hs ?ho ?h0 ?h1 (fun d o' _ _ _ => ?kk)); (case hs => ktf_call "has"); (case ho => ktf_call "side"); (case h0 => ktf_call "side"); (case h1 => ktf_call "side"); (case' kk => dsimp only [List.nil_append, List.cons_append])))
local macro_rules | `(tactic| ktf_call "side") => `(tactic| exact log_small (by omega) (by omega))
theorem inl_nil (l : List Nat) : InL l [] := fun c h => by cases h
theorem inl_app {l s t : List Nat} (h1 : InL l s) (h2 : InL l t) : InL l (s ++ t) := fun c hc => (List.mem_append.mp hc).elim (h1 c) (h2 c)
theorem inl_one {l : List Nat} {i : Nat} (hi : i < l.length) : InL l [l.getD i 0] := fun c hc => by
  rw [List.mem_singleton.mp hc, List.getD_eq_getElem?_getD, List.getElem?_eq_getElem hi]
  exact List.getElem_mem hi
theorem inl_cut {l s : List Nat} (h : InL l s) {lo hi : Option Int} : InL l (cutL s lo hi) := fun c hc => h c (by
  unfold cutL at hc
  exact List.mem_of_mem_drop (List.mem_of_mem_take hc))
theorem inl_abc {l s : List Nat} (hl : l ∈ alphabets) (h : InL l s) : Abc s := fun c hc => (alph_len hl).2.2 c (h c hc)
section
variable {P : Program} {w : World} {K : PySem.W.Frag} {mg : Str → Option Value} {base : Heap} {f : Addr} {fd : FuncData}
abbrev ltrs : List (List Nat) := [lit "ab", lit "a", lit "abc", lit "ab", lit "ab", lit "abc", lit "ab", lit "ab"]
theorem ltrs_in : ∀ x ∈ ltrs, x ∈ alphabets := by decide +kernel
def spPickLetters : Sp2 := fun rs m Kr Ke => ∃ (p : Addr) (o : O), rs = [.own p] ∧ m = [(p, o)] ∧ Pl o ∧ ∀ l o', l ∈ alphabets → Pl o' → Kr (rS l) [(p, o')]
theorem sc__law_pick_letters : FnScope ["pool"] ["pool"] (defScope (top 28)) := ⟨rfl, rfl, rfl, by decide +kernel, rfl, by decide +kernel, by decide +kernel⟩
theorem ok_pickLetters (F : FunD K "_law_pick_letters" "_law_pick_letters" (defArgs (top 28)) (defBody (top 28)) (defScope (top 28)) [] [] f fd) (c__law_draw : CalleeG P w K mg base "_law_draw" 2 spDraw) : FnOk P w K mg base (L2N.CX P w) (3) f fd ["pool"] (spOf K spPickLetters) := by
  refine fn2 F sc__law_pick_letters (by decide +kernel) (fun rs m Kr Ke ⟨_, _, e, _⟩ => by rw [e]; rfl) fun X c rs m Kr Ke D L hx ⟨p, o, er, em, ho, hk⟩ => ?_
  subst er em
  have e__law_draw : Callee X "_law_draw" 2 spDraw := D.callee c__law_draw
  have g__law_draw : Gl X "_law_draw" := D.gl (by decide +kernel)
  refine dss_lo ?_
  show DSs X c [("pool", some (.own p))] [(p, o)] (_ :: _) _
  ktf_call "d2"
  rename_i d o' hd0 hd8 ho'
  have hdl : d.toNat < ltrs.length := by simp only [List.length_cons, List.length_nil]; omega
  refine x_S (xs := ltrs) (.own (.there .here)) ⟨hd0, by simp only [List.length_cons, List.length_nil]; omega⟩ ?_
  refine ⟨_, List.Sublist.cons_cons _ (List.nil_sublist _), hk _ _ (ltrs_in _ ?_) ho'⟩
  rw [List.getD_eq_getElem?_getD, List.getElem?_eq_getElem hdl]
  exact List.getElem_mem hdl
/-- letters that may be picked from -/
def spPickWord : Sp2 := fun rs m Kr Ke => ∃ (p : Addr) (o : O) (l : List Nat) (n : Int), rs = [.own p, rS l, D2.rI n] ∧ m = [(p, o)] ∧ Pl o ∧ (0 < l.length ∧ l.length ≤ 100) ∧ 0 ≤ n ∧ n ≤ 100 ∧ ∀ s o', (s.length : Int) = n → InL l s → Pl o' → Kr (rS s) [(p, o')]
theorem sc__law_pick_word : FnScope ["pool", "letters", "size", "word", "k"] ["pool", "letters", "size"] (defScope (top 29)) := ⟨rfl, rfl, rfl, by decide +kernel, rfl, by decide +kernel, by decide +kernel⟩
theorem ok_pickWord (F : FunD K "_law_pick_word" "_law_pick_word" (defArgs (top 29)) (defBody (top 29)) (defScope (top 29)) [] [] f fd) (m0_range : mg "range" = none) (c__law_draw : CalleeG P w K mg base "_law_draw" 2 spDraw) (m0_len : mg "len" = none) : FnOk P w K mg base (L2N.CX P w) (3) f fd ["pool", "letters", "size"] (spOf K spPickWord) := by
  refine fn2 F sc__law_pick_word (by decide +kernel) (fun rs m Kr Ke ⟨_, _, _, _, e, _⟩ => by rw [e]; rfl) fun X c rs m Kr Ke D L hx ⟨p, o, l, n, er, em, ho, ⟨hl0, hl3⟩, h0, h1, hk⟩ => ?_
  subst er em
  have m_range : X.mg "range" = none := D.mg_ m0_range
  have e__law_draw : Callee X "_law_draw" 2 spDraw := D.callee c__law_draw
  have m_len : X.mg "len" = none := D.mg_ m0_len
  have g_range : Gl X "range" := D.gl (by decide +kernel)
  have g__law_draw : Gl X "_law_draw" := D.gl (by decide +kernel)
  have g_len : Gl X "len" := D.gl (by decide +kernel)
  have o_word : Own X "word" := D.own (by decide +kernel)
  have o_k : Own X "k" := D.own (by decide +kernel)
  refine dss_lo ?_
  show DSs X c [("pool", some (.own p)), ("letters", some (rS l)), ("size", some (D2.rI n)), ("word", none), ("k", none)] [(p, o)] (_ :: _) _
  ktf_call "d2"
  refine ds_for (ds := ups 0 n.toNat) (fun i σ m => ∃ (s : List Nat) (o : O), σ = ([("pool", some (.own p)), ("letters", some (rS l)), ("size", some (D2.rI n)), ("word", some (rS s)), ("k", none)] : Sl) ∧ m = [(p, o)] ∧ s.length = i ∧ InL l s ∧ Pl o) L (it_rng1 (by assumption) (by assumption) ?_) ?_ ?_
  · ktf_call "d2"
    exact ⟨by omega, by omega, rfl, _, _, rfl, rfl, rfl, inl_nil _, ho⟩
  · rintro i d σ' m' hd ⟨s, o, rfl, rfl, hsl, hsa, ho⟩
    obtain ⟨hi, rfl⟩ := ups_at hd
    refine dg_name o_k (by ktf_call "put") ?_
    refine dss_lo ?_
    ktf_call "d2"
    rename_i d o' _ _ _
    exact ⟨_, _, by ktf_call "fog", List.Sublist.refl _, _, _, rfl, rfl, by simp; omega, inl_app hsa (inl_one (by omega)), by assumption⟩
  · rintro σ' m' ⟨s, o, rfl, rfl, hsl, hsa, ho⟩
    rw [ups_len] at hsl
    ktf_call "d2"
    exact ⟨_, List.Sublist.refl _, hk _ _ (by omega) hsa ho⟩
end
section
variable {m rest : Mem} {p : Addr} {o : O} {Kr : Mem → R → Mem → Prop} {Ke : Mem → Addr → List (Str × D2.D) → Mem → Prop}
theorem sp_pickL (hs : Has m p o rest) (ho : Pl o) (k : ∀ l o', l ∈ alphabets → Pl o' → Kr rest (rS l) [(p, o')]) : ∃ mf rest, Split m mf rest ∧ spPickLetters [.own p] mf (Kr rest) (Ke rest) := ⟨[(p, o)], rest, .cons hs .nil, p, o, rfl, rfl, ho, k⟩
theorem sp_pickW {l : List Nat} {n : Int} (hs : Has m p o rest) (ho : Pl o) (hl : 0 < l.length ∧ l.length ≤ 100) (h0 : 0 ≤ n) (h1 : n ≤ 100) (k : ∀ s o', (s.length : Int) = n → InL l s → Pl o' → Kr rest (rS s) [(p, o')]) : ∃ mf rest, Split m mf rest ∧ spPickWord [.own p, rS l, D2.rI n] mf (Kr rest) (Ke rest) := ⟨[(p, o)], rest, .cons hs .nil, p, o, l, n, rfl, rfl, ho, hl, h0, h1, k⟩
end
end NC
/-! ## NR37 -/
set_option Elab.async false
set_option linter.all false
set_option maxRecDepth 100000
set_option maxHeartbeats 2000000
set_option pp.maxSteps 1500
/-! k37: the law's own numbers of rank kinds -/
namespace NC
open PySem PySem.Spec PyProof.Rows L2 D2 RK
local macro_rules | `(tactic| ktf_call "lk") => `(tactic| (with_reducible first | exact Lk.here | exact (Lk.there Lk.here) | exact (Lk.there (Lk.there Lk.here)) | exact (Lk.there (Lk.there (Lk.there Lk.here))) | exact (Lk.there (Lk.there (Lk.there (Lk.there Lk.here)))) | exact (Lk.there (Lk.there (Lk.there (Lk.there (Lk.there Lk.here))))) | exact (Lk.there (Lk.there (Lk.there (Lk.there (Lk.there (Lk.there Lk.here)))))) | exact (Lk.there (Lk.there (Lk.there (Lk.there (Lk.there (Lk.there (Lk.there Lk.here))))))) | exact (Lk.there (Lk.there (Lk.there (Lk.there (Lk.there (Lk.there (Lk.there (Lk.there Lk.here)))))))) | exact (Lk.there (Lk.there (Lk.there (Lk.there (Lk.there (Lk.there (Lk.there (Lk.there (Lk.there Lk.here))))))))) | exact (Lk.there (Lk.there (Lk.there (Lk.there (Lk.there (Lk.there (Lk.there (Lk.there (Lk.there (Lk.there Lk.here)))))))))) | exact (Lk.there (Lk.there (Lk.there (Lk.there (Lk.there (Lk.there (Lk.there (Lk.there (Lk.there (Lk.there (Lk.there Lk.here))))))))))) | exact (Lk.there (Lk.there (Lk.there (Lk.there (Lk.there (Lk.there (Lk.there (Lk.there (Lk.there (Lk.there (Lk.there (Lk.there Lk.here)))))))))))) | exact (Lk.there (Lk.there (Lk.there (Lk.there (Lk.there (Lk.there (Lk.there (Lk.there (Lk.there (Lk.there (Lk.there (Lk.there (Lk.there Lk.here))))))))))))) | fail "none"))
local macro_rules | `(tactic| ktf_call "put") => `(tactic| (with_reducible first | exact PutF.here | exact (PutF.there PutF.here) | exact (PutF.there (PutF.there PutF.here)) | exact (PutF.there (PutF.there (PutF.there PutF.here))) | exact (PutF.there (PutF.there (PutF.there (PutF.there PutF.here)))) | exact (PutF.there (PutF.there (PutF.there (PutF.there (PutF.there PutF.here))))) | exact (PutF.there (PutF.there (PutF.there (PutF.there (PutF.there (PutF.there PutF.here)))))) | exact (PutF.there (PutF.there (PutF.there (PutF.there (PutF.there (PutF.there (PutF.there PutF.here))))))) | exact (PutF.there (PutF.there (PutF.there (PutF.there (PutF.there (PutF.there (PutF.there (PutF.there PutF.here)))))))) | exact (PutF.there (PutF.there (PutF.there (PutF.there (PutF.there (PutF.there (PutF.there (PutF.there (PutF.there PutF.here))))))))) | exact (PutF.there (PutF.there (PutF.there (PutF.there (PutF.there (PutF.there (PutF.there (PutF.there (PutF.there (PutF.there PutF.here)))))))))) | exact (PutF.there (PutF.there (PutF.there (PutF.there (PutF.there (PutF.there (PutF.there (PutF.there (PutF.there (PutF.there (PutF.there PutF.here))))))))))) | exact (PutF.there (PutF.there (PutF.there (PutF.there (PutF.there (PutF.there (PutF.there (PutF.there (PutF.there (PutF.there (PutF.there (PutF.there PutF.here)))))))))))) | exact (PutF.there (PutF.there (PutF.there (PutF.there (PutF.there (PutF.there (PutF.there (PutF.there (PutF.there (PutF.there (PutF.there (PutF.there (PutF.there PutF.here))))))))))))) | fail "none"))
local macro_rules | `(tactic| ktf_call "has") => `(tactic| (with_reducible first | exact Has.here | exact (Has.there Has.here) | exact (Has.there (Has.there Has.here)) | exact (Has.there (Has.there (Has.there Has.here))) | exact (Has.there (Has.there (Has.there (Has.there Has.here)))) | exact (Has.there (Has.there (Has.there (Has.there (Has.there Has.here))))) | exact (Has.there (Has.there (Has.there (Has.there (Has.there (Has.there Has.here)))))) | exact (Has.there (Has.there (Has.there (Has.there (Has.there (Has.there (Has.there Has.here))))))) | fail "none"))
local macro_rules | `(tactic| ktf_call "chg") => `(tactic| (with_reducible first | exact Chg.here | exact (Chg.there Chg.here) | exact (Chg.there (Chg.there Chg.here)) | exact (Chg.there (Chg.there (Chg.there Chg.here))) | exact (Chg.there (Chg.there (Chg.there (Chg.there Chg.here)))) | exact (Chg.there (Chg.there (Chg.there (Chg.there (Chg.there Chg.here))))) | exact (Chg.there (Chg.there (Chg.there (Chg.there (Chg.there (Chg.there Chg.here)))))) | exact (Chg.there (Chg.there (Chg.there (Chg.there (Chg.there (Chg.there (Chg.there Chg.here))))))) | fail "none"))
local macro_rules | `(tactic| ktf_call "vl") => `(tactic| first | ((with_reducible refine' VL.own ?cv); (case cv => ktf_call "has")) | with_reducible exact VL.dat | fail "vl")
local macro_rules | `(tactic| ktf_call "vu") => `(tactic| ((with_reducible refine' VU.own ?cv); (case cv => ktf_call "has")))
local macro_rules | `(tactic| ktf_call "ati") => `(tactic| first | assumption | exact ati_l rfl | fail "ati")
local macro_rules | `(tactic| ktf_call "vi") => `(tactic| first | with_reducible exact vi_dat | ((with_reducible refine' vi_own ?cv); (case cv => ktf_call "has")) | ((with_reducible refine' vi_nil ?cv); (case cv => ktf_call "vl")) | fail "vi")
local macro_rules | `(tactic| ktf_call "vs") => `(tactic| first | with_reducible exact vs_dat | ((with_reducible refine' vs_own ?cv); (case cv => ktf_call "has")) | ((with_reducible refine' vs_nil ?cv); (case cv => ktf_call "vl")) | fail "vs")
local macro_rules | `(tactic| ktf_call "hyp") => `(tactic| simp only [decide_eq_true_eq, decide_eq_false_iff_not, Bool.not_eq_true', Bool.not_eq_false', Bool.not_true, Bool.not_false, Bool.true_eq_false, Bool.false_eq_true, Int.not_lt, Int.not_le] at *)
local macro_rules | `(tactic| ktf_call "side") => `(tactic| first | assumption | decide | omega | (simp only [List.length_cons, List.length_nil, List.length_map]; omega) | exact ⟨Int.emod_nonneg _ (by omega), Int.emod_lt_of_pos _ (by omega)⟩ | (decide +kernel) | (simp; done) | (simp; omega))
local macro_rules | `(tactic| ktf_call "cmul") => `(tactic| first | assumption | exact cm_l (by omega) (by omega) | exact cm_r (by omega) (by omega) | fail "cmul")
local macro_rules | `(tactic| ktf_call "cdiv") => `(tactic| first | assumption | exact ⟨by assumption, by assumption⟩ | exact cd_s (by omega) (by omega) | fail "cdiv")
local macro_rules | `(tactic| ktf_call "frz") => `(tactic| (repeat (first | exact Frz.dat | exact Frzs.nil | apply Frzs.cons | apply Frz.lst | exact Frzs.map _ _)))
local macro_rules | `(tactic| ktf_call "ln") => `(tactic| first | ((with_reducible refine' ln_I ?cv); (case cv => ktf_call "vi")) | ((with_reducible refine' ln_S ?cv); (case cv => ktf_call "vs")) | ((with_reducible refine' Ln.lst ?cv); (case cv => ktf_call "vl")) | ((with_reducible refine' Ln.str ?cv); (case cv => ktf_call "side")) | with_reducible exact Ln.tup | fail "ln")
local macro_rules | `(tactic| ktf_call "tym") => `(tactic| first | with_reducible exact TyM.str | with_reducible exact TyM.lst (by ktf_call "vl") | with_reducible exact TyM.int | with_reducible exact TyM.dk (by ktf_call "has"))
local macro_rules | `(tactic| ktf_call "gl") => `(tactic| first | assumption | exact Def.gl (by assumption) (by decide +kernel) | exact IsBlk.gl (by assumption) (by decide +kernel) | exact IsBlkH.gl (by assumption) (by decide +kernel) | fail "gl")
local macro_rules | `(tactic| ktf_call "mg") => `(tactic| first | assumption | exact Def.mg_ (by assumption) (by assumption) | exact IsBlk.mg (by assumption) (by ktf_call "mg") | exact IsBlkH.mg (by assumption) (by ktf_call "mg") | fail "mg")
local macro_rules | `(tactic| ktf_call "own") => `(tactic| first | assumption | exact Def.own (by assumption) (by decide +kernel) | fail "own")
local macro_rules | `(tactic| ktf_call "cal") => `(tactic| first | assumption | exact Def.callee (by assumption) (by assumption) | exact IsBlk.callee (by assumption) (by ktf_call "cal") | fail "cal")
local macro_rules | `(tactic| ktf_call "fog") => `(tactic| (repeat (first | with_reducible exact Fog.nil | with_reducible apply Fog.keep | with_reducible apply Fog.drop)))
local macro_rules | `(tactic| ktf_call "blk") => `(tactic| first | with_reducible exact Blk.nil | exact Blk.keep (by decide +kernel) (by ktf_call "blk") | exact Blk.drop (by ktf_call "blk"))
local macro_rules | `(tactic| ktf_call "sub") => `(tactic| (repeat (with_reducible first | exact List.Sublist.slnil | exact List.nil_sublist _ | exact sub_nil _ | apply List.Sublist.cons_cons | apply List.Sublist.cons)))
local macro_rules | `(tactic| ktf_call "ce") => `(tactic| fail "ce")
-- expressions
local macro_rules | `(tactic| ktf_call "e") => `(tactic| first
  | ((with_reducible show DE _ _ _ _ (.Name _ _) _); refine de_name (by ktf_call "lk") ?_)
  | ((with_reducible show DE _ _ _ _ (.Constant _ _ _) _); first | refine de_int ?_ | refine de_str ?_ | refine de_bl ?_ | refine de_non ?_)
  | ((with_reducible show DE _ _ _ _ (.BinOp _ _ _ _) _); refine de_bin ?_)
  | ((with_reducible show DE _ _ _ _ (.Subscript _ (.Slice _ _ none _) _) _); refine d_slice ?_)
  | ((with_reducible show DE _ _ _ _ (.Subscript _ _ _) _); refine de_ix ?_)
  | ((with_reducible show DE _ _ _ _ (.Call (.Name _ _) _ _ _) _); first
      | ((with_reducible show DE _ _ _ _ (.Call (.Name "len" _) _ _ _) _); refine d_len (by ktf_call "gl") (by ktf_call "mg") ?_)
      | ((with_reducible show DE _ _ _ _ (.Call (.Name "int" _) _ _ _) _); refine d_int (by ktf_call "gl") (by ktf_call "mg") ?_)
      | ((with_reducible show DE _ _ _ _ (.Call (.Name "abs" _) _ _ _) _); refine d_abs (by ktf_call "gl") (by ktf_call "mg") ?_)
      | ktf_call "ce"
      | refine de_call (by ktf_call "cal") (by assumption) (by ktf_call "gl") ?_ (hjk := by omega))
  | ((with_reducible show DE _ _ _ _ (.Call (.Attribute _ "join" _) _ _ _) _); refine d_join ?_)
  | ((with_reducible show DE _ _ _ _ (.Call (.Attribute _ "append" _) _ _ _) _); refine d_appendL ?_)
  | ((with_reducible show DE _ _ _ _ (.Call (.Attribute _ "extend" _) _ _ _) _); refine d_extendL ?_)
  | ((with_reducible show DE _ _ _ _ (.Call (.Attribute _ "find" _) [_, _] _ _) _); refine d_find3 ?_)
  | ((with_reducible show DE _ _ _ _ (.Compare _ [_] [_] _) _); refine de_cmp ?_)
  | ((with_reducible show DE _ _ _ _ (.BoolOp _ [_] _) _); refine de_bo1 ?_)
  | ((with_reducible show DE _ _ _ _ (.BoolOp .And _ _) _); refine de_and ?_)
  | ((with_reducible show DE _ _ _ _ (.BoolOp .Or _ _) _); refine de_or ?_)
  | ((with_reducible show DE _ _ _ _ (.UnaryOp .Not _ _) _); refine de_not ?_)
  | ((with_reducible show DE _ _ _ _ (.UnaryOp _ _ _) _); refine de_un ?_)
  | ((with_reducible show DE _ _ _ _ (.List _ _) _); refine de_lst ?_)
  | ((with_reducible show DE _ _ _ _ (.Tuple _ _ _) _); refine de_tup ?_)
  | ((with_reducible show DE _ _ _ _ (.IfExp _ _ _ _) _); refine de_if ?_))
local macro_rules | `(tactic| ktf_call "o") => `(tactic| first
  | ((with_reducible show OP _ _ _ _ (binaryOp _) _ _ _); first
    | ((with_reducible refine' o_add  ?kk))
    | ((with_reducible refine' o_addS ?ca ?kk); (case ca => ktf_call "side"))
    | ((with_reducible refine' o_cat ?ca ?cb ?cd (fun p => ?kk)); (case ca => ktf_call "vu"); (case cb => ktf_call "vu"); (case cd => ktf_call "side"))
    | ((with_reducible refine' o_sub  ?kk))
    | ((with_reducible refine' o_mulS ?ca ?kk); (case ca => ktf_call "cmul"))
    | ((with_reducible refine' o_mul ?ca ?kk); (case ca => assumption))
    | ((with_reducible refine' o_div ?ca ?kk); (case ca => ktf_call "cdiv"))
    | ((with_reducible refine' o_mod ?ca ?kk); (case ca => (first | assumption | omega | decide)))
    | ((with_reducible refine' o_pow ?ca ?kk); (case ca => decide))
    | fail "o")
  | ((with_reducible show OP _ _ _ _ (compareOp _) _ _ _); first
    | ((with_reducible refine' o_lt  ?kk))
    | ((with_reducible refine' o_le  ?kk))
    | ((with_reducible refine' o_gt  ?kk))
    | ((with_reducible refine' o_ge  ?kk))
    | ((with_reducible refine' o_eqI  ?kk))
    | ((with_reducible refine' o_eqS  ?kk))
    | ((with_reducible refine' o_eqB  ?kk))
    | ((with_reducible refine' o_eqLI ?ca ?cb ?cd ?kk); (case ca => assumption); (case cb => ktf_call "vi"); (case cd => ktf_call "vi"))
    | ((with_reducible refine' o_eqLS ?ca ?cb ?cd ?kk); (case ca => assumption); (case cb => ktf_call "vs"); (case cd => ktf_call "vs"))
    | ((with_reducible refine' o_neI  ?kk))
    | ((with_reducible refine' o_neS  ?kk))
    | ((with_reducible refine' o_neLI ?ca ?cb ?cd ?kk); (case ca => assumption); (case cb => ktf_call "vi"); (case cd => ktf_call "vi"))
    | ((with_reducible refine' o_neLS ?ca ?cb ?cd ?kk); (case ca => assumption); (case cb => ktf_call "vs"); (case cd => ktf_call "vs"))
    | ((with_reducible refine' o_isB  ?kk))
    | fail "o")
  | ((with_reducible refine' u_neg  ?kk))
  | ((with_reducible refine' x_I ?ca ?cb ?kk); (case ca => ktf_call "vi"); (case cb => ktf_call "side"))
  | ((with_reducible refine' x_S ?ca ?cb ?kk); (case ca => ktf_call "vs"); (case cb => ktf_call "side"))
  | ((with_reducible refine' x_B ?ca ?cb ?kk); (case ca => ((with_reducible refine' vb_own ?cv); (case cv => ktf_call "has"))); (case cb => ktf_call "side"))
  | ((with_reducible refine' x_ch ?ca ?cb ?kk); (case ca => ktf_call "side"); (case cb => ktf_call "side"))
  | ((with_reducible refine' x_lst ?ca ?cb ?kk); (case ca => ktf_call "vl"); (case cb => ktf_call "ati"))
  | ((with_reducible refine' x_tup ?ca ?kk); (case ca => ktf_call "ati"))
  | ((with_reducible refine' x_str ?ca ?cb ?kk); (case ca => ktf_call "side"); (case cb => ktf_call "ati"))
  | ((with_reducible refine' s_lst ?ca (fun p => ?kk)); (case ca => ktf_call "vl"))
  | ((with_reducible refine' s_str ?ca ?kk); (case ca => ktf_call "side"))
  | fail "o")
local macro_rules | `(tactic| ktf_call "t") => `(tactic| first
  | ((with_reducible show DT _ _ _ _ (.Compare _ [_] [_] _) _); refine dt_cmp ?_)
  | ((with_reducible show DT _ _ _ _ (.BoolOp _ _ _) _); refine dt_bool ?_)
  | ((with_reducible show DT _ _ _ _ (.UnaryOp .Not _ _) _); refine dt_not ?_)
  | ((with_reducible show DT _ _ _ _ _ _); refine dt_val ?_)
  | ((with_reducible show DW _ _ _ _ (.BoolOp .And [_] _) _); refine dw_and1 ?_)
  | ((with_reducible show DW _ _ _ _ (.BoolOp .Or [_] _) _); refine dw_or1 ?_)
  | ((with_reducible show DW _ _ _ _ (.BoolOp .And _ _) _); refine dw_and ?_)
  | ((with_reducible show DW _ _ _ _ (.BoolOp .Or _ _) _); refine dw_or ?_))
local macro_rules | `(tactic| ktf_call "s") => `(tactic| first
  | ((with_reducible show DSs _ _ _ _ (List.drop _ _) _); first | refine dss_at rfl ?_ | refine dss_end rfl ?_)
  | ((with_reducible show DSs _ _ _ _ (_ :: _) _); refine dss_cons ?_)
  | ((with_reducible show DSs _ _ _ _ [] _); refine dss_nil ?_)
  | ((with_reducible show DS _ _ _ _ (.If _ _ _ _) _); refine ds_if ?_)
  | ((with_reducible show DS _ _ _ _ (.Return (some _) _) _); refine ds_ret ?_)
  | ((with_reducible show DS _ _ _ _ (.Assign [.Name _ _] _ _) _); refine ds_asg (by ktf_call "own") (by ktf_call "put") ?_)
  | ((with_reducible show DS _ _ _ _ (.Assign [.Subscript _ _ _] _ _) _); refine ds_setL ?_)
  | ((with_reducible show DS _ _ _ _ (.Expr _ _) _); refine ds_expr ?_)
  | ((with_reducible show DS _ _ _ _ (.AugAssign (.Name _ _) .Add _ _) _); refine ds_augI ip_add (by ktf_call "own") (by ktf_call "lk") (by ktf_call "put") ?_)
  | ((with_reducible show DS _ _ _ _ (.AugAssign (.Name _ _) .Sub _ _) _); refine ds_augI ip_sub (by ktf_call "own") (by ktf_call "lk") (by ktf_call "put") ?_)
  | fail "s")
local macro_rules | `(tactic| ktf_call "k") => `(tactic| first
  | ((with_reducible show DA _ _ _ _ [] _); refine da_nil ?_)
  | ((with_reducible show DA _ _ _ _ (_ :: _) _); refine da_cons ?_)
  | ((with_reducible show DO _ _ _ _ none _); refine do_none ?_)
  | ((with_reducible show DO _ _ _ _ (some _) _); refine do_some ?_)
  | ((with_reducible show KB _ _ _); refine kb ?_)
  | ((with_reducible show (_ = true → _) ∧ (_ = false → _)); refine ⟨fun hyp => ?_, fun hyp => ?_⟩ <;> (try simp only [decide_eq_true_eq, decide_eq_false_iff_not, Bool.not_eq_true', Bool.not_eq_false', Bool.not_true, Bool.not_false, Bool.true_eq_false, Bool.false_eq_true, Int.not_lt, Int.not_le, nil_len, Nat.pos_iff_ne_zero.symm] at hyp))
  | ((with_reducible show (_ = false → _) ∧ (_ = true → _)); refine ⟨fun hyp => ?_, fun hyp => ?_⟩ <;> (try simp only [decide_eq_true_eq, decide_eq_false_iff_not, Bool.not_eq_true', Bool.not_eq_false', Bool.not_true, Bool.not_false, Bool.true_eq_false, Bool.false_eq_true, Int.not_lt, Int.not_le, nil_len, Nat.pos_iff_ne_zero.symm] at hyp))
  | ((with_reducible show ∃ d, rB _ = rB d ∧ _); refine ⟨_, rfl, ?_⟩)
  | ((with_reducible show ∃ d, D2.rI _ = D2.rI d ∧ _); refine ⟨_, rfl, ?_⟩)
  | ((with_reducible show ∃ n, Ln _ _ n ∧ _); refine ⟨_, by ktf_call "ln", ?_⟩)
  | ((with_reducible refine' Exists.intro _ (Exists.intro _ (Exists.intro _ (Exists.intro _ (Exists.intro _ (And.intro rfl (And.intro rfl (And.intro ?ch (And.intro ?ix ?_))))))))); (case ch => ktf_call "chg"); (case ix => first | exact ixN_ok (by ktf_call "side") (by ktf_call "side") | exact rfl))
  | ((with_reducible show rS _ = rS [] ∧ _); refine ⟨rfl, ?_⟩)
  | ((with_reducible show ∃ s, rS _ = rS s ∧ _); refine ⟨_, rfl, ?_⟩)
  | ((with_reducible refine' Exists.intro _ (Exists.intro _ (Exists.intro _ (And.intro rfl (And.intro ?ch ?_))))); (case ch => ktf_call "has"))
  | ((with_reducible refine' Exists.intro _ (Exists.intro _ (And.intro ?ch (And.intro ?cl ?_)))); (case ch => ktf_call "chg"); (case cl => ktf_call "side"))
  | ((with_reducible refine' Exists.intro _ (Exists.intro _ (Exists.intro _ (And.intro ?ch (And.intro ?cu (And.intro ?cl ?_)))))); (case ch => ktf_call "chg"); (case cu => ktf_call "vu"); (case cl => ktf_call "side"))
  | ((with_reducible show _ ≤ 1000000 ∧ _); first | refine ⟨by ktf_call "side", fun p => ?_⟩ | refine ⟨by ktf_call "side", _, _, by ktf_call "frz", ?_⟩)
  | ktf_call "sp"
  | fail "k")
local macro_rules | `(tactic| ktf_call "d2") => `(tactic| (repeat' (first
  | ((with_reducible show DE _ _ _ _ _ _); ktf_call "e")
  | ((with_reducible show OP _ _ _ _ _ _ _ _); ktf_call "o")
  | ((with_reducible show IX _ _ _ _ _ _ _ _ _); ktf_call "o")
  | ((with_reducible show DT _ _ _ _ _ _); ktf_call "t")
  | ((with_reducible show DW _ _ _ _ _ _); ktf_call "t")
  | ((with_reducible show DA _ _ _ _ _ _); ktf_call "k")
  | ((with_reducible show DS _ _ _ _ _ _); ktf_call "s")
  | ((with_reducible show DSs _ _ _ _ _ _); ktf_call "s")
  | ((with_reducible show UP _ _ _ _ _ _ _); ktf_call "o")
  | ((with_reducible show SlK _ _ _ _ _ _ _ _); ktf_call "o")
  | ktf_call "k" | fail "stuck")))
local macro_rules | `(tactic| ktf_call "kitb") => `(tactic| with_reducible first | exact kitb_NoneType_int | exact kitb_NoneType_bool | exact kitb_NoneType_str | exact kitb_NoneType_list | exact kitb_NoneType_tuple | exact kitb_NoneType_dict | exact kitb_bool_int | exact kitb_bool_bool | exact kitb_bool_str | exact kitb_bool_list | exact kitb_bool_tuple | exact kitb_bool_dict | exact kitb_int_int | exact kitb_int_bool | exact kitb_int_str | exact kitb_int_list | exact kitb_int_tuple | exact kitb_int_dict | exact kitb_str_int | exact kitb_str_bool | exact kitb_str_str | exact kitb_str_list | exact kitb_str_tuple | exact kitb_str_dict | exact kitb_list_int | exact kitb_list_bool | exact kitb_list_str | exact kitb_list_list | exact kitb_list_tuple | exact kitb_list_dict | exact kitb_tuple_int | exact kitb_tuple_bool | exact kitb_tuple_str | exact kitb_tuple_list | exact kitb_tuple_tuple | exact kitb_tuple_dict | exact kitb_dict_int | exact kitb_dict_bool | exact kitb_dict_str | exact kitb_dict_list | exact kitb_dict_tuple | exact kitb_dict_dict)
local macro_rules | `(tactic| ktf_call "tyr") => `(tactic| with_reducible first | exact TyR.int | exact TyR.bl | exact TyR.str | exact TyR.non | exact TyR.tup | ((refine' TyR.lst ?clv); (case clv => ktf_call "vl")))
local macro_rules | `(tactic| ktf_call "vo") => `(tactic| with_reducible first | exact VO.dat | ((refine' VO.own ?cv); (case cv => ktf_call "has")))
local macro_rules | `(tactic| ktf_call "e") => `(tactic| first
  | ((with_reducible show DE _ _ _ _ (.Call (.Name "isinstance" _) _ _ _) _); refine d_isi (by ktf_call "gl") (by ktf_call "mg") ?_)
  | ((with_reducible show DE _ _ _ _ (.Name "int" _) _); refine de_ty (T := "int") (by ktf_call "gl") (by ktf_call "mg") (by decide +kernel) ?_)
  | ((with_reducible show DE _ _ _ _ (.Name "bool" _) _); refine de_ty (T := "bool") (by ktf_call "gl") (by ktf_call "mg") (by decide +kernel) ?_)
  | ((with_reducible show DE _ _ _ _ (.Name "str" _) _); refine de_ty (T := "str") (by ktf_call "gl") (by ktf_call "mg") (by decide +kernel) ?_)
  | ((with_reducible show DE _ _ _ _ (.Name "list" _) _); refine de_ty (T := "list") (by ktf_call "gl") (by ktf_call "mg") (by decide +kernel) ?_)
  | ((with_reducible show DE _ _ _ _ (.Name "tuple" _) _); refine de_ty (T := "tuple") (by ktf_call "gl") (by ktf_call "mg") (by decide +kernel) ?_)
  | ((with_reducible show DE _ _ _ _ (.Name _ _) _); first | refine de_tupG (by assumption) (by assumption) ?_ | refine de_strG (by assumption) (by assumption) ?_ | refine de_intG (by assumption) (by assumption) ?_)
  | ((with_reducible show DE _ _ _ _ (.Attribute _ _ _) _); refine de_fld (by assumption) (by assumption) ?_)
  | ((with_reducible show DE _ _ _ _ (.Call (.Attribute _ "strip" _) _ _ _) _); refine d_stripC ?_)
  | ((with_reducible show DE _ _ _ _ (.Call (.Attribute _ _ _) (_ :: _) _ _) _); refine de_meth (by assumption) (by assumption) ?_ (hjk := by omega))
  | ((with_reducible show DE _ _ _ _ (.Call (.Attribute _ _ _) [] _ _) _); refine de_meth0 (by assumption) (by assumption) ?_ (hjk := by omega))
  | ((with_reducible show DE _ _ _ _ (.Call (.Name "min" _) [_, _] _ _) _); refine d_min2 (by assumption) (by ktf_call "gl") (by ktf_call "mg") ?_)
  | ((with_reducible show DE _ _ _ _ (.Call (.Name "max" _) [_, _] _ _) _); refine d_max2 (by assumption) (by ktf_call "gl") (by ktf_call "mg") ?_)
  | ((with_reducible show DE _ _ _ _ (.Call (.Name _ _) (_ :: _) (_ :: _) _) _); refine de_callK (by assumption) (by assumption) (by ktf_call "gl") ?_ (hjk := by omega))
  | ((with_reducible show DE _ _ _ _ (.Call (.Name _ _) (_ :: _) [] _) _); refine de_make (by assumption) (by assumption) (by ktf_call "gl") ?_ (hjk := by omega))
  | ((with_reducible show DE _ _ _ _ (.Call (.Name _ _) [] [] _) _); refine de_make0 (by assumption) (by assumption) (by ktf_call "gl") ?_ (hjk := by omega))
  | ((with_reducible show DE _ _ _ _ (.Dict [] [] _) _); refine d_new0 fun p => ?_))
local macro_rules | `(tactic| ktf_call "k") => `(tactic| first
  | ((with_reducible refine' Exists.intro _ (Exists.intro _ (Exists.intro _ (Exists.intro _ (And.intro rfl (And.intro ?ty (And.intro ?kb ?_))))))); (case ty => ktf_call "tyr"); (case kb => ktf_call "kitb"))
  | ((with_reducible show ∃ fs r, VO _ _ _ fs ∧ _); refine ⟨_, _, by ktf_call "vo", rfl, ?_⟩)
  | ((with_reducible show (∃ fs, VO _ _ _ fs ∧ _) ∧ _); refine ⟨⟨_, by ktf_call "vo", rfl⟩, ?_⟩)
  | ((with_reducible show DKw _ _ _ _ [] _); refine dk_nil ?_)
  | ((with_reducible show DKw _ _ _ _ (_ :: _) _); refine dk_cons ?_)
  | ((with_reducible show _ ≤ 1000000 ∧ DE _ _ _ _ _ _); refine ⟨by ktf_call "side", ?_⟩))
local macro_rules | `(tactic| ktf_call "s") => `(tactic| first
  | ((with_reducible show DS _ _ _ _ (.Raise _ _ _) _); refine ds_raise (by assumption) (by assumption) (by ktf_call "gl") ?_)
  | ((with_reducible show DS _ _ _ _ (.Assign [.Attribute _ _ _] _ _) _); refine ds_fld (by assumption) (by assumption) ?_)
  | ((with_reducible show DS _ _ _ _ (.Break _) _); refine ds_brk ?_)
  | ((with_reducible show DS _ _ _ _ (.Continue _) _); refine ds_cont ?_)
  | ((with_reducible show DS _ _ _ _ (.Pass _) _); refine ds_pass ?_))
local macro_rules | `(tactic| ktf_call "o") => `(tactic| ((with_reducible refine' o_ninS ?ca ?kk); (case ca => assumption)))
local macro_rules | `(tactic| ktf_call "t") => `(tactic| ((with_reducible show DT _ _ _ _ (.Compare _ [_, _] [_, _] _) _); first | refine dt_chainI L2.op_le L2.op_le ?_ | refine dt_chainI L2.op_lt L2.op_le ?_ | refine dt_chainI L2.op_le L2.op_lt ?_ | refine dt_chainI L2.op_lt L2.op_lt ?_))
local macro_rules | `(tactic| ktf_call "s") => `(tactic| ((with_reducible show DS _ _ _ _ (.Assign [.Subscript _ _ _] _ _) _); refine ds_setD (by assumption) ?_))
local macro_rules | `(tactic| ktf_call "s") => `(tactic| ((with_reducible show DS _ _ _ _ (.Assign [.Subscript (.Name "marks" _) _ _] _ _) _); refine ds_setN (by assumption) ?_))
local macro_rules | `(tactic| ktf_call "e") => `(tactic| first
  | ((with_reducible show DE _ _ _ _ (.Call (.Name "len" _) [.Name "marks" _] _ _) _); refine d_lenN (by ktf_call "gl") (by ktf_call "mg") ?_)
  | ((with_reducible show DE _ _ _ _ (.Call (.Name "len" _) [.Name "book" _] _ _) _); refine d_lenK (by ktf_call "gl") (by ktf_call "mg") ?_))
def segLo (w : List Nat) (lo : Nat) : List (List Nat) := (List.range (w.length + 1 - lo)).map fun k => (w.drop lo).take k
def segs (w : List Nat) : List (List Nat) := (List.range (w.length + 1)).flatMap (segLo w)
def stW (words : List (List Nat)) : List (List Nat) := bookOf (words.flatMap segs)
theorem putW_book (l : List (List Nat)) (x : List Nat) : putW (bookOf l) x = bookOf (l ++ [x]) := by
  rw [book_snoc]; unfold putW; by_cases h : x ∈ bookOf l <;> simp [h]
theorem cut_mid {s : List Nat} {i j : Nat} (h : i ≤ j) (h2 : j ≤ s.length) : cutL s (some (i : Int)) (some (j : Int)) = (s.drop i).take (j - i) := by
  unfold cutL
  rw [HT.sIx_nat, HT.sIx_nat, Nat.min_eq_left h2, Nat.min_eq_left (Nat.le_trans h h2)]
theorem segs_of {w v : List Nat} : v ∈ segs w ↔ v <:+: w := by
  unfold segs segLo
  rw [List.mem_flatMap]
  constructor
  · rintro ⟨i, _, h⟩
    obtain ⟨j, _, rfl⟩ := List.mem_map.mp h
    exact (List.take_prefix _ _).isInfix.trans (List.drop_suffix _ _).isInfix
  · rintro ⟨a, b, e⟩
    have hl := congrArg List.length e
    simp only [List.length_append] at hl
    refine ⟨a.length, List.mem_range.mpr (by omega), List.mem_map.mpr ⟨v.length, List.mem_range.mpr (by omega), ?_⟩⟩
    rw [← e, List.append_assoc, List.drop_left, List.take_left]
theorem stW_mem {words : List (List Nat)} {x : List Nat} : x ∈ stW words ↔ ∃ w ∈ words, x <:+: w := by
  unfold stW
  rw [(book_mem _).1, List.mem_flatMap]
  exact ⟨fun ⟨w, h, q⟩ => ⟨w, h, segs_of.mp q⟩, fun ⟨w, h, q⟩ => ⟨w, h, segs_of.mpr q⟩⟩
theorem stW_closed (words : List (List Nat)) : Closed (stW words) := fun w hw p => by
  obtain ⟨v, h, q⟩ := stW_mem.mp hw
  exact ⟨stW_mem.mpr ⟨v, h, (List.take_prefix _ _).isInfix.trans q⟩, stW_mem.mpr ⟨v, h, (List.drop_suffix _ _).isInfix.trans q⟩⟩
theorem range_flat {β : Type} (g : Nat → List β) (n : Nat) {b : Nat} (h : ∀ i, i < n → (g i).length ≤ b) : ((List.range n).flatMap g).length ≤ n * b := by
  induction n with
  | zero => simp
  | succ n ih =>
    rw [List.range_succ, List.flatMap_append, List.length_append, Nat.succ_mul]
    have := ih fun i hi => h i (by omega)
    have := h n (by omega)
    simp only [List.flatMap_cons, List.flatMap_nil, List.append_nil]
    omega
theorem flat_le {α β : Type} (g : α → List β) {b : Nat} : ∀ l : List α, (∀ x ∈ l, (g x).length ≤ b) → (l.flatMap g).length ≤ l.length * b
  | [], _ => by simp
  | x :: l, h => by
    rw [List.flatMap_cons, List.length_append, List.length_cons, Nat.succ_mul]
    have := flat_le g l fun y hy => h y (List.mem_cons_of_mem _ hy)
    have := h x List.mem_cons_self
    omega
theorem segs_len (w : List Nat) : (segs w).length ≤ (w.length + 1) * (w.length + 1) := range_flat _ _ fun i hi => by unfold segLo; rw [List.length_map, List.length_range]; omega
section
variable {P : Program} {w : World} {K : PySem.W.Frag} {mg : Str → Option Value} {base : Heap} {f : Addr} {fd : FuncData}
def spStretches : Sp2 := fun rs m Kr Ke => ∃ (a : Addr) (ws : List (List Nat)), rs = [.own a] ∧ m = [(a, .lst (ws.map rS))] ∧ ws.length ≤ 10 ∧ (∀ w ∈ ws, w.length ≤ 40) ∧ ∀ q, Kr (.own q) [(q, .dk (kvR (stW ws) fun _ => .int 0))]
theorem sc__law_stretches : FnScope ["words", "numbers", "word", "low", "high"] ["words"] (defScope (top 31)) := ⟨rfl, rfl, rfl, by decide +kernel, rfl, by decide +kernel, by decide +kernel⟩
theorem ok_stretches (F : FunD K "_law_stretches" "_law_stretches" (defArgs (top 31)) (defBody (top 31)) (defScope (top 31)) [] [] f fd) (m0_range : mg "range" = none) (m0_len : mg "len" = none) : FnOk P w K mg base (L2N.CX P w) (1) f fd ["words"] (spOf K spStretches) := by
  refine fn2 F sc__law_stretches (by decide +kernel) (fun rs m Kr Ke ⟨_, _, e, _⟩ => by rw [e]; rfl) fun X c rs m Kr Ke D L hx ⟨a, ws, er, em, hn, hw, hk⟩ => ?_
  subst er em
  have m_range : X.mg "range" = none := D.mg_ m0_range
  have m_len : X.mg "len" = none := D.mg_ m0_len
  have g_range : Gl X "range" := D.gl (by decide +kernel)
  have g_len : Gl X "len" := D.gl (by decide +kernel)
  have o_numbers : Own X "numbers" := D.own (by decide +kernel)
  have o_word : Own X "word" := D.own (by decide +kernel)
  have o_low : Own X "low" := D.own (by decide +kernel)
  have o_high : Own X "high" := D.own (by decide +kernel)
  refine dss_lo ?_
  show DSs X c [("words", some (.own a)), ("numbers", none), ("word", none), ("low", none), ("high", none)] [(a, .lst (ws.map rS))] (_ :: _) _
  ktf_call "d2"
  rename_i p
  refine ds_for (ds := dS ws) (fun i σ m => σ = ([("words", some (.own a)), ("numbers", some (.own p)), ("word", none), ("low", none), ("high", none)] : Sl) ∧ m = [(p, .dk (kvR (bookOf ((ws.take i).flatMap segs)) fun _ => .int 0))]) L (it_list ?_) ?_ ?_
  · ktf_call "d2"
    exact ⟨dS ws, [(p, .dk [])], .lst (.there .here) (frzs_f _ D2.D.str ws), rfl, rfl, rfl⟩
  · rintro i d σ' m' hd ⟨rfl, rfl⟩
    obtain ⟨hi, rfl⟩ := dS_at hd
    have hwl := hw _ (List.getElem_mem hi)
    have hb0 : ((ws.take i).flatMap segs).length ≤ 10 * (41 * 41) := by
      refine Nat.le_trans (flat_le segs _ fun x hx => Nat.le_trans (segs_len x) (Nat.mul_le_mul (Nat.succ_le_succ (hw x (List.mem_of_mem_take hx))) (Nat.succ_le_succ (hw x (List.mem_of_mem_take hx))))) (Nat.mul_le_mul_right _ ?_)
      rw [List.length_take]; omega
    have hst : (ws.take (i + 1)).flatMap segs = (ws.take i).flatMap segs ++ segs ws[i] := by rw [take_snoc hi, List.flatMap_append]; simp
    generalize (ws.take i).flatMap segs = B at hb0 hst
    generalize ws[i] = u at hwl hst
    refine dg_name o_word (by ktf_call "put") ?_
    refine dss_lo ?_
    ktf_call "d2"
    refine ds_for (ds := ups 0 (u.length + 1)) (fun j σ m => σ = ([("words", some (.own a)), ("numbers", some (.own p)), ("word", some (rS u)), ("low", none), ("high", none)] : Sl) ∧ m = [(p, .dk (kvR (bookOf (B ++ (List.range j).flatMap (segLo u))) fun _ => .int 0))]) L (it_rng1 (by assumption) (by assumption) ?_) ?_ ?_
    · ktf_call "d2"
      refine ⟨by omega, by omega, rfl, rfl, ?_⟩
      simp
    · rintro j d σ' m' hd ⟨rfl, rfl⟩
      obtain ⟨hj, rfl⟩ := ups_at hd
      have hb1 : ((List.range j).flatMap (segLo u)).length ≤ 41 * 41 := Nat.le_trans (range_flat (b := 41) _ _ fun i _ => by unfold segLo; rw [List.length_map, List.length_range]; omega) (Nat.mul_le_mul_right _ (by omega))
      have hst1 : (List.range (j + 1)).flatMap (segLo u) = (List.range j).flatMap (segLo u) ++ segLo u j := by rw [List.range_succ, List.flatMap_append]; simp
      generalize (List.range j).flatMap (segLo u) = B1 at hb1 hst1
      rw [show (0 : Int) + (j : Int) = (j : Int) by omega]
      refine dg_name o_low (by ktf_call "put") ?_
      refine dss_lo ?_
      ktf_call "d2"
      refine ds_for (ds := ups j (u.length + 1 - j)) (fun k σ m => σ = ([("words", some (.own a)), ("numbers", some (.own p)), ("word", some (rS u)), ("low", some (D2.rI (j : Int))), ("high", none)] : Sl) ∧ m = [(p, .dk (kvR (bookOf (B ++ B1 ++ (List.range k).map fun k => (u.drop j).take k)) fun _ => .int 0))]) L (it_rng2 (by assumption) (by assumption) ?_) ?_ ?_
      · ktf_call "d2"
        refine ⟨⟨by omega, by omega, by omega, by omega⟩, by rw [show ((u.length : Int) + 1 - (j : Int)).toNat = u.length + 1 - j by omega], rfl, by simp⟩
      · rintro k d σ' m' hd ⟨rfl, rfl⟩
        obtain ⟨hk', rfl⟩ := ups_at hd
        refine dg_name o_high (by ktf_call "put") ?_
        refine dss_lo ?_
        have hbl := (book_mem (B ++ B1 ++ (List.range k).map fun k => (u.drop j).take k)).2.2
        rw [List.length_append, List.length_append, List.length_map, List.length_range] at hbl
        ktf_call "d2"
        rw [show (j : Int) + (k : Int) = ((j + k : Nat) : Int) by omega, cut_mid (by omega) (by omega), Nat.add_sub_cancel_left]
        refine ⟨_, _, _, _, rfl, .str, .here, by rw [kvR_len]; omega, ?_⟩
        rw [put_old (F := fun _ => .int 0), putW_book]
        refine dss_nil ?_
        refine ⟨_, _, by ktf_call "fog", List.Sublist.refl _, rfl, ?_⟩
        rw [List.range_succ, List.map_append, List.append_assoc (B ++ B1)]; rfl
      · rintro σ' m' ⟨rfl, rfl⟩
        rw [ups_len]
        refine dss_nil ?_
        refine ⟨_, _, by ktf_call "fog", List.Sublist.refl _, rfl, ?_⟩
        rw [hst1, ← List.append_assoc]; rfl
    · rintro σ' m' ⟨rfl, rfl⟩
      rw [ups_len]
      refine dss_nil ?_
      refine ⟨_, _, by ktf_call "fog", List.Sublist.refl _, rfl, ?_⟩
      rw [hst]; rfl
  · rintro σ' m' ⟨rfl, rfl⟩
    rw [dS_len, List.take_length]
    ktf_call "d2"
    exact ⟨_, List.Sublist.refl _, hk _⟩
/-- the law's triples of a word -/
def tlK (f : List Nat → Nat) (w : List Nat) : List NestedKey := (List.range w.length).map (triK f w)
def marksT (f : List Nat → Nat) (ws : List (List Nat)) : List NestedKey := bookOf (ws.flatMap (tlK f))
theorem tlK_len (f : List Nat → Nat) (w : List Nat) : (tlK f w).length = w.length := by simp [tlK]
theorem tlK_mem {f : List Nat → Nat} {w : List Nat} {k : NestedKey} : k ∈ trisK f w w.length ↔ k ∈ tlK f w := (book_mem _).1 k
def Alike (l : Nat) (ws : List (List Nat)) (f : List Nat → Nat) : Prop := ∀ u ∈ ws, ∀ v ∈ ws, f u = f v ↔ A l u v
theorem alike_next {l : Nat} {ws : List (List Nat)} {f g : List Nat → Nat} (hc : Closed ws) (h : Alike l ws f) (hg : ∀ u ∈ ws, ∀ v ∈ ws, g u = g v ↔ ∀ k, k ∈ tlK f u ↔ k ∈ tlK f v) : Alike (l + 1) ws g := fun u hu v hv => by
  rw [hg u hu v hv, ← tris_A (g := f) (l := l) (u := u) (v := v) fun a b ⟨p, _, ha⟩ ⟨q, _, hb⟩ => h a (by rcases ha with rfl | rfl; exact (hc u hu p).1; exact (hc u hu _).2) b (by rcases hb with rfl | rfl; exact (hc v hv q).1; exact (hc v hv _).2)]
  constructor
  · intro h k; rw [tlK_mem, tlK_mem]; exact h k
  · intro h k; rw [← tlK_mem, ← tlK_mem]; exact h k
def spRankNext (P : Program) (W : World) : Sp2 := fun rs m Kr Ke => ∃ (a : Addr) (ws : List (List Nat)) (f : List Nat → Nat), rs = [.own a] ∧ m = [(a, .dk (kvR ws (numD f)))] ∧ ws.Nodup ∧ Closed ws ∧ ws.length ≤ 4000 ∧ (∀ w ∈ ws, w.length ≤ 40) ∧ ∀ q g, (∀ u ∈ ws, ∀ v ∈ ws, g u = g v ↔ ∀ k, k ∈ tlK f u ↔ k ∈ tlK f v) → Kr (.own q) [(q, .dk (kvR ws (numD g)))]
theorem sc__law_rank_next : FnScope ["numbers", "marks", "book", "later", "word", "kind", "at", "front", "back", "triple"] ["numbers"] (defScope (top 32)) := ⟨rfl, rfl, rfl, by decide +kernel, rfl, by decide +kernel, by decide +kernel⟩
theorem ok_rankNext (F : FunD K "_law_rank_next" "_law_rank_next" (defArgs (top 32)) (defBody (top 32)) (defScope (top 32)) [] [] f fd) (m0_range : mg "range" = none) (m0_len : mg "len" = none) : FnOk P w K mg base (L2N.CX P w) (1) f fd ["numbers"] (spOf K (spRankNext P w)) := by
  refine fn2 F sc__law_rank_next (by decide +kernel) (fun rs m Kr Ke ⟨_, _, _, e, _⟩ => by rw [e]; rfl) fun X c rs m Kr Ke D L hx ⟨a, ws, f, er, em, hnd, hcl, hn, hw, hk⟩ => ?_
  subst er em
  have m_range : X.mg "range" = none := D.mg_ m0_range
  have m_len : X.mg "len" = none := D.mg_ m0_len
  have g_range : Gl X "range" := D.gl (by decide +kernel)
  have g_len : Gl X "len" := D.gl (by decide +kernel)
  have o_marks : Own X "marks" := D.own (by decide +kernel)
  have o_book : Own X "book" := D.own (by decide +kernel)
  have o_later : Own X "later" := D.own (by decide +kernel)
  have o_word : Own X "word" := D.own (by decide +kernel)
  have o_kind : Own X "kind" := D.own (by decide +kernel)
  have o_at : Own X "at" := D.own (by decide +kernel)
  have o_front : Own X "front" := D.own (by decide +kernel)
  have o_back : Own X "back" := D.own (by decide +kernel)
  have o_triple : Own X "triple" := D.own (by decide +kernel)
  refine dss_lo ?_
  show DSs X c [("numbers", some (.own a)), ("marks", none), ("book", none), ("later", none), ("word", none), ("kind", none), ("at", none), ("front", none), ("back", none), ("triple", none)] [(a, .dk (kvR ws (numD f)))] (_ :: _) _
  obtain ⟨eP, eW⟩ : P = X.prog ∧ w = X.w := ⟨D.prog.symm, D.w.symm⟩
  subst eP eW
  let κ := (fun w => ((maskOf (marksT f ws) (tlK f w) : Nat) : Int) : List Nat → Int)
  refine dss_frzK (xs := kvD ws (numD f)) (by ktf_call "lk") (by ktf_call "put") .here ?_
  refine dss_cons ?_
  refine ds_asg o_marks (by ktf_call "put") ?_
  refine d_newN fun pm => ?_
  refine dss_cons ?_
  refine ds_asg o_book (by ktf_call "put") ?_
  refine d_new0 fun pb => ?_
  refine dss_cons ?_
  refine ds_asg o_later (by ktf_call "put") ?_
  refine d_new0 fun pl => ?_
  refine dss_cons ?_
  refine ds_for (ds := ws.map D2.D.str) (fun i σ m => σ = ([("numbers", some (.dat (.dk (kvD ws (numD f))))), ("marks", some (.own pm)), ("book", some (.own pb)), ("later", some (.own pl)), ("word", none), ("kind", none), ("at", none), ("front", none), ("back", none), ("triple", none)] : Sl) ∧ m = [(pl, .dk (kvR (ws.take i) (numD (numOf ws κ)))), (pb, .dk (bkI 0 (bookOf ((ws.take i).map κ)))), (pm, .dn X.prog X.w pm (bkR (bookOf ((ws.take i).flatMap (tlK f)))))]) L (it_fk ?_) ?_ ?_
  · ktf_call "d2"
    exact ⟨_, rfl, kv_keys ws _, rfl, rfl⟩
  · rintro i d σ' m' hd ⟨rfl, rfl⟩
    obtain ⟨hi, rfl⟩ := dstr_at hd
    have hwi := hw _ (List.getElem_mem hi)
    have hui := List.getElem_mem hi
    have hnew : ws[i] ∉ ws.take i := fun h => by
      obtain ⟨j, hj, e⟩ := List.mem_iff_getElem.mp h
      rw [List.getElem_take] at e
      rw [List.length_take] at hj
      have := (List.getElem_inj (h₀ := by omega) (h₁ := hi) hnd).mp e
      omega
    have hin : κ ws[i] ∈ bookOf ((ws.take (i + 1)).map κ) := ((book_mem _).1 _).mpr (List.mem_map.mpr ⟨ws[i], by rw [take_snoc hi]; exact List.mem_append_right _ List.mem_cons_self, rfl⟩)
    have hpre : bookOf ((ws.take (i + 1)).map κ) <+: bookOf (ws.map κ) := by
      have := book_pre ((ws.take (i + 1)).map κ) ((ws.drop (i + 1)).map κ)
      rwa [← List.map_append, List.take_append_drop] at this
    have hidx : (bookOf ((ws.take (i + 1)).map κ)).idxOf (κ ws[i]) = numOf ws κ ws[i] := (idx_pre hpre hin).symm
    have hbs : bookOf ((ws.take (i + 1)).map κ) = if κ ws[i] ∈ bookOf ((ws.take i).map κ) then bookOf ((ws.take i).map κ) else bookOf ((ws.take i).map κ) ++ [κ ws[i]] := by
      rw [take_snoc hi, List.map_append, List.map_singleton, book_snoc]
    have hbl := (book_mem ((ws.take i).map κ)).2.2
    rw [List.length_map, List.length_take] at hbl
    have eput : putR (kvR (ws.take i) (numD (numOf ws κ))) (.inr (sOf ws[i])) (D2.rI ((numOf ws κ ws[i] : Nat) : Int)) = kvR (ws.take (i + 1)) (numD (numOf ws κ)) := by
      rw [show D2.rI ((numOf ws κ ws[i] : Nat) : Int) = R.dat (numD (numOf ws κ) ws[i]) from rfl, put_new (F := numD (numOf ws κ)) hnew, take_snoc hi]
    have hfl : (ws.take i).flatMap (tlK f) ++ tlK f ws[i] = (ws.take (i + 1)).flatMap (tlK f) := by
      rw [take_snoc hi, List.flatMap_append]; simp
    have hM : ∀ j, bookOf ((ws.take i).flatMap (tlK f) ++ (tlK f ws[i]).take j) <+: marksT f ws := fun j => by
      have e : ws.flatMap (tlK f) = ((ws.take i).flatMap (tlK f) ++ (tlK f ws[i]).take j) ++ ((tlK f ws[i]).drop j ++ (ws.drop (i + 1)).flatMap (tlK f)) := by
        conv => lhs; rw [show ws = ws.take i ++ (ws[i] :: ws.drop (i + 1)) by rw [← List.drop_eq_getElem_cons hi, List.take_append_drop]]
        rw [List.flatMap_append, List.flatMap_cons]
        conv => lhs; rw [← List.take_append_drop j (tlK f ws[i])]
        simp only [List.append_assoc]
      unfold marksT
      rw [e]
      exact book_pre _ _
    have hB : ∀ j, (bookOf ((ws.take i).flatMap (tlK f) ++ (tlK f ws[i]).take j)).length ≤ 200000 := fun j => by
      have h1 := (book_mem ((ws.take i).flatMap (tlK f) ++ (tlK f ws[i]).take j)).2.2
      have h2 := flat_le (tlK f) (b := 40) (ws.take i) fun w hw' => by rw [tlK_len]; exact hw w (List.mem_of_mem_take hw')
      rw [List.length_append, List.length_take, tlK_len] at h1
      rw [List.length_take] at h2
      omega
    refine dg_name o_word (by ktf_call "put") ?_
    refine dss_lo ?_
    ktf_call "d2"
    refine ds_for (ds := ups 0 ws[i].length) (fun j σ m => σ = ([("numbers", some (.dat (.dk (kvD ws (numD f))))), ("marks", some (.own pm)), ("book", some (.own pb)), ("later", some (.own pl)), ("word", some (rS ws[i])), ("kind", some (D2.rI ((maskOf (marksT f ws) ((tlK f ws[i]).take j) : Nat) : Int))), ("at", none), ("front", none), ("back", none), ("triple", none)] : Sl) ∧ m = [(pl, .dk (kvR (ws.take i) (numD (numOf ws κ)))), (pb, .dk (bkI 0 (bookOf ((ws.take i).map κ)))), (pm, .dn X.prog X.w pm (bkR (bookOf ((ws.take i).flatMap (tlK f) ++ (tlK f ws[i]).take j))))]) L (it_rng1 (by assumption) (by assumption) ?_) ?_ ?_
    · ktf_call "d2"
      refine ⟨by omega, by omega, rfl, rfl, ?_⟩
      rw [List.take_zero, List.append_nil]
    · rintro j d σ' m' hd ⟨rfl, rfl⟩
      obtain ⟨hj, rfl⟩ := ups_at hd
      rw [show (0 : Int) + (j : Int) = (j : Int) by omega]
      have hjl : j < (tlK f ws[i]).length := by rw [tlK_len]; exact hj
      have hB2 := hB (j + 1)
      have hB1 := hB j
      have hM2 := hM (j + 1)
      have hms := mask_snoc (marksT f ws) ((tlK f ws[i]).take j) (tlK f ws[i])[j]
      rw [← take_snoc hjl] at hms
      have hbk : bookOf ((ws.take i).flatMap (tlK f) ++ (tlK f ws[i]).take (j + 1)) = if (tlK f ws[i])[j] ∈ bookOf ((ws.take i).flatMap (tlK f) ++ (tlK f ws[i]).take j) then bookOf ((ws.take i).flatMap (tlK f) ++ (tlK f ws[i]).take j) else bookOf ((ws.take i).flatMap (tlK f) ++ (tlK f ws[i]).take j) ++ [(tlK f ws[i])[j]] := by
        rw [take_snoc hjl, ← List.append_assoc, book_snoc]
      have hmem : (tlK f ws[i])[j] ∈ bookOf ((ws.take i).flatMap (tlK f) ++ (tlK f ws[i]).take (j + 1)) := ((book_mem _).1 _).mpr (List.mem_append_right _ (by rw [take_snoc hjl]; exact List.mem_append_right _ List.mem_cons_self))
      have hix := idx_pre hM2 hmem
      have hil : (bookOf ((ws.take i).flatMap (tlK f) ++ (tlK f ws[i]).take (j + 1))).idxOf (tlK f ws[i])[j] < (bookOf ((ws.take i).flatMap (tlK f) ++ (tlK f ws[i]).take (j + 1))).length := List.idxOf_lt_length_of_mem hmem
      have eit : (tlK f ws[i])[j] = .tup [.num (f (ws[i].take j) : Int), .text (sOf [ws[i].getD j 0]), .num (f (ws[i].drop (j + 1)) : Int)] := by
        have e := List.getElem?_eq_getElem hjl
        rw [show (tlK f ws[i])[j]? = ((List.range ws[i].length).map (triK f ws[i]))[j]? from rfl, List.getElem?_map, List.getElem?_range hj] at e
        exact (Option.some.inj e).symm
      generalize bookOf ((ws.take i).flatMap (tlK f) ++ (tlK f ws[i]).take (j + 1)) = B2 at *
      generalize bookOf ((ws.take i).flatMap (tlK f) ++ (tlK f ws[i]).take j) = B1 at *
      generalize (tlK f ws[i])[j] = it at *
      subst eit
      have ht : ws[i].take j ∈ ws := (hcl _ hui j).1
      have hdr : ws[i].drop (j + 1) ∈ ws := (hcl _ hui _).2
      have hd8 : (NestedKey.tup [.num (f (ws[i].take j) : Int), .text (sOf [ws[i].getD j 0]), .num (f (ws[i].drop (j + 1)) : Int)]).depth ≤ 8 := by simp [NestedKey.depth, NestedKey.depthAll]
      refine dg_name o_at (by ktf_call "put") ?_
      refine dss_lo ?_
      ktf_call "d2"
      rw [cut_to]
      refine x_fk L .str (val_kvD ht) ?_
      ktf_call "d2"
      rw [show ((j : Int) + 1) = ((j + 1 : Nat) : Int) by omega, cut_from]
      refine x_fk L .str (val_kvD hdr) ?_
      ktf_call "d2"
      rw [Int.toNat_natCast]
      refine o_ninN (ks := [.num (f (ws[i].take j) : Int), .text (sOf [ws[i].getD j 0]), .num (f (ws[i].drop (j + 1)) : Int)]) L (.there (.there .here)) hd8 ?_
      rw [bk_some]
      ktf_call "d2"
      · rename_i hyp
        rw [if_neg hyp] at hbk
        refine ⟨by rw [bk_len]; omega, ?_⟩
        rw [bk_len]
        ktf_call "d2"
        refine ⟨pm, _, [.num (f (ws[i].take j) : Int), .text (sOf [ws[i].getD j 0]), .num (f (ws[i].drop (j + 1)) : Int)], _, rfl, rfl, hd8, .there (.there .here), by rw [bk_len]; omega, ?_⟩
        rw [bk_put hyp, ← hbk]
        ktf_call "d2"
        refine x_dn (ks := [.num (f (ws[i].take j) : Int), .text (sOf [ws[i].getD j 0]), .num (f (ws[i].drop (j + 1)) : Int)]) L (.there (.there .here)) hd8 (bk_val _ 0 _ hmem) ?_
        rw [Nat.zero_add]
        refine o_shl1 (by omega) ?_
        refine o_orN ?_
        rw [← hix, ← hms]
        refine dss_nil ?_
        exact ⟨_, _, by ktf_call "fog", List.Sublist.refl _, rfl, rfl⟩
      · rename_i hyp
        rw [if_pos hyp] at hbk
        rw [← hbk]
        refine x_dn (ks := [.num (f (ws[i].take j) : Int), .text (sOf [ws[i].getD j 0]), .num (f (ws[i].drop (j + 1)) : Int)]) L (.there (.there .here)) hd8 (bk_val _ 0 _ hmem) ?_
        rw [Nat.zero_add]
        refine o_shl1 (by omega) ?_
        refine o_orN ?_
        rw [← hix, ← hms]
        refine dss_nil ?_
        exact ⟨_, _, by ktf_call "fog", List.Sublist.refl _, rfl, rfl⟩
    · rintro σ' m' ⟨rfl, rfl⟩
      rw [ups_len, show (tlK f ws[i]).take ws[i].length = tlK f ws[i] by rw [List.take_of_length_le (by rw [tlK_len]; exact Nat.le_refl _)], hfl]
      ktf_call "d2"
      refine o_ninK L (.there .here) .int ?_
      rw [bi_some]
      ktf_call "d2"
      · rename_i hyp
        have hno : κ ws[i] ∉ bookOf ((ws.take i).map κ) := hyp
        rw [if_neg hno] at hbs
        rw [bi_len]
        refine ⟨pb, _, _, _, rfl, .int, .there .here, by rw [bi_len]; omega, ?_⟩
        rw [bi_put hno, ← hbs]
        ktf_call "d2"
        refine x_dk L (.there .here) .int (bi_val _ 0 _ hin) ?_
        rw [Nat.zero_add, hidx]
        ktf_call "d2"
        refine ⟨pl, _, _, _, rfl, .str, .here, by rw [kvR_len, List.length_take]; omega, ?_⟩
        rw [eput]
        refine dss_nil ?_
        exact ⟨_, _, by ktf_call "fog", List.Sublist.refl _, rfl, rfl⟩
      · rename_i hyp
        have hyes : κ ws[i] ∈ bookOf ((ws.take i).map κ) := hyp
        rw [if_pos hyes] at hbs
        rw [← hbs]
        refine x_dk L (.there .here) .int (bi_val _ 0 _ hin) ?_
        rw [Nat.zero_add, hidx]
        ktf_call "d2"
        refine ⟨pl, _, _, _, rfl, .str, .here, by rw [kvR_len, List.length_take]; omega, ?_⟩
        rw [eput]
        refine dss_nil ?_
        exact ⟨_, _, by ktf_call "fog", List.Sublist.refl _, rfl, rfl⟩
  · rintro σ' m' ⟨rfl, rfl⟩
    rw [List.length_map, List.take_length]
    ktf_call "d2"
    refine ⟨_, List.Sublist.cons_cons _ (List.nil_sublist _), hk _ _ fun u hu v hv => ?_⟩
    rw [num_iff u hu v hv]
    exact Int.ofNat_inj.trans (mask_iff (fun x hx => ((book_mem _).1 x).mpr (List.mem_flatMap.mpr ⟨u, hu, hx⟩)) fun x hx => ((book_mem _).1 x).mpr (List.mem_flatMap.mpr ⟨v, hv, hx⟩))
end
end NC
/-! ## NR37b -/
set_option Elab.async false
set_option linter.all false
set_option maxRecDepth 100000
set_option maxHeartbeats 2000000
set_option pp.maxSteps 1500
/-! k37: pieces told by the law itself -/
namespace NC.Pc
open PySem PySem.Spec PyProof.Rows L2 D2
theorem sD_lt (a b : List Nat) : PySem.W.dataLe false sD a b = true ↔ ¬ b < a := by
  show (!PyProof.Rows.lexLt itemOrd (PySem.W.keyToks (sD b)) (PySem.W.keyToks (sD a))) = true ↔ _
  have t : ∀ x, PySem.W.keyToks (sD x) = [.inr x] := fun x => by
    simp only [sD, PySem.W.keyToks, sOf]
  have e : PyProof.Rows.lexLt itemOrd (PySem.W.keyToks (sD b)) (PySem.W.keyToks (sD a)) = true ↔ b < a := by
    rw [t, t, lex_true (O := itemOrd)]
    have h2 : ∀ a b : List Nat, itemOrd.blt (.inr a) (.inr b) = decide (a < b) := fun _ _ => rfl
    rw [h2, lex_irrefl (O := itemOrd)]
    simp
  rw [← e]
  cases PyProof.Rows.lexLt itemOrd (PySem.W.keyToks (sD b)) (PySem.W.keyToks (sD a)) <;> simp
theorem sort_sD {ks : List (List Nat)} (nd : ks.Nodup) : (ks.mergeSort (PySem.W.dataLe false sD)).Pairwise (· < ·) := by
  have tl := PySem.W.sortLe_total (listOrd itemOrd) false fun b => PySem.W.keyToks (sD b)
  have pw : (ks.mergeSort (PySem.W.dataLe false sD)).Pairwise fun a b => PySem.W.dataLe false sD a b = true :=
    List.pairwise_mergeSort (fun a b c h1 h2 => tl.trans a b c h1 h2) (fun a b => by rcases tl.total a b with z | z <;> simp [PySem.W.dataLe, z]) ks
  have nd2 : (ks.mergeSort (PySem.W.dataLe false sD)).Nodup := (List.mergeSort_perm ks _).nodup_iff.mpr nd
  refine (pw.and nd2).imp fun {a b} ⟨h1, h2⟩ => ?_
  have := (sD_lt a b).mp h1
  by_cases h4 : a < b
  · exact h4
  · exact absurd (List.le_antisymm (List.not_lt.mp this) (List.not_lt.mp h4)) h2
/-- by length -/
def byLen (l : List (List Nat)) (n : Nat) : List (List Nat) := (List.range n).flatMap fun k => l.filter fun x => decide (x.length = k)
theorem byLen_succ (l : List (List Nat)) (n : Nat) : byLen l (n + 1) = byLen l n ++ l.filter fun x => decide (x.length = n) := by
  unfold byLen; rw [List.range_succ, List.flatMap_append]; simp
theorem byLen_mem {l : List (List Nat)} {n : Nat} {x : List Nat} : x ∈ byLen l n ↔ x ∈ l ∧ x.length < n := by
  unfold byLen
  rw [List.mem_flatMap]
  constructor
  · rintro ⟨k, hk, h⟩
    rw [List.mem_filter, decide_eq_true_eq] at h
    have := List.mem_range.mp hk
    exact ⟨h.1, by omega⟩
  · rintro ⟨h1, h2⟩
    exact ⟨x.length, List.mem_range.mpr h2, List.mem_filter.mpr ⟨h1, by simp⟩⟩
theorem byLen_sorted {l : List (List Nat)} (h : l.Pairwise (· < ·)) : ∀ n, (byLen l n).Pairwise wlt
  | 0 => List.Pairwise.nil
  | n + 1 => by
    rw [byLen_succ, List.pairwise_append]
    refine ⟨byLen_sorted h n, ?_, fun a ha b hb => ?_⟩
    · have := (h.filter fun x => decide (x.length = n))
      refine List.Pairwise.imp_of_mem (fun {a b} ha hb hab => ?_) this
      have h1 := of_decide_eq_true (List.mem_filter.mp ha).2
      have h2 := of_decide_eq_true (List.mem_filter.mp hb).2
      exact .inr ⟨by omega, hab⟩
    · have h1 := (byLen_mem.mp ha).2
      have h2 := of_decide_eq_true (List.mem_filter.mp hb).2
      exact .inl (by omega)
theorem byLen_ok {w : List Nat} {n : Nat} {ks : List (List Nat)} (h : Keys w n ks) : IsPieces w n (byLen (ks.mergeSort (PySem.W.dataLe false sD)) (n + 1)) :=
  ⟨byLen_sorted (sort_sD h.1) _, fun x => by
    rw [byLen_mem, List.mem_mergeSort, h.2]
    exact ⟨fun z => z.1, fun z => ⟨z, by omega⟩⟩⟩
theorem few7 {w : List Nat} {n : Nat} {ks : List (List Nat)} (ha : Abc w) (hn : n ≤ 7) (nd : ks.Nodup) (h : ∀ x ∈ ks, x.Sublist w ∧ x.length ≤ n) : ks.length ≤ 3280 := by
  refine Nat.le_trans (nodup_len nd (ys := allW 7) fun x hx => mem_allW (by have := (h x hx).2; omega) fun c hc => ha c ((h x hx).1.subset hc)) ?_
  decide +kernel
theorem abc_of {s : List Nat} (h : NC.Abc s) : Abc s := fun c hc => by
  have := h c hc
  simp only [abc3, List.mem_cons, List.not_mem_nil, or_false] at this
  exact this
abbrev toK (ks : List (List Nat)) : List (Key × R) := ks.map fun x => ((.inr (sOf x) : Key), rB true)
theorem sOf_inj' {x y : List Nat} (h : sOf x = sOf y) : x = y := NC.sOf_inj h
theorem putR_toK (ks : List (List Nat)) (x : List Nat) : putR (toK ks) (.inr (sOf x)) (rB true) = toK (putW ks x) := by
  unfold putR putW
  have e : ((toK ks).any fun kv => decide (kv.1 = (.inr (sOf x) : Key))) = decide (x ∈ ks) := by
    rw [Bool.eq_iff_iff, List.any_eq_true]
    simp only [decide_eq_true_eq]
    constructor
    · rintro ⟨kv, h1, h2⟩
      obtain ⟨y, hy, rfl⟩ := List.mem_map.mp h1
      have := NC.sOf_inj (Sum.inr.inj h2)
      rw [← this]; exact hy
    · intro h
      exact ⟨_, List.mem_map_of_mem h, rfl⟩
  rw [e]
  by_cases h : x ∈ ks
  · rw [if_pos (decide_eq_true h), if_pos h]
    refine (List.map_congr_left fun kv hkv => ?_).trans (List.map_id _)
    obtain ⟨y, hy, rfl⟩ := List.mem_map.mp hkv
    by_cases c : ((.inr (sOf y) : Key)) = .inr (sOf x)
    · rw [if_pos c]; rfl
    · rw [if_neg c]; rfl
  · rw [if_neg (by simpa using h), if_neg h]
    simp [toK]
theorem toK_len (ks : List (List Nat)) : (toK ks).length = ks.length := List.length_map _
theorem toK_R (ks : List (List Nat)) : (toK ks).map (fun kv => kR kv.1) = ks.map rS := by
  rw [List.map_map]
  refine List.map_congr_left fun x _ => ?_
  simp [kR, sOf, lit]
theorem toK_keys (ks : List (List Nat)) : (toK ks).map (·.1) = ks.map fun x => (.inr (sOf x) : Key) := by rw [List.map_map]; rfl
theorem frzs_rS (m : Mem) (l : List (List Nat)) : Frzs m (l.map rS) (l.map D2.D.str) m := by
  rw [show l.map rS = (l.map D2.D.str).map R.dat by rw [List.map_map]; rfl]
  exact Frzs.map _ _
section
local macro_rules | `(tactic| ktf_call "lk") => `(tactic| (with_reducible first | exact Lk.here | exact (Lk.there Lk.here) | exact (Lk.there (Lk.there Lk.here)) | exact (Lk.there (Lk.there (Lk.there Lk.here))) | exact (Lk.there (Lk.there (Lk.there (Lk.there Lk.here)))) | exact (Lk.there (Lk.there (Lk.there (Lk.there (Lk.there Lk.here))))) | exact (Lk.there (Lk.there (Lk.there (Lk.there (Lk.there (Lk.there Lk.here)))))) | exact (Lk.there (Lk.there (Lk.there (Lk.there (Lk.there (Lk.there (Lk.there Lk.here))))))) | exact (Lk.there (Lk.there (Lk.there (Lk.there (Lk.there (Lk.there (Lk.there (Lk.there Lk.here)))))))) | exact (Lk.there (Lk.there (Lk.there (Lk.there (Lk.there (Lk.there (Lk.there (Lk.there (Lk.there Lk.here))))))))) | exact (Lk.there (Lk.there (Lk.there (Lk.there (Lk.there (Lk.there (Lk.there (Lk.there (Lk.there (Lk.there Lk.here)))))))))) | exact (Lk.there (Lk.there (Lk.there (Lk.there (Lk.there (Lk.there (Lk.there (Lk.there (Lk.there (Lk.there (Lk.there Lk.here))))))))))) | exact (Lk.there (Lk.there (Lk.there (Lk.there (Lk.there (Lk.there (Lk.there (Lk.there (Lk.there (Lk.there (Lk.there (Lk.there Lk.here)))))))))))) | exact (Lk.there (Lk.there (Lk.there (Lk.there (Lk.there (Lk.there (Lk.there (Lk.there (Lk.there (Lk.there (Lk.there (Lk.there (Lk.there Lk.here))))))))))))) | fail "none"))
local macro_rules | `(tactic| ktf_call "put") => `(tactic| (with_reducible first | exact PutF.here | exact (PutF.there PutF.here) | exact (PutF.there (PutF.there PutF.here)) | exact (PutF.there (PutF.there (PutF.there PutF.here))) | exact (PutF.there (PutF.there (PutF.there (PutF.there PutF.here)))) | exact (PutF.there (PutF.there (PutF.there (PutF.there (PutF.there PutF.here))))) | exact (PutF.there (PutF.there (PutF.there (PutF.there (PutF.there (PutF.there PutF.here)))))) | exact (PutF.there (PutF.there (PutF.there (PutF.there (PutF.there (PutF.there (PutF.there PutF.here))))))) | exact (PutF.there (PutF.there (PutF.there (PutF.there (PutF.there (PutF.there (PutF.there (PutF.there PutF.here)))))))) | exact (PutF.there (PutF.there (PutF.there (PutF.there (PutF.there (PutF.there (PutF.there (PutF.there (PutF.there PutF.here))))))))) | exact (PutF.there (PutF.there (PutF.there (PutF.there (PutF.there (PutF.there (PutF.there (PutF.there (PutF.there (PutF.there PutF.here)))))))))) | exact (PutF.there (PutF.there (PutF.there (PutF.there (PutF.there (PutF.there (PutF.there (PutF.there (PutF.there (PutF.there (PutF.there PutF.here))))))))))) | exact (PutF.there (PutF.there (PutF.there (PutF.there (PutF.there (PutF.there (PutF.there (PutF.there (PutF.there (PutF.there (PutF.there (PutF.there PutF.here)))))))))))) | exact (PutF.there (PutF.there (PutF.there (PutF.there (PutF.there (PutF.there (PutF.there (PutF.there (PutF.there (PutF.there (PutF.there (PutF.there (PutF.there PutF.here))))))))))))) | fail "none"))
local macro_rules | `(tactic| ktf_call "has") => `(tactic| (with_reducible first | exact Has.here | exact (Has.there Has.here) | exact (Has.there (Has.there Has.here)) | exact (Has.there (Has.there (Has.there Has.here))) | exact (Has.there (Has.there (Has.there (Has.there Has.here)))) | exact (Has.there (Has.there (Has.there (Has.there (Has.there Has.here))))) | exact (Has.there (Has.there (Has.there (Has.there (Has.there (Has.there Has.here)))))) | exact (Has.there (Has.there (Has.there (Has.there (Has.there (Has.there (Has.there Has.here))))))) | fail "none"))
local macro_rules | `(tactic| ktf_call "chg") => `(tactic| (with_reducible first | exact Chg.here | exact (Chg.there Chg.here) | exact (Chg.there (Chg.there Chg.here)) | exact (Chg.there (Chg.there (Chg.there Chg.here))) | exact (Chg.there (Chg.there (Chg.there (Chg.there Chg.here)))) | exact (Chg.there (Chg.there (Chg.there (Chg.there (Chg.there Chg.here))))) | exact (Chg.there (Chg.there (Chg.there (Chg.there (Chg.there (Chg.there Chg.here)))))) | exact (Chg.there (Chg.there (Chg.there (Chg.there (Chg.there (Chg.there (Chg.there Chg.here))))))) | fail "none"))
local macro_rules | `(tactic| ktf_call "vl") => `(tactic| first | ((with_reducible refine' VL.own ?cv); (case cv => ktf_call "has")) | with_reducible exact VL.dat | fail "vl")
local macro_rules | `(tactic| ktf_call "vu") => `(tactic| ((with_reducible refine' VU.own ?cv); (case cv => ktf_call "has")))
local macro_rules | `(tactic| ktf_call "ati") => `(tactic| first | assumption | exact ati_l rfl | fail "ati")
local macro_rules | `(tactic| ktf_call "vi") => `(tactic| first | with_reducible exact vi_dat | ((with_reducible refine' vi_own ?cv); (case cv => ktf_call "has")) | ((with_reducible refine' vi_nil ?cv); (case cv => ktf_call "vl")) | fail "vi")
local macro_rules | `(tactic| ktf_call "vs") => `(tactic| first | with_reducible exact vs_dat | ((with_reducible refine' vs_own ?cv); (case cv => ktf_call "has")) | ((with_reducible refine' vs_nil ?cv); (case cv => ktf_call "vl")) | fail "vs")
local macro_rules | `(tactic| ktf_call "hyp") => `(tactic| simp only [decide_eq_true_eq, decide_eq_false_iff_not, Bool.not_eq_true', Bool.not_eq_false', Bool.not_true, Bool.not_false, Bool.true_eq_false, Bool.false_eq_true, Int.not_lt, Int.not_le] at *)
local macro_rules | `(tactic| ktf_call "side") => `(tactic| first | assumption | decide | omega | (simp only [List.length_cons, List.length_nil, List.length_map]; omega) | exact ⟨Int.emod_nonneg _ (by omega), Int.emod_lt_of_pos _ (by omega)⟩ | (decide +kernel) | (simp; done) | (simp; omega))
local macro_rules | `(tactic| ktf_call "cmul") => `(tactic| first | assumption | exact cm_l (by omega) (by omega) | exact cm_r (by omega) (by omega) | fail "cmul")
local macro_rules | `(tactic| ktf_call "cdiv") => `(tactic| first | assumption | exact ⟨by assumption, by assumption⟩ | exact cd_s (by omega) (by omega) | fail "cdiv")
local macro_rules | `(tactic| ktf_call "frz") => `(tactic| (repeat (first | exact Frz.dat | exact Frzs.nil | apply Frzs.cons | apply Frz.lst | exact Frzs.map _ _)))
local macro_rules | `(tactic| ktf_call "ln") => `(tactic| first | ((with_reducible refine' ln_I ?cv); (case cv => ktf_call "vi")) | ((with_reducible refine' ln_S ?cv); (case cv => ktf_call "vs")) | ((with_reducible refine' Ln.lst ?cv); (case cv => ktf_call "vl")) | ((with_reducible refine' Ln.str ?cv); (case cv => ktf_call "side")) | with_reducible exact Ln.tup | fail "ln")
local macro_rules | `(tactic| ktf_call "tym") => `(tactic| first | with_reducible exact TyM.str | with_reducible exact TyM.lst (by ktf_call "vl") | with_reducible exact TyM.int | with_reducible exact TyM.dk (by ktf_call "has"))
local macro_rules | `(tactic| ktf_call "gl") => `(tactic| first | assumption | exact Def.gl (by assumption) (by decide +kernel) | exact IsBlk.gl (by assumption) (by decide +kernel) | exact IsBlkH.gl (by assumption) (by decide +kernel) | fail "gl")
local macro_rules | `(tactic| ktf_call "mg") => `(tactic| first | assumption | exact Def.mg_ (by assumption) (by assumption) | exact IsBlk.mg (by assumption) (by ktf_call "mg") | exact IsBlkH.mg (by assumption) (by ktf_call "mg") | fail "mg")
local macro_rules | `(tactic| ktf_call "own") => `(tactic| first | assumption | exact Def.own (by assumption) (by decide +kernel) | fail "own")
local macro_rules | `(tactic| ktf_call "cal") => `(tactic| first | assumption | exact Def.callee (by assumption) (by assumption) | exact IsBlk.callee (by assumption) (by ktf_call "cal") | fail "cal")
local macro_rules | `(tactic| ktf_call "fog") => `(tactic| (repeat (first | with_reducible exact Fog.nil | with_reducible apply Fog.keep | with_reducible apply Fog.drop)))
local macro_rules | `(tactic| ktf_call "blk") => `(tactic| first | with_reducible exact Blk.nil | exact Blk.keep (by decide +kernel) (by ktf_call "blk") | exact Blk.drop (by ktf_call "blk"))
local macro_rules | `(tactic| ktf_call "sub") => `(tactic| (repeat (with_reducible first | exact List.Sublist.slnil | exact List.nil_sublist _ | exact sub_nil _ | apply List.Sublist.cons_cons | apply List.Sublist.cons)))
local macro_rules | `(tactic| ktf_call "ce") => `(tactic| fail "ce")
-- expressions
local macro_rules | `(tactic| ktf_call "e") => `(tactic| first
  | ((with_reducible show DE _ _ _ _ (.Name _ _) _); refine de_name (by ktf_call "lk") ?_)
  | ((with_reducible show DE _ _ _ _ (.Constant _ _ _) _); first | refine de_int ?_ | refine de_str ?_ | refine de_bl ?_ | refine de_non ?_)
  | ((with_reducible show DE _ _ _ _ (.BinOp _ _ _ _) _); refine de_bin ?_)
  | ((with_reducible show DE _ _ _ _ (.Subscript _ (.Slice _ _ none _) _) _); refine d_slice ?_)
  | ((with_reducible show DE _ _ _ _ (.Subscript _ _ _) _); refine de_ix ?_)
  | ((with_reducible show DE _ _ _ _ (.Call (.Name _ _) _ _ _) _); first
      | ((with_reducible show DE _ _ _ _ (.Call (.Name "len" _) _ _ _) _); refine d_len (by ktf_call "gl") (by ktf_call "mg") ?_)
      | ((with_reducible show DE _ _ _ _ (.Call (.Name "int" _) _ _ _) _); refine d_int (by ktf_call "gl") (by ktf_call "mg") ?_)
      | ((with_reducible show DE _ _ _ _ (.Call (.Name "abs" _) _ _ _) _); refine d_abs (by ktf_call "gl") (by ktf_call "mg") ?_)
      | ktf_call "ce"
      | refine de_call (by ktf_call "cal") (by assumption) (by ktf_call "gl") ?_ (hjk := by omega))
  | ((with_reducible show DE _ _ _ _ (.Call (.Attribute _ "join" _) _ _ _) _); refine d_join ?_)
  | ((with_reducible show DE _ _ _ _ (.Call (.Attribute _ "append" _) _ _ _) _); refine d_appendL ?_)
  | ((with_reducible show DE _ _ _ _ (.Call (.Attribute _ "extend" _) _ _ _) _); refine d_extendL ?_)
  | ((with_reducible show DE _ _ _ _ (.Call (.Attribute _ "find" _) [_, _] _ _) _); refine d_find3 ?_)
  | ((with_reducible show DE _ _ _ _ (.Compare _ [_] [_] _) _); refine de_cmp ?_)
  | ((with_reducible show DE _ _ _ _ (.BoolOp _ [_] _) _); refine de_bo1 ?_)
  | ((with_reducible show DE _ _ _ _ (.BoolOp .And _ _) _); refine de_and ?_)
  | ((with_reducible show DE _ _ _ _ (.BoolOp .Or _ _) _); refine de_or ?_)
  | ((with_reducible show DE _ _ _ _ (.UnaryOp .Not _ _) _); refine de_not ?_)
  | ((with_reducible show DE _ _ _ _ (.UnaryOp _ _ _) _); refine de_un ?_)
  | ((with_reducible show DE _ _ _ _ (.List _ _) _); refine de_lst ?_)
  | ((with_reducible show DE _ _ _ _ (.Tuple _ _ _) _); refine de_tup ?_)
  | ((with_reducible show DE _ _ _ _ (.IfExp _ _ _ _) _); refine de_if ?_))
local macro_rules | `(tactic| ktf_call "o") => `(tactic| first
  | ((with_reducible show OP _ _ _ _ (binaryOp _) _ _ _); first
    | ((with_reducible refine' o_add  ?kk))
    | ((with_reducible refine' o_addS ?ca ?kk); (case ca => ktf_call "side"))
    | ((with_reducible refine' o_cat ?ca ?cb ?cd (fun p => ?kk)); (case ca => ktf_call "vu"); (case cb => ktf_call "vu"); (case cd => ktf_call "side"))
    | ((with_reducible refine' o_sub  ?kk))
    | ((with_reducible refine' o_mulS ?ca ?kk); (case ca => ktf_call "cmul"))
    | ((with_reducible refine' o_mul ?ca ?kk); (case ca => assumption))
    | ((with_reducible refine' o_div ?ca ?kk); (case ca => ktf_call "cdiv"))
    | ((with_reducible refine' o_mod ?ca ?kk); (case ca => (first | assumption | omega | decide)))
    | ((with_reducible refine' o_pow ?ca ?kk); (case ca => decide))
    | fail "o")
  | ((with_reducible show OP _ _ _ _ (compareOp _) _ _ _); first
    | ((with_reducible refine' o_lt  ?kk))
    | ((with_reducible refine' o_le  ?kk))
    | ((with_reducible refine' o_gt  ?kk))
    | ((with_reducible refine' o_ge  ?kk))
    | ((with_reducible refine' o_eqI  ?kk))
    | ((with_reducible refine' o_eqS  ?kk))
    | ((with_reducible refine' o_eqB  ?kk))
    | ((with_reducible refine' o_eqLI ?ca ?cb ?cd ?kk); (case ca => assumption); (case cb => ktf_call "vi"); (case cd => ktf_call "vi"))
    | ((with_reducible refine' o_eqLS ?ca ?cb ?cd ?kk); (case ca => assumption); (case cb => ktf_call "vs"); (case cd => ktf_call "vs"))
    | ((with_reducible refine' o_neI  ?kk))
    | ((with_reducible refine' o_neS  ?kk))
    | ((with_reducible refine' o_neLI ?ca ?cb ?cd ?kk); (case ca => assumption); (case cb => ktf_call "vi"); (case cd => ktf_call "vi"))
    | ((with_reducible refine' o_neLS ?ca ?cb ?cd ?kk); (case ca => assumption); (case cb => ktf_call "vs"); (case cd => ktf_call "vs"))
    | ((with_reducible refine' o_isB  ?kk))
    | fail "o")
  | ((with_reducible refine' u_neg  ?kk))
  | ((with_reducible refine' x_I ?ca ?cb ?kk); (case ca => ktf_call "vi"); (case cb => ktf_call "side"))
  | ((with_reducible refine' x_S ?ca ?cb ?kk); (case ca => ktf_call "vs"); (case cb => ktf_call "side"))
  | ((with_reducible refine' x_B ?ca ?cb ?kk); (case ca => ((with_reducible refine' vb_own ?cv); (case cv => ktf_call "has"))); (case cb => ktf_call "side"))
  | ((with_reducible refine' x_ch ?ca ?cb ?kk); (case ca => ktf_call "side"); (case cb => ktf_call "side"))
  | ((with_reducible refine' x_lst ?ca ?cb ?kk); (case ca => ktf_call "vl"); (case cb => ktf_call "ati"))
  | ((with_reducible refine' x_tup ?ca ?kk); (case ca => ktf_call "ati"))
  | ((with_reducible refine' x_str ?ca ?cb ?kk); (case ca => ktf_call "side"); (case cb => ktf_call "ati"))
  | ((with_reducible refine' s_lst ?ca (fun p => ?kk)); (case ca => ktf_call "vl"))
  | ((with_reducible refine' s_str ?ca ?kk); (case ca => ktf_call "side"))
  | fail "o")
local macro_rules | `(tactic| ktf_call "t") => `(tactic| first
  | ((with_reducible show DT _ _ _ _ (.Compare _ [_] [_] _) _); refine dt_cmp ?_)
  | ((with_reducible show DT _ _ _ _ (.BoolOp _ _ _) _); refine dt_bool ?_)
  | ((with_reducible show DT _ _ _ _ (.UnaryOp .Not _ _) _); refine dt_not ?_)
  | ((with_reducible show DT _ _ _ _ _ _); refine dt_val ?_)
  | ((with_reducible show DW _ _ _ _ (.BoolOp .And [_] _) _); refine dw_and1 ?_)
  | ((with_reducible show DW _ _ _ _ (.BoolOp .Or [_] _) _); refine dw_or1 ?_)
  | ((with_reducible show DW _ _ _ _ (.BoolOp .And _ _) _); refine dw_and ?_)
  | ((with_reducible show DW _ _ _ _ (.BoolOp .Or _ _) _); refine dw_or ?_))
local macro_rules | `(tactic| ktf_call "s") => `(tactic| first
  | ((with_reducible show DSs _ _ _ _ (List.drop _ _) _); first | refine dss_at rfl ?_ | refine dss_end rfl ?_)
  | ((with_reducible show DSs _ _ _ _ (_ :: _) _); refine dss_cons ?_)
  | ((with_reducible show DSs _ _ _ _ [] _); refine dss_nil ?_)
  | ((with_reducible show DS _ _ _ _ (.If _ _ _ _) _); refine ds_if ?_)
  | ((with_reducible show DS _ _ _ _ (.Return (some _) _) _); refine ds_ret ?_)
  | ((with_reducible show DS _ _ _ _ (.Assign [.Name _ _] _ _) _); refine ds_asg (by ktf_call "own") (by ktf_call "put") ?_)
  | ((with_reducible show DS _ _ _ _ (.Assign [.Subscript _ _ _] _ _) _); refine ds_setL ?_)
  | ((with_reducible show DS _ _ _ _ (.Expr _ _) _); refine ds_expr ?_)
  | ((with_reducible show DS _ _ _ _ (.AugAssign (.Name _ _) .Add _ _) _); refine ds_augI ip_add (by ktf_call "own") (by ktf_call "lk") (by ktf_call "put") ?_)
  | ((with_reducible show DS _ _ _ _ (.AugAssign (.Name _ _) .Sub _ _) _); refine ds_augI ip_sub (by ktf_call "own") (by ktf_call "lk") (by ktf_call "put") ?_)
  | fail "s")
local macro_rules | `(tactic| ktf_call "k") => `(tactic| first
  | ((with_reducible show DA _ _ _ _ [] _); refine da_nil ?_)
  | ((with_reducible show DA _ _ _ _ (_ :: _) _); refine da_cons ?_)
  | ((with_reducible show DO _ _ _ _ none _); refine do_none ?_)
  | ((with_reducible show DO _ _ _ _ (some _) _); refine do_some ?_)
  | ((with_reducible show KB _ _ _); refine kb ?_)
  | ((with_reducible show (_ = true → _) ∧ (_ = false → _)); refine ⟨fun hyp => ?_, fun hyp => ?_⟩ <;> (try simp only [decide_eq_true_eq, decide_eq_false_iff_not, Bool.not_eq_true', Bool.not_eq_false', Bool.not_true, Bool.not_false, Bool.true_eq_false, Bool.false_eq_true, Int.not_lt, Int.not_le, nil_len, Nat.pos_iff_ne_zero.symm] at hyp))
  | ((with_reducible show (_ = false → _) ∧ (_ = true → _)); refine ⟨fun hyp => ?_, fun hyp => ?_⟩ <;> (try simp only [decide_eq_true_eq, decide_eq_false_iff_not, Bool.not_eq_true', Bool.not_eq_false', Bool.not_true, Bool.not_false, Bool.true_eq_false, Bool.false_eq_true, Int.not_lt, Int.not_le, nil_len, Nat.pos_iff_ne_zero.symm] at hyp))
  | ((with_reducible show ∃ d, rB _ = rB d ∧ _); refine ⟨_, rfl, ?_⟩)
  | ((with_reducible show ∃ d, D2.rI _ = D2.rI d ∧ _); refine ⟨_, rfl, ?_⟩)
  | ((with_reducible show ∃ n, Ln _ _ n ∧ _); refine ⟨_, by ktf_call "ln", ?_⟩)
  | ((with_reducible refine' Exists.intro _ (Exists.intro _ (Exists.intro _ (Exists.intro _ (Exists.intro _ (And.intro rfl (And.intro rfl (And.intro ?ch (And.intro ?ix ?_))))))))); (case ch => ktf_call "chg"); (case ix => first | exact ixN_ok (by ktf_call "side") (by ktf_call "side") | exact rfl))
  | ((with_reducible show rS _ = rS [] ∧ _); refine ⟨rfl, ?_⟩)
  | ((with_reducible show ∃ s, rS _ = rS s ∧ _); refine ⟨_, rfl, ?_⟩)
  | ((with_reducible refine' Exists.intro _ (Exists.intro _ (Exists.intro _ (And.intro rfl (And.intro ?ch ?_))))); (case ch => ktf_call "has"))
  | ((with_reducible refine' Exists.intro _ (Exists.intro _ (And.intro ?ch (And.intro ?cl ?_)))); (case ch => ktf_call "chg"); (case cl => ktf_call "side"))
  | ((with_reducible refine' Exists.intro _ (Exists.intro _ (Exists.intro _ (And.intro ?ch (And.intro ?cu (And.intro ?cl ?_)))))); (case ch => ktf_call "chg"); (case cu => ktf_call "vu"); (case cl => ktf_call "side"))
  | ((with_reducible show _ ≤ 1000000 ∧ _); first | refine ⟨by ktf_call "side", fun p => ?_⟩ | refine ⟨by ktf_call "side", _, _, by ktf_call "frz", ?_⟩)
  | ktf_call "sp"
  | fail "k")
local macro_rules | `(tactic| ktf_call "d2") => `(tactic| (repeat' (first
  | ((with_reducible show DE _ _ _ _ _ _); ktf_call "e")
  | ((with_reducible show OP _ _ _ _ _ _ _ _); ktf_call "o")
  | ((with_reducible show IX _ _ _ _ _ _ _ _ _); ktf_call "o")
  | ((with_reducible show DT _ _ _ _ _ _); ktf_call "t")
  | ((with_reducible show DW _ _ _ _ _ _); ktf_call "t")
  | ((with_reducible show DA _ _ _ _ _ _); ktf_call "k")
  | ((with_reducible show DS _ _ _ _ _ _); ktf_call "s")
  | ((with_reducible show DSs _ _ _ _ _ _); ktf_call "s")
  | ((with_reducible show UP _ _ _ _ _ _ _); ktf_call "o")
  | ((with_reducible show SlK _ _ _ _ _ _ _ _); ktf_call "o")
  | ktf_call "k" | fail "stuck")))
local macro_rules | `(tactic| ktf_call "kitb") => `(tactic| with_reducible first | exact kitb_NoneType_int | exact kitb_NoneType_bool | exact kitb_NoneType_str | exact kitb_NoneType_list | exact kitb_NoneType_tuple | exact kitb_NoneType_dict | exact kitb_bool_int | exact kitb_bool_bool | exact kitb_bool_str | exact kitb_bool_list | exact kitb_bool_tuple | exact kitb_bool_dict | exact kitb_int_int | exact kitb_int_bool | exact kitb_int_str | exact kitb_int_list | exact kitb_int_tuple | exact kitb_int_dict | exact kitb_str_int | exact kitb_str_bool | exact kitb_str_str | exact kitb_str_list | exact kitb_str_tuple | exact kitb_str_dict | exact kitb_list_int | exact kitb_list_bool | exact kitb_list_str | exact kitb_list_list | exact kitb_list_tuple | exact kitb_list_dict | exact kitb_tuple_int | exact kitb_tuple_bool | exact kitb_tuple_str | exact kitb_tuple_list | exact kitb_tuple_tuple | exact kitb_tuple_dict | exact kitb_dict_int | exact kitb_dict_bool | exact kitb_dict_str | exact kitb_dict_list | exact kitb_dict_tuple | exact kitb_dict_dict)
local macro_rules | `(tactic| ktf_call "tyr") => `(tactic| with_reducible first | exact TyR.int | exact TyR.bl | exact TyR.str | exact TyR.non | exact TyR.tup | ((refine' TyR.lst ?clv); (case clv => ktf_call "vl")))
local macro_rules | `(tactic| ktf_call "vo") => `(tactic| with_reducible first | exact VO.dat | ((refine' VO.own ?cv); (case cv => ktf_call "has")))
local macro_rules | `(tactic| ktf_call "e") => `(tactic| first
  | ((with_reducible show DE _ _ _ _ (.Call (.Name "isinstance" _) _ _ _) _); refine d_isi (by ktf_call "gl") (by ktf_call "mg") ?_)
  | ((with_reducible show DE _ _ _ _ (.Name "int" _) _); refine de_ty (T := "int") (by ktf_call "gl") (by ktf_call "mg") (by decide +kernel) ?_)
  | ((with_reducible show DE _ _ _ _ (.Name "bool" _) _); refine de_ty (T := "bool") (by ktf_call "gl") (by ktf_call "mg") (by decide +kernel) ?_)
  | ((with_reducible show DE _ _ _ _ (.Name "str" _) _); refine de_ty (T := "str") (by ktf_call "gl") (by ktf_call "mg") (by decide +kernel) ?_)
  | ((with_reducible show DE _ _ _ _ (.Name "list" _) _); refine de_ty (T := "list") (by ktf_call "gl") (by ktf_call "mg") (by decide +kernel) ?_)
  | ((with_reducible show DE _ _ _ _ (.Name "tuple" _) _); refine de_ty (T := "tuple") (by ktf_call "gl") (by ktf_call "mg") (by decide +kernel) ?_)
  | ((with_reducible show DE _ _ _ _ (.Name _ _) _); first | refine de_tupG (by assumption) (by assumption) ?_ | refine de_strG (by assumption) (by assumption) ?_ | refine de_intG (by assumption) (by assumption) ?_)
  | ((with_reducible show DE _ _ _ _ (.Attribute _ _ _) _); refine de_fld (by assumption) (by assumption) ?_)
  | ((with_reducible show DE _ _ _ _ (.Call (.Attribute _ "strip" _) _ _ _) _); refine d_stripC ?_)
  | ((with_reducible show DE _ _ _ _ (.Call (.Attribute _ _ _) (_ :: _) _ _) _); refine de_meth (by assumption) (by assumption) ?_ (hjk := by omega))
  | ((with_reducible show DE _ _ _ _ (.Call (.Attribute _ _ _) [] _ _) _); refine de_meth0 (by assumption) (by assumption) ?_ (hjk := by omega))
  | ((with_reducible show DE _ _ _ _ (.Call (.Name "min" _) [_, _] _ _) _); refine d_min2 (by assumption) (by ktf_call "gl") (by ktf_call "mg") ?_)
  | ((with_reducible show DE _ _ _ _ (.Call (.Name "max" _) [_, _] _ _) _); refine d_max2 (by assumption) (by ktf_call "gl") (by ktf_call "mg") ?_)
  | ((with_reducible show DE _ _ _ _ (.Call (.Name _ _) (_ :: _) (_ :: _) _) _); refine de_callK (by assumption) (by assumption) (by ktf_call "gl") ?_ (hjk := by omega))
  | ((with_reducible show DE _ _ _ _ (.Call (.Name _ _) (_ :: _) [] _) _); refine de_make (by assumption) (by assumption) (by ktf_call "gl") ?_ (hjk := by omega))
  | ((with_reducible show DE _ _ _ _ (.Call (.Name _ _) [] [] _) _); refine de_make0 (by assumption) (by assumption) (by ktf_call "gl") ?_ (hjk := by omega))
  | ((with_reducible show DE _ _ _ _ (.Dict [] [] _) _); refine d_new0 fun p => ?_))
local macro_rules | `(tactic| ktf_call "k") => `(tactic| first
  | ((with_reducible refine' Exists.intro _ (Exists.intro _ (Exists.intro _ (Exists.intro _ (And.intro rfl (And.intro ?ty (And.intro ?kb ?_))))))); (case ty => ktf_call "tyr"); (case kb => ktf_call "kitb"))
  | ((with_reducible show ∃ fs r, VO _ _ _ fs ∧ _); refine ⟨_, _, by ktf_call "vo", rfl, ?_⟩)
  | ((with_reducible show (∃ fs, VO _ _ _ fs ∧ _) ∧ _); refine ⟨⟨_, by ktf_call "vo", rfl⟩, ?_⟩)
  | ((with_reducible show DKw _ _ _ _ [] _); refine dk_nil ?_)
  | ((with_reducible show DKw _ _ _ _ (_ :: _) _); refine dk_cons ?_)
  | ((with_reducible show _ ≤ 1000000 ∧ DE _ _ _ _ _ _); refine ⟨by ktf_call "side", ?_⟩))
local macro_rules | `(tactic| ktf_call "s") => `(tactic| first
  | ((with_reducible show DS _ _ _ _ (.Raise _ _ _) _); refine ds_raise (by assumption) (by assumption) (by ktf_call "gl") ?_)
  | ((with_reducible show DS _ _ _ _ (.Assign [.Attribute _ _ _] _ _) _); refine ds_fld (by assumption) (by assumption) ?_)
  | ((with_reducible show DS _ _ _ _ (.Break _) _); refine ds_brk ?_)
  | ((with_reducible show DS _ _ _ _ (.Continue _) _); refine ds_cont ?_)
  | ((with_reducible show DS _ _ _ _ (.Pass _) _); refine ds_pass ?_))
local macro_rules | `(tactic| ktf_call "o") => `(tactic| ((with_reducible refine' o_ninS ?ca ?kk); (case ca => assumption)))
local macro_rules | `(tactic| ktf_call "t") => `(tactic| ((with_reducible show DT _ _ _ _ (.Compare _ [_, _] [_, _] _) _); first | refine dt_chainI L2.op_le L2.op_le ?_ | refine dt_chainI L2.op_lt L2.op_le ?_ | refine dt_chainI L2.op_le L2.op_lt ?_ | refine dt_chainI L2.op_lt L2.op_lt ?_))
local macro_rules | `(tactic| ktf_call "s") => `(tactic| ((with_reducible show DS _ _ _ _ (.Assign [.Subscript _ _ _] _ _) _); refine ds_setD (by assumption) ?_))
variable {P : Program} {w : World} {K : PySem.W.Frag} {mg : Str → Option Value} {base : Heap} {f : Addr} {fd : FuncData}
def spOwnPieces : Sp2 := fun rs m Kr Ke => ∃ (s : List Nat) (n : Nat), rs = [rS s, D2.rI (n : Int)] ∧ s.length ≤ 1000 ∧ NC.Abc s ∧ n ≤ 7 ∧ m = [] ∧ ∀ q l, IsPieces s n l → Kr (.own q) [(q, .lst (l.map rS))]
theorem sc__law_own_pieces : FnScope ["word", "most", "found", "letter", "piece", "names", "told", "size", "name"] ["word", "most"] (defScope (top 33)) := ⟨rfl, rfl, rfl, by decide +kernel, rfl, by decide +kernel, by decide +kernel⟩
theorem ok_ownPieces (F : FunD K "_law_own_pieces" "_law_own_pieces" (defArgs (top 33)) (defBody (top 33)) (defScope (top 33)) [] [] f fd) (m0_list : mg "list" = none) (m0_len : mg "len" = none) (m0_sorted : mg "sorted" = none) (m0_range : mg "range" = none) : FnOk P w K mg base (L2N.CX P w) (1) f fd ["word", "most"] (spOf K Pc.spOwnPieces) := by
  refine fn2 F sc__law_own_pieces (by decide +kernel) (fun rs m Kr Ke ⟨_, _, e, _⟩ => by rw [e]; rfl) fun X c rs m Kr Ke D L hx ⟨s, n, er, hs, ha', hn, em, hk⟩ => ?_
  subst er em
  have m_list : X.mg "list" = none := D.mg_ m0_list
  have m_len : X.mg "len" = none := D.mg_ m0_len
  have m_sorted : X.mg "sorted" = none := D.mg_ m0_sorted
  have m_range : X.mg "range" = none := D.mg_ m0_range
  have g_list : Gl X "list" := D.gl (by decide +kernel)
  have g_len : Gl X "len" := D.gl (by decide +kernel)
  have g_sorted : Gl X "sorted" := D.gl (by decide +kernel)
  have g_range : Gl X "range" := D.gl (by decide +kernel)
  have o_found : Own X "found" := D.own (by decide +kernel)
  have o_letter : Own X "letter" := D.own (by decide +kernel)
  have o_piece : Own X "piece" := D.own (by decide +kernel)
  have o_names : Own X "names" := D.own (by decide +kernel)
  have o_told : Own X "told" := D.own (by decide +kernel)
  have o_size : Own X "size" := D.own (by decide +kernel)
  refine dss_lo ?_
  show DSs X c [("word", some (rS s)), ("most", some (D2.rI (n : Int))), ("found", none), ("letter", none), ("piece", none), ("names", none), ("told", none), ("size", none), ("name", none)] [] (_ :: _) _
  have ha := abc_of ha'
  refine dss_cons ?_
  refine ds_asg o_found (by ktf_call "put") ?_
  refine d_disp1 fun p => ?_
  ktf_call "d2"
  refine ⟨_, _, .str, .here, ?_⟩
  ktf_call "d2"
  refine ds_for (ds := s.map fun ch => D2.D.str [ch]) (fun i σ m => σ = ([("word", some (rS s)), ("most", some (D2.rI (n : Int))), ("found", some (.own p)), ("letter", none), ("piece", none), ("names", none), ("told", none), ("size", none), ("name", none)] : Sl) ∧ ∃ ks, m = [(p, .dk (toK ks))] ∧ Keys (s.take i) n ks) L (it_str ?_) ?_ ?_
  · ktf_call "d2"
    exact ⟨rfl, rfl, [[]], rfl, keys0 n⟩
  · rintro i d σ' m' hd ⟨rfl, ks, rfl, hks⟩
    obtain ⟨hi, rfl⟩ := str_item hd
    have hfew := few7 (fun c hc => ha c ((List.take_sublist _ _).subset hc)) hn hks.1 fun x hx => (hks.2 x).mp hx
    refine dg_name o_letter (by ktf_call "put") ?_
    refine dss_lo ?_
    ktf_call "d2"
    refine ds_for (ds := ks.map D2.D.str) (fun j σ m => σ = ([("word", some (rS s)), ("most", some (D2.rI (n : Int))), ("found", some (.own p)), ("letter", some (rS [s[i]])), ("piece", none), ("names", none), ("told", none), ("size", none), ("name", none)] : Sl) ∧ ∃ ks', m = [(p, .dk (toK ks'))] ∧ Mid ks s[i] n j ks') L (it_list (d_listD L g_list m_list ?_)) ?_ ?_
    · ktf_call "d2"
      intro q
      rw [toK_R]
      exact ⟨_, _, .lst .here (frzs_rS _ ks), rfl, rfl, ks, rfl, mid0 hks⟩
    · rintro j d σ' m' hd ⟨rfl, ks', rfl, hm⟩
      obtain ⟨hj, rfl⟩ := NC.dstr_at hd
      refine dg_name o_piece (by ktf_call "put") ?_
      refine dss_lo ?_
      have hmf : ks'.length ≤ 3280 := few7 (w := s.take (i + 1)) (fun c hc => ha c ((List.take_sublist _ _).subset hc)) hn hm.1 fun x hx => by
        rw [take_snoc hi]
        rcases (hm.2 x).mp hx with h | ⟨y, hy, hl, rfl⟩
        · have := (hks.2 x).mp h
          exact ⟨this.1.trans (List.sublist_append_left _ _), this.2⟩
        · have := (hks.2 y).mp (List.mem_of_mem_take hy)
          exact ⟨this.1.append (List.Sublist.refl _), by simp; omega⟩
      have hlj : ks[j].length ≤ n := ((hks.2 _).mp (List.getElem_mem hj)).2
      ktf_call "d2"
      · rename_i h1
        refine ⟨_, _, _, _, rfl, .str, .here, by rw [toK_len]; omega, ?_⟩
        rw [putR_toK]
        refine dss_nil ?_
        refine dss_nil ?_
        exact ⟨_, _, by ktf_call "fog", List.Sublist.refl _, rfl, _, rfl, mid_yes hm hj (by omega)⟩
      · rename_i h1
        exact ⟨_, _, by ktf_call "fog", List.Sublist.refl _, rfl, ks', rfl, mid_no hm hj (by omega)⟩
    · rintro σ' m' ⟨rfl, ks', rfl, hm⟩
      rw [List.length_map] at hm
      refine dss_nil ?_
      have hke : Keys (s.take (i + 1)) n ks' := by
        rw [take_snoc hi]
        exact mid_end (w := ks) hks hm
      exact ⟨_, _, by ktf_call "fog", List.Sublist.refl _, rfl, ks', rfl, hke⟩
  · rintro σ' m' ⟨rfl, ks, rfl, hks⟩
    rw [List.length_map, List.take_length] at hks
    have hf := few7 ha hn hks.1 fun x hx => (hks.2 x).mp hx
    have hok := byLen_ok hks
    have hl0 : (ks.mergeSort (PySem.W.dataLe false sD)).length ≤ 3280 := by rw [List.length_mergeSort]; exact hf
    refine dss_cons ?_
    refine ds_asg o_names (by ktf_call "put") ?_
    refine d_sortedK L g_sorted m_sorted ?_
    refine de_name (by ktf_call "lk") ?_
    refine ⟨p, _, ks, _, rfl, .here, toK_keys ks, by omega, fun q => ?_⟩
    have hll : ∀ x ∈ ks.mergeSort (PySem.W.dataLe false sD), x.length ≤ 7 := fun x hx => by
      have := ((hks.2 x).mp (List.mem_mergeSort.mp hx)).2
      omega
    generalize ks.mergeSort (PySem.W.dataLe false sD) = l0 at hok hl0 hll
    refine dss_frzL (x := "names") (d := .lst (dS l0)) (m' := _) (by ktf_call "lk") (by ktf_call "put") (.lst .here (frzs_rS _ l0)) ?_
    ktf_call "d2"
    rename_i t0
    have hbl : ∀ k, (byLen l0 k).length ≤ k * 3280 := fun k => Nat.le_trans (NC.range_flat (b := 3280) _ _ fun i _ => Nat.le_trans (List.length_filter_le _ _) hl0) (Nat.le_refl _)
    refine ds_for (ds := ups 0 (n + 1)) (fun i σ m => ∃ t, σ = ([("word", some (rS s)), ("most", some (D2.rI (n : Int))), ("found", some (.own p)), ("letter", none), ("piece", none), ("names", some (.dat (.lst (dS l0)))), ("told", some (.own t)), ("size", none), ("name", none)] : Sl) ∧ m = [(t, .lst ((byLen l0 i).map rS)), (p, .dk (toK ks))]) L (it_rng1 (by assumption) (by assumption) ?_) ?_ ?_
    · ktf_call "d2"
      exact ⟨by omega, by omega, rfl, t0, rfl, rfl⟩
    · rintro i d σ' m' hd ⟨t, rfl, rfl⟩
      obtain ⟨hi, rfl⟩ := ups_at hd
      have hb := hbl i
      refine dg_name o_size (by ktf_call "put") ?_
      refine dss_lo ?_
      ktf_call "d2"
      refine de_lc (own := [("name", 8)]) (ds := dS l0) (fun j rs m => rs = ((l0.take j).filter fun x => decide (x.length = i)).map rS ∧ m = [(t, .lst ((byLen l0 i).map rS)), (p, .dk (toK ks))]) L (D.nd (by decide +kernel)) (blk_ok D (by decide +kernel)) (by decide +kernel) (by ktf_call "blk") (.name (by ktf_call "put") List.mem_cons_self) (it_list ?_) ?_ ?_ ?_
      · ktf_call "d2"
        exact ⟨_, _, .dat, rfl, rfl, rfl⟩
      · rintro j d rs m' hd2 ⟨rfl, rfl⟩
        obtain ⟨hj, rfl⟩ := dS_at hd2
        have h7 := hll _ (List.getElem_mem hj)
        refine turn1 fun Xb c' hX hL => ?_
        ktf_call "d2"
        · rename_i h1
          intro Xe hXe hLe
          ktf_call "d2"
          refine ⟨?_, rfl⟩
          rw [take_snoc hj, List.filter_append, List.map_append, List.filter_cons_of_pos (by simp; omega)]
          rfl
        · rename_i h1
          refine ⟨?_, rfl⟩
          rw [take_snoc hj, List.filter_append, List.filter_cons_of_neg (by simp; omega)]
          simp
      · rw [dS_len]; omega
      · rintro rs m' q3 ⟨rfl, rfl⟩
        rw [dS_len, List.take_length]
        ktf_call "d2"
        refine o_cat (.own (.there .here)) (.own .here) ?_ fun q4 => ?_
        · have := List.length_filter_le (fun x : List Nat => decide (x.length = i)) l0
          rw [List.length_map, List.length_map]
          have : i ≤ 8 := by omega
          omega
        · refine dss_nil ?_
          refine ⟨_, [(q4, .lst ((byLen l0 (i + 1)).map rS)), (p, .dk (toK ks))], by ktf_call "fog", ?_, q4, rfl, rfl⟩
          rw [byLen_succ, List.map_append]
          exact (((List.Sublist.refl _).cons _).cons _).cons_cons _
    · rintro σ' m' ⟨t, rfl, rfl⟩
      rw [ups_len]
      ktf_call "d2"
      exact ⟨_, (List.nil_sublist _).cons_cons _, hk _ _ hok⟩
end
end NC.Pc
/-! ## NR37c -/
set_option Elab.async false
set_option linter.all false
set_option maxRecDepth 100000
set_option maxHeartbeats 2000000
set_option pp.maxSteps 1500
/-! k37: a changed word, ends, same lists -/
namespace NC
open PySem PySem.Spec PyProof.Rows L2 D2 RK
local macro_rules | `(tactic| ktf_call "lk") => `(tactic| (with_reducible first | exact Lk.here | exact (Lk.there Lk.here) | exact (Lk.there (Lk.there Lk.here)) | exact (Lk.there (Lk.there (Lk.there Lk.here))) | exact (Lk.there (Lk.there (Lk.there (Lk.there Lk.here)))) | exact (Lk.there (Lk.there (Lk.there (Lk.there (Lk.there Lk.here))))) | exact (Lk.there (Lk.there (Lk.there (Lk.there (Lk.there (Lk.there Lk.here)))))) | exact (Lk.there (Lk.there (Lk.there (Lk.there (Lk.there (Lk.there (Lk.there Lk.here))))))) | exact (Lk.there (Lk.there (Lk.there (Lk.there (Lk.there (Lk.there (Lk.there (Lk.there Lk.here)))))))) | exact (Lk.there (Lk.there (Lk.there (Lk.there (Lk.there (Lk.there (Lk.there (Lk.there (Lk.there Lk.here))))))))) | exact (Lk.there (Lk.there (Lk.there (Lk.there (Lk.there (Lk.there (Lk.there (Lk.there (Lk.there (Lk.there Lk.here)))))))))) | exact (Lk.there (Lk.there (Lk.there (Lk.there (Lk.there (Lk.there (Lk.there (Lk.there (Lk.there (Lk.there (Lk.there Lk.here))))))))))) | exact (Lk.there (Lk.there (Lk.there (Lk.there (Lk.there (Lk.there (Lk.there (Lk.there (Lk.there (Lk.there (Lk.there (Lk.there Lk.here)))))))))))) | exact (Lk.there (Lk.there (Lk.there (Lk.there (Lk.there (Lk.there (Lk.there (Lk.there (Lk.there (Lk.there (Lk.there (Lk.there (Lk.there Lk.here))))))))))))) | fail "none"))
local macro_rules | `(tactic| ktf_call "put") => `(tactic| (with_reducible first | exact PutF.here | exact (PutF.there PutF.here) | exact (PutF.there (PutF.there PutF.here)) | exact (PutF.there (PutF.there (PutF.there PutF.here))) | exact (PutF.there (PutF.there (PutF.there (PutF.there PutF.here)))) | exact (PutF.there (PutF.there (PutF.there (PutF.there (PutF.there PutF.here))))) | exact (PutF.there (PutF.there (PutF.there (PutF.there (PutF.there (PutF.there PutF.here)))))) | exact (PutF.there (PutF.there (PutF.there (PutF.there (PutF.there (PutF.there (PutF.there PutF.here))))))) | exact (PutF.there (PutF.there (PutF.there (PutF.there (PutF.there (PutF.there (PutF.there (PutF.there PutF.here)))))))) | exact (PutF.there (PutF.there (PutF.there (PutF.there (PutF.there (PutF.there (PutF.there (PutF.there (PutF.there PutF.here))))))))) | exact (PutF.there (PutF.there (PutF.there (PutF.there (PutF.there (PutF.there (PutF.there (PutF.there (PutF.there (PutF.there PutF.here)))))))))) | exact (PutF.there (PutF.there (PutF.there (PutF.there (PutF.there (PutF.there (PutF.there (PutF.there (PutF.there (PutF.there (PutF.there PutF.here))))))))))) | exact (PutF.there (PutF.there (PutF.there (PutF.there (PutF.there (PutF.there (PutF.there (PutF.there (PutF.there (PutF.there (PutF.there (PutF.there PutF.here)))))))))))) | exact (PutF.there (PutF.there (PutF.there (PutF.there (PutF.there (PutF.there (PutF.there (PutF.there (PutF.there (PutF.there (PutF.there (PutF.there (PutF.there PutF.here))))))))))))) | fail "none"))
local macro_rules | `(tactic| ktf_call "has") => `(tactic| (with_reducible first | exact Has.here | exact (Has.there Has.here) | exact (Has.there (Has.there Has.here)) | exact (Has.there (Has.there (Has.there Has.here))) | exact (Has.there (Has.there (Has.there (Has.there Has.here)))) | exact (Has.there (Has.there (Has.there (Has.there (Has.there Has.here))))) | exact (Has.there (Has.there (Has.there (Has.there (Has.there (Has.there Has.here)))))) | exact (Has.there (Has.there (Has.there (Has.there (Has.there (Has.there (Has.there Has.here))))))) | fail "none"))
local macro_rules | `(tactic| ktf_call "chg") => `(tactic| (with_reducible first | exact Chg.here | exact (Chg.there Chg.here) | exact (Chg.there (Chg.there Chg.here)) | exact (Chg.there (Chg.there (Chg.there Chg.here))) | exact (Chg.there (Chg.there (Chg.there (Chg.there Chg.here)))) | exact (Chg.there (Chg.there (Chg.there (Chg.there (Chg.there Chg.here))))) | exact (Chg.there (Chg.there (Chg.there (Chg.there (Chg.there (Chg.there Chg.here)))))) | exact (Chg.there (Chg.there (Chg.there (Chg.there (Chg.there (Chg.there (Chg.there Chg.here))))))) | fail "none"))
local macro_rules | `(tactic| ktf_call "vl") => `(tactic| first | ((with_reducible refine' VL.own ?cv); (case cv => ktf_call "has")) | with_reducible exact VL.dat | fail "vl")
local macro_rules | `(tactic| ktf_call "vu") => `(tactic| ((with_reducible refine' VU.own ?cv); (case cv => ktf_call "has")))
local macro_rules | `(tactic| ktf_call "ati") => `(tactic| first | assumption | exact ati_l rfl | fail "ati")
local macro_rules | `(tactic| ktf_call "vi") => `(tactic| first | with_reducible exact vi_dat | ((with_reducible refine' vi_own ?cv); (case cv => ktf_call "has")) | ((with_reducible refine' vi_nil ?cv); (case cv => ktf_call "vl")) | fail "vi")
local macro_rules | `(tactic| ktf_call "vs") => `(tactic| first | with_reducible exact vs_dat | ((with_reducible refine' vs_own ?cv); (case cv => ktf_call "has")) | ((with_reducible refine' vs_nil ?cv); (case cv => ktf_call "vl")) | fail "vs")
local macro_rules | `(tactic| ktf_call "hyp") => `(tactic| simp only [decide_eq_true_eq, decide_eq_false_iff_not, Bool.not_eq_true', Bool.not_eq_false', Bool.not_true, Bool.not_false, Bool.true_eq_false, Bool.false_eq_true, Int.not_lt, Int.not_le] at *)
local macro_rules | `(tactic| ktf_call "side") => `(tactic| first | assumption | decide | omega | (simp only [List.length_cons, List.length_nil, List.length_map]; omega) | exact ⟨Int.emod_nonneg _ (by omega), Int.emod_lt_of_pos _ (by omega)⟩ | (decide +kernel) | (simp; done) | (simp; omega))
local macro_rules | `(tactic| ktf_call "cmul") => `(tactic| first | assumption | exact cm_l (by omega) (by omega) | exact cm_r (by omega) (by omega) | fail "cmul")
local macro_rules | `(tactic| ktf_call "cdiv") => `(tactic| first | assumption | exact ⟨by assumption, by assumption⟩ | exact cd_s (by omega) (by omega) | fail "cdiv")
local macro_rules | `(tactic| ktf_call "frz") => `(tactic| (repeat (first | exact Frz.dat | exact Frzs.nil | apply Frzs.cons | apply Frz.lst | exact Frzs.map _ _)))
local macro_rules | `(tactic| ktf_call "ln") => `(tactic| first | ((with_reducible refine' ln_I ?cv); (case cv => ktf_call "vi")) | ((with_reducible refine' ln_S ?cv); (case cv => ktf_call "vs")) | ((with_reducible refine' Ln.lst ?cv); (case cv => ktf_call "vl")) | ((with_reducible refine' Ln.str ?cv); (case cv => ktf_call "side")) | with_reducible exact Ln.tup | fail "ln")
local macro_rules | `(tactic| ktf_call "tym") => `(tactic| first | with_reducible exact TyM.str | with_reducible exact TyM.lst (by ktf_call "vl") | with_reducible exact TyM.int | with_reducible exact TyM.dk (by ktf_call "has"))
local macro_rules | `(tactic| ktf_call "gl") => `(tactic| first | assumption | exact Def.gl (by assumption) (by decide +kernel) | exact IsBlk.gl (by assumption) (by decide +kernel) | exact IsBlkH.gl (by assumption) (by decide +kernel) | fail "gl")
local macro_rules | `(tactic| ktf_call "mg") => `(tactic| first | assumption | exact Def.mg_ (by assumption) (by assumption) | exact IsBlk.mg (by assumption) (by ktf_call "mg") | exact IsBlkH.mg (by assumption) (by ktf_call "mg") | fail "mg")
local macro_rules | `(tactic| ktf_call "own") => `(tactic| first | assumption | exact Def.own (by assumption) (by decide +kernel) | fail "own")
local macro_rules | `(tactic| ktf_call "cal") => `(tactic| first | assumption | exact Def.callee (by assumption) (by assumption) | exact IsBlk.callee (by assumption) (by ktf_call "cal") | fail "cal")
local macro_rules | `(tactic| ktf_call "fog") => `(tactic| (repeat (first | with_reducible exact Fog.nil | with_reducible apply Fog.keep | with_reducible apply Fog.drop)))
local macro_rules | `(tactic| ktf_call "blk") => `(tactic| first | with_reducible exact Blk.nil | exact Blk.keep (by decide +kernel) (by ktf_call "blk") | exact Blk.drop (by ktf_call "blk"))
local macro_rules | `(tactic| ktf_call "sub") => `(tactic| (repeat (with_reducible first | exact List.Sublist.slnil | exact List.nil_sublist _ | exact sub_nil _ | apply List.Sublist.cons_cons | apply List.Sublist.cons)))
local macro_rules | `(tactic| ktf_call "ce") => `(tactic| fail "ce")
-- expressions
local macro_rules | `(tactic| ktf_call "e") => `(tactic| first
  | ((with_reducible show DE _ _ _ _ (.Name _ _) _); refine de_name (by ktf_call "lk") ?_)
  | ((with_reducible show DE _ _ _ _ (.Constant _ _ _) _); first | refine de_int ?_ | refine de_str ?_ | refine de_bl ?_ | refine de_non ?_)
  | ((with_reducible show DE _ _ _ _ (.BinOp _ _ _ _) _); refine de_bin ?_)
  | ((with_reducible show DE _ _ _ _ (.Subscript _ (.Slice _ _ none _) _) _); refine d_slice ?_)
  | ((with_reducible show DE _ _ _ _ (.Subscript _ _ _) _); refine de_ix ?_)
  | ((with_reducible show DE _ _ _ _ (.Call (.Name _ _) _ _ _) _); first
      | ((with_reducible show DE _ _ _ _ (.Call (.Name "len" _) _ _ _) _); refine d_len (by ktf_call "gl") (by ktf_call "mg") ?_)
      | ((with_reducible show DE _ _ _ _ (.Call (.Name "int" _) _ _ _) _); refine d_int (by ktf_call "gl") (by ktf_call "mg") ?_)
      | ((with_reducible show DE _ _ _ _ (.Call (.Name "abs" _) _ _ _) _); refine d_abs (by ktf_call "gl") (by ktf_call "mg") ?_)
      | ktf_call "ce"
      | refine de_call (by ktf_call "cal") (by assumption) (by ktf_call "gl") ?_ (hjk := by omega))
  | ((with_reducible show DE _ _ _ _ (.Call (.Attribute _ "join" _) _ _ _) _); refine d_join ?_)
  | ((with_reducible show DE _ _ _ _ (.Call (.Attribute _ "append" _) _ _ _) _); refine d_appendL ?_)
  | ((with_reducible show DE _ _ _ _ (.Call (.Attribute _ "extend" _) _ _ _) _); refine d_extendL ?_)
  | ((with_reducible show DE _ _ _ _ (.Call (.Attribute _ "find" _) [_, _] _ _) _); refine d_find3 ?_)
  | ((with_reducible show DE _ _ _ _ (.Compare _ [_] [_] _) _); refine de_cmp ?_)
  | ((with_reducible show DE _ _ _ _ (.BoolOp _ [_] _) _); refine de_bo1 ?_)
  | ((with_reducible show DE _ _ _ _ (.BoolOp .And _ _) _); refine de_and ?_)
  | ((with_reducible show DE _ _ _ _ (.BoolOp .Or _ _) _); refine de_or ?_)
  | ((with_reducible show DE _ _ _ _ (.UnaryOp .Not _ _) _); refine de_not ?_)
  | ((with_reducible show DE _ _ _ _ (.UnaryOp _ _ _) _); refine de_un ?_)
  | ((with_reducible show DE _ _ _ _ (.List _ _) _); refine de_lst ?_)
  | ((with_reducible show DE _ _ _ _ (.Tuple _ _ _) _); refine de_tup ?_)
  | ((with_reducible show DE _ _ _ _ (.IfExp _ _ _ _) _); refine de_if ?_))
local macro_rules | `(tactic| ktf_call "o") => `(tactic| first
  | ((with_reducible show OP _ _ _ _ (binaryOp _) _ _ _); first
    | ((with_reducible refine' o_add  ?kk))
    | ((with_reducible refine' o_addS ?ca ?kk); (case ca => ktf_call "side"))
    | ((with_reducible refine' o_cat ?ca ?cb ?cd (fun p => ?kk)); (case ca => ktf_call "vu"); (case cb => ktf_call "vu"); (case cd => ktf_call "side"))
    | ((with_reducible refine' o_sub  ?kk))
    | ((with_reducible refine' o_mulS ?ca ?kk); (case ca => ktf_call "cmul"))
    | ((with_reducible refine' o_mul ?ca ?kk); (case ca => assumption))
    | ((with_reducible refine' o_div ?ca ?kk); (case ca => ktf_call "cdiv"))
    | ((with_reducible refine' o_mod ?ca ?kk); (case ca => (first | assumption | omega | decide)))
    | ((with_reducible refine' o_pow ?ca ?kk); (case ca => decide))
    | fail "o")
  | ((with_reducible show OP _ _ _ _ (compareOp _) _ _ _); first
    | ((with_reducible refine' o_lt  ?kk))
    | ((with_reducible refine' o_le  ?kk))
    | ((with_reducible refine' o_gt  ?kk))
    | ((with_reducible refine' o_ge  ?kk))
    | ((with_reducible refine' o_eqI  ?kk))
    | ((with_reducible refine' o_eqS  ?kk))
    | ((with_reducible refine' o_eqB  ?kk))
    | ((with_reducible refine' o_eqLI ?ca ?cb ?cd ?kk); (case ca => assumption); (case cb => ktf_call "vi"); (case cd => ktf_call "vi"))
    | ((with_reducible refine' o_eqLS ?ca ?cb ?cd ?kk); (case ca => assumption); (case cb => ktf_call "vs"); (case cd => ktf_call "vs"))
    | ((with_reducible refine' o_neI  ?kk))
    | ((with_reducible refine' o_neS  ?kk))
    | ((with_reducible refine' o_neLI ?ca ?cb ?cd ?kk); (case ca => assumption); (case cb => ktf_call "vi"); (case cd => ktf_call "vi"))
    | ((with_reducible refine' o_neLS ?ca ?cb ?cd ?kk); (case ca => assumption); (case cb => ktf_call "vs"); (case cd => ktf_call "vs"))
    | ((with_reducible refine' o_isB  ?kk))
    | fail "o")
  | ((with_reducible refine' u_neg  ?kk))
  | ((with_reducible refine' x_I ?ca ?cb ?kk); (case ca => ktf_call "vi"); (case cb => ktf_call "side"))
  | ((with_reducible refine' x_S ?ca ?cb ?kk); (case ca => ktf_call "vs"); (case cb => ktf_call "side"))
  | ((with_reducible refine' x_B ?ca ?cb ?kk); (case ca => ((with_reducible refine' vb_own ?cv); (case cv => ktf_call "has"))); (case cb => ktf_call "side"))
  | ((with_reducible refine' x_ch ?ca ?cb ?kk); (case ca => ktf_call "side"); (case cb => ktf_call "side"))
  | ((with_reducible refine' x_lst ?ca ?cb ?kk); (case ca => ktf_call "vl"); (case cb => ktf_call "ati"))
  | ((with_reducible refine' x_tup ?ca ?kk); (case ca => ktf_call "ati"))
  | ((with_reducible refine' x_str ?ca ?cb ?kk); (case ca => ktf_call "side"); (case cb => ktf_call "ati"))
  | ((with_reducible refine' s_lst ?ca (fun p => ?kk)); (case ca => ktf_call "vl"))
  | ((with_reducible refine' s_str ?ca ?kk); (case ca => ktf_call "side"))
  | fail "o")
local macro_rules | `(tactic| ktf_call "t") => `(tactic| first
  | ((with_reducible show DT _ _ _ _ (.Compare _ [_] [_] _) _); refine dt_cmp ?_)
  | ((with_reducible show DT _ _ _ _ (.BoolOp _ _ _) _); refine dt_bool ?_)
  | ((with_reducible show DT _ _ _ _ (.UnaryOp .Not _ _) _); refine dt_not ?_)
  | ((with_reducible show DT _ _ _ _ _ _); refine dt_val ?_)
  | ((with_reducible show DW _ _ _ _ (.BoolOp .And [_] _) _); refine dw_and1 ?_)
  | ((with_reducible show DW _ _ _ _ (.BoolOp .Or [_] _) _); refine dw_or1 ?_)
  | ((with_reducible show DW _ _ _ _ (.BoolOp .And _ _) _); refine dw_and ?_)
  | ((with_reducible show DW _ _ _ _ (.BoolOp .Or _ _) _); refine dw_or ?_))
local macro_rules | `(tactic| ktf_call "s") => `(tactic| first
  | ((with_reducible show DSs _ _ _ _ (List.drop _ _) _); first | refine dss_at rfl ?_ | refine dss_end rfl ?_)
  | ((with_reducible show DSs _ _ _ _ (_ :: _) _); refine dss_cons ?_)
  | ((with_reducible show DSs _ _ _ _ [] _); refine dss_nil ?_)
  | ((with_reducible show DS _ _ _ _ (.If _ _ _ _) _); refine ds_if ?_)
  | ((with_reducible show DS _ _ _ _ (.Return (some _) _) _); refine ds_ret ?_)
  | ((with_reducible show DS _ _ _ _ (.Assign [.Name _ _] _ _) _); refine ds_asg (by ktf_call "own") (by ktf_call "put") ?_)
  | ((with_reducible show DS _ _ _ _ (.Assign [.Subscript _ _ _] _ _) _); refine ds_setL ?_)
  | ((with_reducible show DS _ _ _ _ (.Expr _ _) _); refine ds_expr ?_)
  | ((with_reducible show DS _ _ _ _ (.AugAssign (.Name _ _) .Add _ _) _); refine ds_augI ip_add (by ktf_call "own") (by ktf_call "lk") (by ktf_call "put") ?_)
  | ((with_reducible show DS _ _ _ _ (.AugAssign (.Name _ _) .Sub _ _) _); refine ds_augI ip_sub (by ktf_call "own") (by ktf_call "lk") (by ktf_call "put") ?_)
  | fail "s")
local macro_rules | `(tactic| ktf_call "k") => `(tactic| first
  | ((with_reducible show DA _ _ _ _ [] _); refine da_nil ?_)
  | ((with_reducible show DA _ _ _ _ (_ :: _) _); refine da_cons ?_)
  | ((with_reducible show DO _ _ _ _ none _); refine do_none ?_)
  | ((with_reducible show DO _ _ _ _ (some _) _); refine do_some ?_)
  | ((with_reducible show KB _ _ _); refine kb ?_)
  | ((with_reducible show (_ = true → _) ∧ (_ = false → _)); refine ⟨fun hyp => ?_, fun hyp => ?_⟩ <;> (try simp only [decide_eq_true_eq, decide_eq_false_iff_not, Bool.not_eq_true', Bool.not_eq_false', Bool.not_true, Bool.not_false, Bool.true_eq_false, Bool.false_eq_true, Int.not_lt, Int.not_le, nil_len, Nat.pos_iff_ne_zero.symm] at hyp))
  | ((with_reducible show (_ = false → _) ∧ (_ = true → _)); refine ⟨fun hyp => ?_, fun hyp => ?_⟩ <;> (try simp only [decide_eq_true_eq, decide_eq_false_iff_not, Bool.not_eq_true', Bool.not_eq_false', Bool.not_true, Bool.not_false, Bool.true_eq_false, Bool.false_eq_true, Int.not_lt, Int.not_le, nil_len, Nat.pos_iff_ne_zero.symm] at hyp))
  | ((with_reducible show ∃ d, rB _ = rB d ∧ _); refine ⟨_, rfl, ?_⟩)
  | ((with_reducible show ∃ d, D2.rI _ = D2.rI d ∧ _); refine ⟨_, rfl, ?_⟩)
  | ((with_reducible show ∃ n, Ln _ _ n ∧ _); refine ⟨_, by ktf_call "ln", ?_⟩)
  | ((with_reducible refine' Exists.intro _ (Exists.intro _ (Exists.intro _ (Exists.intro _ (Exists.intro _ (And.intro rfl (And.intro rfl (And.intro ?ch (And.intro ?ix ?_))))))))); (case ch => ktf_call "chg"); (case ix => first | exact ixN_ok (by ktf_call "side") (by ktf_call "side") | exact rfl))
  | ((with_reducible show rS _ = rS [] ∧ _); refine ⟨rfl, ?_⟩)
  | ((with_reducible show ∃ s, rS _ = rS s ∧ _); refine ⟨_, rfl, ?_⟩)
  | ((with_reducible refine' Exists.intro _ (Exists.intro _ (Exists.intro _ (And.intro rfl (And.intro ?ch ?_))))); (case ch => ktf_call "has"))
  | ((with_reducible refine' Exists.intro _ (Exists.intro _ (And.intro ?ch (And.intro ?cl ?_)))); (case ch => ktf_call "chg"); (case cl => ktf_call "side"))
  | ((with_reducible refine' Exists.intro _ (Exists.intro _ (Exists.intro _ (And.intro ?ch (And.intro ?cu (And.intro ?cl ?_)))))); (case ch => ktf_call "chg"); (case cu => ktf_call "vu"); (case cl => ktf_call "side"))
  | ((with_reducible show _ ≤ 1000000 ∧ _); first | refine ⟨by ktf_call "side", fun p => ?_⟩ | refine ⟨by ktf_call "side", _, _, by ktf_call "frz", ?_⟩)
  | ktf_call "sp"
  | fail "k")
local macro_rules | `(tactic| ktf_call "d2") => `(tactic| (repeat' (first
  | ((with_reducible show DE _ _ _ _ _ _); ktf_call "e")
  | ((with_reducible show OP _ _ _ _ _ _ _ _); ktf_call "o")
  | ((with_reducible show IX _ _ _ _ _ _ _ _ _); ktf_call "o")
  | ((with_reducible show DT _ _ _ _ _ _); ktf_call "t")
  | ((with_reducible show DW _ _ _ _ _ _); ktf_call "t")
  | ((with_reducible show DA _ _ _ _ _ _); ktf_call "k")
  | ((with_reducible show DS _ _ _ _ _ _); ktf_call "s")
  | ((with_reducible show DSs _ _ _ _ _ _); ktf_call "s")
  | ((with_reducible show UP _ _ _ _ _ _ _); ktf_call "o")
  | ((with_reducible show SlK _ _ _ _ _ _ _ _); ktf_call "o")
  | ktf_call "k" | fail "stuck")))
local macro_rules | `(tactic| ktf_call "kitb") => `(tactic| with_reducible first | exact kitb_NoneType_int | exact kitb_NoneType_bool | exact kitb_NoneType_str | exact kitb_NoneType_list | exact kitb_NoneType_tuple | exact kitb_NoneType_dict | exact kitb_bool_int | exact kitb_bool_bool | exact kitb_bool_str | exact kitb_bool_list | exact kitb_bool_tuple | exact kitb_bool_dict | exact kitb_int_int | exact kitb_int_bool | exact kitb_int_str | exact kitb_int_list | exact kitb_int_tuple | exact kitb_int_dict | exact kitb_str_int | exact kitb_str_bool | exact kitb_str_str | exact kitb_str_list | exact kitb_str_tuple | exact kitb_str_dict | exact kitb_list_int | exact kitb_list_bool | exact kitb_list_str | exact kitb_list_list | exact kitb_list_tuple | exact kitb_list_dict | exact kitb_tuple_int | exact kitb_tuple_bool | exact kitb_tuple_str | exact kitb_tuple_list | exact kitb_tuple_tuple | exact kitb_tuple_dict | exact kitb_dict_int | exact kitb_dict_bool | exact kitb_dict_str | exact kitb_dict_list | exact kitb_dict_tuple | exact kitb_dict_dict)
local macro_rules | `(tactic| ktf_call "tyr") => `(tactic| with_reducible first | exact TyR.int | exact TyR.bl | exact TyR.str | exact TyR.non | exact TyR.tup | ((refine' TyR.lst ?clv); (case clv => ktf_call "vl")))
local macro_rules | `(tactic| ktf_call "vo") => `(tactic| with_reducible first | exact VO.dat | ((refine' VO.own ?cv); (case cv => ktf_call "has")))
local macro_rules | `(tactic| ktf_call "e") => `(tactic| first
  | ((with_reducible show DE _ _ _ _ (.Call (.Name "isinstance" _) _ _ _) _); refine d_isi (by ktf_call "gl") (by ktf_call "mg") ?_)
  | ((with_reducible show DE _ _ _ _ (.Name "int" _) _); refine de_ty (T := "int") (by ktf_call "gl") (by ktf_call "mg") (by decide +kernel) ?_)
  | ((with_reducible show DE _ _ _ _ (.Name "bool" _) _); refine de_ty (T := "bool") (by ktf_call "gl") (by ktf_call "mg") (by decide +kernel) ?_)
  | ((with_reducible show DE _ _ _ _ (.Name "str" _) _); refine de_ty (T := "str") (by ktf_call "gl") (by ktf_call "mg") (by decide +kernel) ?_)
  | ((with_reducible show DE _ _ _ _ (.Name "list" _) _); refine de_ty (T := "list") (by ktf_call "gl") (by ktf_call "mg") (by decide +kernel) ?_)
  | ((with_reducible show DE _ _ _ _ (.Name "tuple" _) _); refine de_ty (T := "tuple") (by ktf_call "gl") (by ktf_call "mg") (by decide +kernel) ?_)
  | ((with_reducible show DE _ _ _ _ (.Name _ _) _); first | refine de_tupG (by assumption) (by assumption) ?_ | refine de_strG (by assumption) (by assumption) ?_ | refine de_intG (by assumption) (by assumption) ?_)
  | ((with_reducible show DE _ _ _ _ (.Attribute _ _ _) _); refine de_fld (by assumption) (by assumption) ?_)
  | ((with_reducible show DE _ _ _ _ (.Call (.Attribute _ "strip" _) _ _ _) _); refine d_stripC ?_)
  | ((with_reducible show DE _ _ _ _ (.Call (.Attribute _ _ _) (_ :: _) _ _) _); refine de_meth (by assumption) (by assumption) ?_ (hjk := by omega))
  | ((with_reducible show DE _ _ _ _ (.Call (.Attribute _ _ _) [] _ _) _); refine de_meth0 (by assumption) (by assumption) ?_ (hjk := by omega))
  | ((with_reducible show DE _ _ _ _ (.Call (.Name "min" _) [_, _] _ _) _); refine d_min2 (by assumption) (by ktf_call "gl") (by ktf_call "mg") ?_)
  | ((with_reducible show DE _ _ _ _ (.Call (.Name "max" _) [_, _] _ _) _); refine d_max2 (by assumption) (by ktf_call "gl") (by ktf_call "mg") ?_)
  | ((with_reducible show DE _ _ _ _ (.Call (.Name _ _) (_ :: _) (_ :: _) _) _); refine de_callK (by assumption) (by assumption) (by ktf_call "gl") ?_ (hjk := by omega))
  | ((with_reducible show DE _ _ _ _ (.Call (.Name _ _) (_ :: _) [] _) _); refine de_make (by assumption) (by assumption) (by ktf_call "gl") ?_ (hjk := by omega))
  | ((with_reducible show DE _ _ _ _ (.Call (.Name _ _) [] [] _) _); refine de_make0 (by assumption) (by assumption) (by ktf_call "gl") ?_ (hjk := by omega))
  | ((with_reducible show DE _ _ _ _ (.Dict [] [] _) _); refine d_new0 fun p => ?_))
local macro_rules | `(tactic| ktf_call "k") => `(tactic| first
  | ((with_reducible refine' Exists.intro _ (Exists.intro _ (Exists.intro _ (Exists.intro _ (And.intro rfl (And.intro ?ty (And.intro ?kb ?_))))))); (case ty => ktf_call "tyr"); (case kb => ktf_call "kitb"))
  | ((with_reducible show ∃ fs r, VO _ _ _ fs ∧ _); refine ⟨_, _, by ktf_call "vo", rfl, ?_⟩)
  | ((with_reducible show (∃ fs, VO _ _ _ fs ∧ _) ∧ _); refine ⟨⟨_, by ktf_call "vo", rfl⟩, ?_⟩)
  | ((with_reducible show DKw _ _ _ _ [] _); refine dk_nil ?_)
  | ((with_reducible show DKw _ _ _ _ (_ :: _) _); refine dk_cons ?_)
  | ((with_reducible show _ ≤ 1000000 ∧ DE _ _ _ _ _ _); refine ⟨by ktf_call "side", ?_⟩))
local macro_rules | `(tactic| ktf_call "s") => `(tactic| first
  | ((with_reducible show DS _ _ _ _ (.Raise _ _ _) _); refine ds_raise (by assumption) (by assumption) (by ktf_call "gl") ?_)
  | ((with_reducible show DS _ _ _ _ (.Assign [.Attribute _ _ _] _ _) _); refine ds_fld (by assumption) (by assumption) ?_)
  | ((with_reducible show DS _ _ _ _ (.Break _) _); refine ds_brk ?_)
  | ((with_reducible show DS _ _ _ _ (.Continue _) _); refine ds_cont ?_)
  | ((with_reducible show DS _ _ _ _ (.Pass _) _); refine ds_pass ?_))
local macro_rules | `(tactic| ktf_call "o") => `(tactic| ((with_reducible refine' o_ninS ?ca ?kk); (case ca => assumption)))
local macro_rules | `(tactic| ktf_call "t") => `(tactic| ((with_reducible show DT _ _ _ _ (.Compare _ [_, _] [_, _] _) _); first | refine dt_chainI L2.op_le L2.op_le ?_ | refine dt_chainI L2.op_lt L2.op_le ?_ | refine dt_chainI L2.op_le L2.op_lt ?_ | refine dt_chainI L2.op_lt L2.op_lt ?_))
local macro_rules | `(tactic| ktf_call "sp") => `(tactic| ((with_reducible refine' sp_draw ?hs ?ho ?h0 ?h1 (fun d o' _ _ _ => ?kk)); (case hs => ktf_call "has"); (case ho => ktf_call "side"); (case h0 => ktf_call "side"); (case h1 => ktf_call "side"); (case' kk => dsimp only [List.nil_append, List.cons_append])))
local macro_rules | `(tactic| ktf_call "side") => `(tactic| exact log_small (by omega) (by omega))
theorem cutL_len (s : List Nat) (lo hi : Option Int) : (cutL s lo hi).length ≤ s.length := by
  unfold cutL
  rw [List.length_take, List.length_drop]
  omega
section
variable {P : Program} {w : World} {K : PySem.W.Frag} {mg : Str → Option Value} {base : Heap} {f : Addr} {fd : FuncData}
def spChanged : Sp2 := fun rs m Kr Ke => ∃ (p : Addr) (o : O) (l s : List Nat), rs = [.own p, rS l, rS s] ∧ m = [(p, o)] ∧ Pl o ∧ (0 < l.length ∧ l.length ≤ 100) ∧ s.length ≤ 100 ∧ InL l s ∧ ∀ t o', t.length ≤ 2 * s.length + 1 → InL l t → Pl o' → Kr (rS t) [(p, o')]
theorem sc__law_changed : FnScope ["pool", "letters", "word", "place", "way", "letter"] ["pool", "letters", "word"] (defScope (top 30)) := ⟨rfl, rfl, rfl, by decide +kernel, rfl, by decide +kernel, by decide +kernel⟩
theorem ok_changed (F : FunD K "_law_changed" "_law_changed" (defArgs (top 30)) (defBody (top 30)) (defScope (top 30)) [] [] f fd) (c__law_draw : CalleeG P w K mg base "_law_draw" 2 spDraw) (m0_len : mg "len" = none) : FnOk P w K mg base (L2N.CX P w) (3) f fd ["pool", "letters", "word"] (spOf K spChanged) := by
  refine fn2 F sc__law_changed (by decide +kernel) (fun rs m Kr Ke ⟨_, _, _, _, e, _⟩ => by rw [e]; rfl) fun X c rs m Kr Ke D L hx ⟨p, o, l, s, er, em, ho, ⟨hl0, hl3⟩, hs, hi, hk⟩ => ?_
  subst er em
  have e__law_draw : Callee X "_law_draw" 2 spDraw := D.callee c__law_draw
  have m_len : X.mg "len" = none := D.mg_ m0_len
  have g__law_draw : Gl X "_law_draw" := D.gl (by decide +kernel)
  have g_len : Gl X "len" := D.gl (by decide +kernel)
  have o_place : Own X "place" := D.own (by decide +kernel)
  have o_way : Own X "way" := D.own (by decide +kernel)
  have o_letter : Own X "letter" := D.own (by decide +kernel)
  refine dss_lo ?_
  show DSs X c [("pool", some (.own p)), ("letters", some (rS l)), ("word", some (rS s)), ("place", none), ("way", none), ("letter", none)] [(p, o)] (_ :: _) _
  have hcl := fun a b => cutL_len s a b
  ktf_call "d2"
  · rename_i d1 o1 _ _ _ d2 o2 _ _ _ d3 o3 _ _ _ _
    have h1 := hcl none (some d1)
    have h2 := hcl (some d1) none
    have h3 : InL l [l.getD d3.toNat 0] := inl_one (by omega)
    refine o_addS (by first | omega | (simp; omega)) ?_
    ktf_call "d2"
    exact ⟨_, List.Sublist.refl _, hk _ _ (by simp; omega) (inl_app (inl_app (inl_cut hi) h3) (inl_cut hi)) (by assumption)⟩
  · rename_i d1 o1 _ _ _ d2 o2 _ _ _ d3 o3 _ _ _ _ _
    have h1 := hcl none (some d1)
    have h2 := hcl (some (d1 + 1)) none
    have h3 : InL l [l.getD d3.toNat 0] := inl_one (by omega)
    refine o_addS (by first | omega | (simp; omega)) ?_
    ktf_call "d2"
    exact ⟨_, List.Sublist.refl _, hk _ _ (by simp; omega) (inl_app (inl_app (inl_cut hi) h3) (inl_cut hi)) (by assumption)⟩
  · rename_i d1 o1 _ _ _ d2 o2 _ _ _ d3 o3 _ _ _ _ _
    have h1 := hcl none (some d1)
    have h2 := hcl (some (d1 + 1)) none
    refine o_addS (by omega) ?_
    exact ⟨_, List.Sublist.refl _, hk _ _ (by simp; omega) (inl_app (inl_cut hi) (inl_cut hi)) (by assumption)⟩
def spEnds : Sp2 := fun rs m Kr Ke => ∃ (u v : List Nat) (n : Nat), rs = [rS u, rS v, D2.rI (n : Int)] ∧ (u.length ≤ 100 ∧ v.length ≤ 100) ∧ n ≤ 8 ∧ A n u v ∧ m = [] ∧ Kr (rB true) []
theorem sc__law_ends : FnScope ["first", "second", "level", "many", "low", "high"] ["first", "second", "level"] (defScope (top 34)) := ⟨rfl, rfl, rfl, by decide +kernel, rfl, by decide +kernel, by decide +kernel⟩
theorem ok_ends (F : FunD K "_law_ends" "_law_ends" (defArgs (top 34)) (defBody (top 34)) (defScope (top 34)) [] [] f fd) (m0_len : mg "len" = none) : FnOk P w K mg base (L2N.CX P w) (1) f fd ["first", "second", "level"] (spOf K spEnds) := by
  refine fn2 F sc__law_ends (by decide +kernel) (fun rs m Kr Ke ⟨_, _, _, e, _⟩ => by rw [e]; rfl) fun X c rs m Kr Ke D L hx ⟨u, v, n, er, ⟨hu, hv⟩, hn, hA, em, hk⟩ => ?_
  subst er em
  have m_len : X.mg "len" = none := D.mg_ m0_len
  have g_len : Gl X "len" := D.gl (by decide +kernel)
  have o_many : Own X "many" := D.own (by decide +kernel)
  have o_low : Own X "low" := D.own (by decide +kernel)
  have o_high : Own X "high" := D.own (by decide +kernel)
  refine dss_lo ?_
  show DSs X c [("first", some (rS u)), ("second", some (rS v)), ("level", some (D2.rI (n : Int))), ("many", none), ("low", none), ("high", none)] [] (_ :: _) _
  ktf_call "d2"
  · exact ⟨_, List.Sublist.refl _, hk⟩
  · rename_i h0 hne
    obtain ⟨r, rfl⟩ : ∃ r, n = r + 1 := ⟨n - 1, by omega⟩
    obtain ⟨e1, e2, e3, e4⟩ := hA.ends hne
    have hp : 0 < 2 ^ r := Nat.two_pow_pos r
    rw [show (((r + 1 : Nat) : Int) - 1) = ((r : Nat) : Int) by omega]
    refine o_shl1 (by omega) ?_
    have e5 : (((2 ^ r : Nat) : Int) - 1) = ((2 ^ r - 1 : Nat) : Int) := by omega
    have e6 : ((u.length : Int) - ((2 ^ r - 1 : Nat) : Int)) = ((u.length - (2 ^ r - 1) : Nat) : Int) := by omega
    have e7 : ((v.length : Int) - ((2 ^ r - 1 : Nat) : Int)) = ((v.length - (2 ^ r - 1) : Nat) : Int) := by omega
    ktf_call "d2"
    · omega
    · rw [e5, e6, e7, cut_from, cut_from, e4, decide_eq_true rfl]
      exact ⟨_, List.Sublist.refl _, hk⟩
    · rename_i h
      rw [e5, cut_to, cut_to] at h
      exact absurd e3 h
    · omega
  · exact ⟨_, List.Sublist.refl _, hk⟩
def spSameList : Sp2 := fun rs m Kr Ke => ∃ (p q : Addr) (l : List (List Nat)), rs = [.own p, .own q] ∧ m = [(p, .lst (l.map rS)), (q, .lst (l.map rS))] ∧ l.length ≤ 100000 ∧ (∀ x ∈ l, x.length ≤ 100000) ∧ Kr (rB true) m
theorem sc__law_same_list : FnScope ["told", "due", "k"] ["told", "due"] (defScope (top 36)) := ⟨rfl, rfl, rfl, by decide +kernel, rfl, by decide +kernel, by decide +kernel⟩
theorem ok_sameList (F : FunD K "_law_same_list" "_law_same_list" (defArgs (top 36)) (defBody (top 36)) (defScope (top 36)) [] [] f fd) (m0_isinstance : mg "isinstance" = none) (m0_list : mg "list" = none) (m0_len : mg "len" = none) (m0_range : mg "range" = none) (m0_str : mg "str" = none) : FnOk P w K mg base (L2N.CX P w) (1) f fd ["told", "due"] (spOf K spSameList) := by
  refine fn2 F sc__law_same_list (by decide +kernel) (fun rs m Kr Ke ⟨_, _, _, e, _⟩ => by rw [e]; rfl) fun X c rs m Kr Ke D L hx ⟨p, q, l, er, em, hl, hx', hk⟩ => ?_
  subst er em
  have m_isinstance : X.mg "isinstance" = none := D.mg_ m0_isinstance
  have m_list : X.mg "list" = none := D.mg_ m0_list
  have m_len : X.mg "len" = none := D.mg_ m0_len
  have m_range : X.mg "range" = none := D.mg_ m0_range
  have m_str : X.mg "str" = none := D.mg_ m0_str
  have g_isinstance : Gl X "isinstance" := D.gl (by decide +kernel)
  have g_list : Gl X "list" := D.gl (by decide +kernel)
  have g_len : Gl X "len" := D.gl (by decide +kernel)
  have g_range : Gl X "range" := D.gl (by decide +kernel)
  have g_str : Gl X "str" := D.gl (by decide +kernel)
  have o_k : Own X "k" := D.own (by decide +kernel)
  refine dss_lo ?_
  show DSs X c [("told", some (.own p)), ("due", some (.own q)), ("k", none)] [(p, .lst (l.map rS)), (q, .lst (l.map rS))] (_ :: _) _
  ktf_call "d2"
  · rename_i h; exact absurd trivial h
  · refine ds_for (ds := ups 0 l.length) (fun i σ m => σ = ([("told", some (.own p)), ("due", some (.own q)), ("k", none)] : Sl) ∧ m = [(p, .lst (l.map rS)), (q, .lst (l.map rS))]) L (it_rng1 (by assumption) (by assumption) ?_) ?_ ?_
    · ktf_call "d2"
      exact ⟨by omega, by omega, rfl, rfl, rfl⟩
    · rintro i d σ' m' hd ⟨rfl, rfl⟩
      obtain ⟨hi, rfl⟩ := ups_at hd
      rw [show (0 : Int) + (i : Int) = (i : Int) by omega]
      refine dg_name o_k (by ktf_call "put") ?_
      refine dss_lo ?_
      ktf_call "d2"
      · rename_i h; exact absurd trivial h
      · exact ⟨_, _, by ktf_call "fog", List.Sublist.refl _, rfl, rfl⟩
    · rintro σ' m' ⟨rfl, rfl⟩
      ktf_call "d2"
      exact ⟨_, List.Sublist.refl _, hk⟩
end
end NC
/-! ## NR37d -/
set_option Elab.async false
set_option linter.all false
set_option maxRecDepth 100000
set_option maxHeartbeats 2000000
set_option pp.maxSteps 1500
/-! k37: what words that are alike share -/
namespace NC
open PySem PySem.Spec PyProof.Rows L2 D2 RK
local macro_rules | `(tactic| ktf_call "lk") => `(tactic| (with_reducible first | exact Lk.here | exact (Lk.there Lk.here) | exact (Lk.there (Lk.there Lk.here)) | exact (Lk.there (Lk.there (Lk.there Lk.here))) | exact (Lk.there (Lk.there (Lk.there (Lk.there Lk.here)))) | exact (Lk.there (Lk.there (Lk.there (Lk.there (Lk.there Lk.here))))) | exact (Lk.there (Lk.there (Lk.there (Lk.there (Lk.there (Lk.there Lk.here)))))) | exact (Lk.there (Lk.there (Lk.there (Lk.there (Lk.there (Lk.there (Lk.there Lk.here))))))) | exact (Lk.there (Lk.there (Lk.there (Lk.there (Lk.there (Lk.there (Lk.there (Lk.there Lk.here)))))))) | exact (Lk.there (Lk.there (Lk.there (Lk.there (Lk.there (Lk.there (Lk.there (Lk.there (Lk.there Lk.here))))))))) | exact (Lk.there (Lk.there (Lk.there (Lk.there (Lk.there (Lk.there (Lk.there (Lk.there (Lk.there (Lk.there Lk.here)))))))))) | exact (Lk.there (Lk.there (Lk.there (Lk.there (Lk.there (Lk.there (Lk.there (Lk.there (Lk.there (Lk.there (Lk.there Lk.here))))))))))) | exact (Lk.there (Lk.there (Lk.there (Lk.there (Lk.there (Lk.there (Lk.there (Lk.there (Lk.there (Lk.there (Lk.there (Lk.there Lk.here)))))))))))) | exact (Lk.there (Lk.there (Lk.there (Lk.there (Lk.there (Lk.there (Lk.there (Lk.there (Lk.there (Lk.there (Lk.there (Lk.there (Lk.there Lk.here))))))))))))) | fail "none"))
local macro_rules | `(tactic| ktf_call "put") => `(tactic| (with_reducible first | exact PutF.here | exact (PutF.there PutF.here) | exact (PutF.there (PutF.there PutF.here)) | exact (PutF.there (PutF.there (PutF.there PutF.here))) | exact (PutF.there (PutF.there (PutF.there (PutF.there PutF.here)))) | exact (PutF.there (PutF.there (PutF.there (PutF.there (PutF.there PutF.here))))) | exact (PutF.there (PutF.there (PutF.there (PutF.there (PutF.there (PutF.there PutF.here)))))) | exact (PutF.there (PutF.there (PutF.there (PutF.there (PutF.there (PutF.there (PutF.there PutF.here))))))) | exact (PutF.there (PutF.there (PutF.there (PutF.there (PutF.there (PutF.there (PutF.there (PutF.there PutF.here)))))))) | exact (PutF.there (PutF.there (PutF.there (PutF.there (PutF.there (PutF.there (PutF.there (PutF.there (PutF.there PutF.here))))))))) | exact (PutF.there (PutF.there (PutF.there (PutF.there (PutF.there (PutF.there (PutF.there (PutF.there (PutF.there (PutF.there PutF.here)))))))))) | exact (PutF.there (PutF.there (PutF.there (PutF.there (PutF.there (PutF.there (PutF.there (PutF.there (PutF.there (PutF.there (PutF.there PutF.here))))))))))) | exact (PutF.there (PutF.there (PutF.there (PutF.there (PutF.there (PutF.there (PutF.there (PutF.there (PutF.there (PutF.there (PutF.there (PutF.there PutF.here)))))))))))) | exact (PutF.there (PutF.there (PutF.there (PutF.there (PutF.there (PutF.there (PutF.there (PutF.there (PutF.there (PutF.there (PutF.there (PutF.there (PutF.there PutF.here))))))))))))) | fail "none"))
local macro_rules | `(tactic| ktf_call "has") => `(tactic| (with_reducible first | exact Has.here | exact (Has.there Has.here) | exact (Has.there (Has.there Has.here)) | exact (Has.there (Has.there (Has.there Has.here))) | exact (Has.there (Has.there (Has.there (Has.there Has.here)))) | exact (Has.there (Has.there (Has.there (Has.there (Has.there Has.here))))) | exact (Has.there (Has.there (Has.there (Has.there (Has.there (Has.there Has.here)))))) | exact (Has.there (Has.there (Has.there (Has.there (Has.there (Has.there (Has.there Has.here))))))) | fail "none"))
local macro_rules | `(tactic| ktf_call "chg") => `(tactic| (with_reducible first | exact Chg.here | exact (Chg.there Chg.here) | exact (Chg.there (Chg.there Chg.here)) | exact (Chg.there (Chg.there (Chg.there Chg.here))) | exact (Chg.there (Chg.there (Chg.there (Chg.there Chg.here)))) | exact (Chg.there (Chg.there (Chg.there (Chg.there (Chg.there Chg.here))))) | exact (Chg.there (Chg.there (Chg.there (Chg.there (Chg.there (Chg.there Chg.here)))))) | exact (Chg.there (Chg.there (Chg.there (Chg.there (Chg.there (Chg.there (Chg.there Chg.here))))))) | fail "none"))
local macro_rules | `(tactic| ktf_call "vl") => `(tactic| first | ((with_reducible refine' VL.own ?cv); (case cv => ktf_call "has")) | with_reducible exact VL.dat | fail "vl")
local macro_rules | `(tactic| ktf_call "vu") => `(tactic| ((with_reducible refine' VU.own ?cv); (case cv => ktf_call "has")))
local macro_rules | `(tactic| ktf_call "ati") => `(tactic| first | assumption | exact ati_l rfl | fail "ati")
local macro_rules | `(tactic| ktf_call "vi") => `(tactic| first | with_reducible exact vi_dat | ((with_reducible refine' vi_own ?cv); (case cv => ktf_call "has")) | ((with_reducible refine' vi_nil ?cv); (case cv => ktf_call "vl")) | fail "vi")
local macro_rules | `(tactic| ktf_call "vs") => `(tactic| first | with_reducible exact vs_dat | ((with_reducible refine' vs_own ?cv); (case cv => ktf_call "has")) | ((with_reducible refine' vs_nil ?cv); (case cv => ktf_call "vl")) | fail "vs")
local macro_rules | `(tactic| ktf_call "hyp") => `(tactic| simp only [decide_eq_true_eq, decide_eq_false_iff_not, Bool.not_eq_true', Bool.not_eq_false', Bool.not_true, Bool.not_false, Bool.true_eq_false, Bool.false_eq_true, Int.not_lt, Int.not_le] at *)
local macro_rules | `(tactic| ktf_call "side") => `(tactic| first | assumption | decide | omega | (simp only [List.length_cons, List.length_nil, List.length_map]; omega) | exact ⟨Int.emod_nonneg _ (by omega), Int.emod_lt_of_pos _ (by omega)⟩ | (decide +kernel) | (simp; done) | (simp; omega))
local macro_rules | `(tactic| ktf_call "cmul") => `(tactic| first | assumption | exact cm_l (by omega) (by omega) | exact cm_r (by omega) (by omega) | fail "cmul")
local macro_rules | `(tactic| ktf_call "cdiv") => `(tactic| first | assumption | exact ⟨by assumption, by assumption⟩ | exact cd_s (by omega) (by omega) | fail "cdiv")
local macro_rules | `(tactic| ktf_call "frz") => `(tactic| (repeat (first | exact Frz.dat | exact Frzs.nil | apply Frzs.cons | apply Frz.lst | exact Frzs.map _ _)))
local macro_rules | `(tactic| ktf_call "ln") => `(tactic| first | ((with_reducible refine' ln_I ?cv); (case cv => ktf_call "vi")) | ((with_reducible refine' ln_S ?cv); (case cv => ktf_call "vs")) | ((with_reducible refine' Ln.lst ?cv); (case cv => ktf_call "vl")) | ((with_reducible refine' Ln.str ?cv); (case cv => ktf_call "side")) | with_reducible exact Ln.tup | fail "ln")
local macro_rules | `(tactic| ktf_call "tym") => `(tactic| first | with_reducible exact TyM.str | with_reducible exact TyM.lst (by ktf_call "vl") | with_reducible exact TyM.int | with_reducible exact TyM.dk (by ktf_call "has"))
local macro_rules | `(tactic| ktf_call "gl") => `(tactic| first | assumption | exact Def.gl (by assumption) (by decide +kernel) | exact IsBlk.gl (by assumption) (by decide +kernel) | exact IsBlkH.gl (by assumption) (by decide +kernel) | fail "gl")
local macro_rules | `(tactic| ktf_call "mg") => `(tactic| first | assumption | exact Def.mg_ (by assumption) (by assumption) | exact IsBlk.mg (by assumption) (by ktf_call "mg") | exact IsBlkH.mg (by assumption) (by ktf_call "mg") | fail "mg")
local macro_rules | `(tactic| ktf_call "own") => `(tactic| first | assumption | exact Def.own (by assumption) (by decide +kernel) | fail "own")
local macro_rules | `(tactic| ktf_call "cal") => `(tactic| first | assumption | exact Def.callee (by assumption) (by assumption) | exact IsBlk.callee (by assumption) (by ktf_call "cal") | fail "cal")
local macro_rules | `(tactic| ktf_call "fog") => `(tactic| (repeat (first | with_reducible exact Fog.nil | with_reducible apply Fog.keep | with_reducible apply Fog.drop)))
local macro_rules | `(tactic| ktf_call "blk") => `(tactic| first | with_reducible exact Blk.nil | exact Blk.keep (by decide +kernel) (by ktf_call "blk") | exact Blk.drop (by ktf_call "blk"))
local macro_rules | `(tactic| ktf_call "sub") => `(tactic| (repeat (with_reducible first | exact List.Sublist.slnil | exact List.nil_sublist _ | exact sub_nil _ | apply List.Sublist.cons_cons | apply List.Sublist.cons)))
local macro_rules | `(tactic| ktf_call "ce") => `(tactic| fail "ce")
-- expressions
local macro_rules | `(tactic| ktf_call "e") => `(tactic| first
  | ((with_reducible show DE _ _ _ _ (.Name _ _) _); refine de_name (by ktf_call "lk") ?_)
  | ((with_reducible show DE _ _ _ _ (.Constant _ _ _) _); first | refine de_int ?_ | refine de_str ?_ | refine de_bl ?_ | refine de_non ?_)
  | ((with_reducible show DE _ _ _ _ (.BinOp _ _ _ _) _); refine de_bin ?_)
  | ((with_reducible show DE _ _ _ _ (.Subscript _ (.Slice _ _ none _) _) _); refine d_slice ?_)
  | ((with_reducible show DE _ _ _ _ (.Subscript _ _ _) _); refine de_ix ?_)
  | ((with_reducible show DE _ _ _ _ (.Call (.Name _ _) _ _ _) _); first
      | ((with_reducible show DE _ _ _ _ (.Call (.Name "len" _) _ _ _) _); refine d_len (by ktf_call "gl") (by ktf_call "mg") ?_)
      | ((with_reducible show DE _ _ _ _ (.Call (.Name "int" _) _ _ _) _); refine d_int (by ktf_call "gl") (by ktf_call "mg") ?_)
      | ((with_reducible show DE _ _ _ _ (.Call (.Name "abs" _) _ _ _) _); refine d_abs (by ktf_call "gl") (by ktf_call "mg") ?_)
      | ktf_call "ce"
      | refine de_call (by ktf_call "cal") (by assumption) (by ktf_call "gl") ?_ (hjk := by omega))
  | ((with_reducible show DE _ _ _ _ (.Call (.Attribute _ "join" _) _ _ _) _); refine d_join ?_)
  | ((with_reducible show DE _ _ _ _ (.Call (.Attribute _ "append" _) _ _ _) _); refine d_appendL ?_)
  | ((with_reducible show DE _ _ _ _ (.Call (.Attribute _ "extend" _) _ _ _) _); refine d_extendL ?_)
  | ((with_reducible show DE _ _ _ _ (.Call (.Attribute _ "find" _) [_, _] _ _) _); refine d_find3 ?_)
  | ((with_reducible show DE _ _ _ _ (.Compare _ [_] [_] _) _); refine de_cmp ?_)
  | ((with_reducible show DE _ _ _ _ (.BoolOp _ [_] _) _); refine de_bo1 ?_)
  | ((with_reducible show DE _ _ _ _ (.BoolOp .And _ _) _); refine de_and ?_)
  | ((with_reducible show DE _ _ _ _ (.BoolOp .Or _ _) _); refine de_or ?_)
  | ((with_reducible show DE _ _ _ _ (.UnaryOp .Not _ _) _); refine de_not ?_)
  | ((with_reducible show DE _ _ _ _ (.UnaryOp _ _ _) _); refine de_un ?_)
  | ((with_reducible show DE _ _ _ _ (.List _ _) _); refine de_lst ?_)
  | ((with_reducible show DE _ _ _ _ (.Tuple _ _ _) _); refine de_tup ?_)
  | ((with_reducible show DE _ _ _ _ (.IfExp _ _ _ _) _); refine de_if ?_))
local macro_rules | `(tactic| ktf_call "o") => `(tactic| first
  | ((with_reducible show OP _ _ _ _ (binaryOp _) _ _ _); first
    | ((with_reducible refine' o_add  ?kk))
    | ((with_reducible refine' o_addS ?ca ?kk); (case ca => ktf_call "side"))
    | ((with_reducible refine' o_cat ?ca ?cb ?cd (fun p => ?kk)); (case ca => ktf_call "vu"); (case cb => ktf_call "vu"); (case cd => ktf_call "side"))
    | ((with_reducible refine' o_sub  ?kk))
    | ((with_reducible refine' o_mulS ?ca ?kk); (case ca => ktf_call "cmul"))
    | ((with_reducible refine' o_mul ?ca ?kk); (case ca => assumption))
    | ((with_reducible refine' o_div ?ca ?kk); (case ca => ktf_call "cdiv"))
    | ((with_reducible refine' o_mod ?ca ?kk); (case ca => (first | assumption | omega | decide)))
    | ((with_reducible refine' o_pow ?ca ?kk); (case ca => decide))
    | fail "o")
  | ((with_reducible show OP _ _ _ _ (compareOp _) _ _ _); first
    | ((with_reducible refine' o_lt  ?kk))
    | ((with_reducible refine' o_le  ?kk))
    | ((with_reducible refine' o_gt  ?kk))
    | ((with_reducible refine' o_ge  ?kk))
    | ((with_reducible refine' o_eqI  ?kk))
    | ((with_reducible refine' o_eqS  ?kk))
    | ((with_reducible refine' o_eqB  ?kk))
    | ((with_reducible refine' o_eqLI ?ca ?cb ?cd ?kk); (case ca => assumption); (case cb => ktf_call "vi"); (case cd => ktf_call "vi"))
    | ((with_reducible refine' o_eqLS ?ca ?cb ?cd ?kk); (case ca => assumption); (case cb => ktf_call "vs"); (case cd => ktf_call "vs"))
    | ((with_reducible refine' o_neI  ?kk))
    | ((with_reducible refine' o_neS  ?kk))
    | ((with_reducible refine' o_neLI ?ca ?cb ?cd ?kk); (case ca => assumption); (case cb => ktf_call "vi"); (case cd => ktf_call "vi"))
    | ((with_reducible refine' o_neLS ?ca ?cb ?cd ?kk); (case ca => assumption); (case cb => ktf_call "vs"); (case cd => ktf_call "vs"))
    | ((with_reducible refine' o_isB  ?kk))
    | fail "o")
  | ((with_reducible refine' u_neg  ?kk))
  | ((with_reducible refine' x_I ?ca ?cb ?kk); (case ca => ktf_call "vi"); (case cb => ktf_call "side"))
  | ((with_reducible refine' x_S ?ca ?cb ?kk); (case ca => ktf_call "vs"); (case cb => ktf_call "side"))
  | ((with_reducible refine' x_B ?ca ?cb ?kk); (case ca => ((with_reducible refine' vb_own ?cv); (case cv => ktf_call "has"))); (case cb => ktf_call "side"))
  | ((with_reducible refine' x_ch ?ca ?cb ?kk); (case ca => ktf_call "side"); (case cb => ktf_call "side"))
  | ((with_reducible refine' x_lst ?ca ?cb ?kk); (case ca => ktf_call "vl"); (case cb => ktf_call "ati"))
  | ((with_reducible refine' x_tup ?ca ?kk); (case ca => ktf_call "ati"))
  | ((with_reducible refine' x_str ?ca ?cb ?kk); (case ca => ktf_call "side"); (case cb => ktf_call "ati"))
  | ((with_reducible refine' s_lst ?ca (fun p => ?kk)); (case ca => ktf_call "vl"))
  | ((with_reducible refine' s_str ?ca ?kk); (case ca => ktf_call "side"))
  | fail "o")
local macro_rules | `(tactic| ktf_call "t") => `(tactic| first
  | ((with_reducible show DT _ _ _ _ (.Compare _ [_] [_] _) _); refine dt_cmp ?_)
  | ((with_reducible show DT _ _ _ _ (.BoolOp _ _ _) _); refine dt_bool ?_)
  | ((with_reducible show DT _ _ _ _ (.UnaryOp .Not _ _) _); refine dt_not ?_)
  | ((with_reducible show DT _ _ _ _ _ _); refine dt_val ?_)
  | ((with_reducible show DW _ _ _ _ (.BoolOp .And [_] _) _); refine dw_and1 ?_)
  | ((with_reducible show DW _ _ _ _ (.BoolOp .Or [_] _) _); refine dw_or1 ?_)
  | ((with_reducible show DW _ _ _ _ (.BoolOp .And _ _) _); refine dw_and ?_)
  | ((with_reducible show DW _ _ _ _ (.BoolOp .Or _ _) _); refine dw_or ?_))
local macro_rules | `(tactic| ktf_call "s") => `(tactic| first
  | ((with_reducible show DSs _ _ _ _ (List.drop _ _) _); first | refine dss_at rfl ?_ | refine dss_end rfl ?_)
  | ((with_reducible show DSs _ _ _ _ (_ :: _) _); refine dss_cons ?_)
  | ((with_reducible show DSs _ _ _ _ [] _); refine dss_nil ?_)
  | ((with_reducible show DS _ _ _ _ (.If _ _ _ _) _); refine ds_if ?_)
  | ((with_reducible show DS _ _ _ _ (.Return (some _) _) _); refine ds_ret ?_)
  | ((with_reducible show DS _ _ _ _ (.Assign [.Name _ _] _ _) _); refine ds_asg (by ktf_call "own") (by ktf_call "put") ?_)
  | ((with_reducible show DS _ _ _ _ (.Assign [.Subscript _ _ _] _ _) _); refine ds_setL ?_)
  | ((with_reducible show DS _ _ _ _ (.Expr _ _) _); refine ds_expr ?_)
  | ((with_reducible show DS _ _ _ _ (.AugAssign (.Name _ _) .Add _ _) _); refine ds_augI ip_add (by ktf_call "own") (by ktf_call "lk") (by ktf_call "put") ?_)
  | ((with_reducible show DS _ _ _ _ (.AugAssign (.Name _ _) .Sub _ _) _); refine ds_augI ip_sub (by ktf_call "own") (by ktf_call "lk") (by ktf_call "put") ?_)
  | fail "s")
local macro_rules | `(tactic| ktf_call "k") => `(tactic| first
  | ((with_reducible show DA _ _ _ _ [] _); refine da_nil ?_)
  | ((with_reducible show DA _ _ _ _ (_ :: _) _); refine da_cons ?_)
  | ((with_reducible show DO _ _ _ _ none _); refine do_none ?_)
  | ((with_reducible show DO _ _ _ _ (some _) _); refine do_some ?_)
  | ((with_reducible show KB _ _ _); refine kb ?_)
  | ((with_reducible show (_ = true → _) ∧ (_ = false → _)); refine ⟨fun hyp => ?_, fun hyp => ?_⟩ <;> (try simp only [decide_eq_true_eq, decide_eq_false_iff_not, Bool.not_eq_true', Bool.not_eq_false', Bool.not_true, Bool.not_false, Bool.true_eq_false, Bool.false_eq_true, Int.not_lt, Int.not_le, nil_len, Nat.pos_iff_ne_zero.symm] at hyp))
  | ((with_reducible show (_ = false → _) ∧ (_ = true → _)); refine ⟨fun hyp => ?_, fun hyp => ?_⟩ <;> (try simp only [decide_eq_true_eq, decide_eq_false_iff_not, Bool.not_eq_true', Bool.not_eq_false', Bool.not_true, Bool.not_false, Bool.true_eq_false, Bool.false_eq_true, Int.not_lt, Int.not_le, nil_len, Nat.pos_iff_ne_zero.symm] at hyp))
  | ((with_reducible show ∃ d, rB _ = rB d ∧ _); refine ⟨_, rfl, ?_⟩)
  | ((with_reducible show ∃ d, D2.rI _ = D2.rI d ∧ _); refine ⟨_, rfl, ?_⟩)
  | ((with_reducible show ∃ n, Ln _ _ n ∧ _); refine ⟨_, by ktf_call "ln", ?_⟩)
  | ((with_reducible refine' Exists.intro _ (Exists.intro _ (Exists.intro _ (Exists.intro _ (Exists.intro _ (And.intro rfl (And.intro rfl (And.intro ?ch (And.intro ?ix ?_))))))))); (case ch => ktf_call "chg"); (case ix => first | exact ixN_ok (by ktf_call "side") (by ktf_call "side") | exact rfl))
  | ((with_reducible show rS _ = rS [] ∧ _); refine ⟨rfl, ?_⟩)
  | ((with_reducible show ∃ s, rS _ = rS s ∧ _); refine ⟨_, rfl, ?_⟩)
  | ((with_reducible refine' Exists.intro _ (Exists.intro _ (Exists.intro _ (And.intro rfl (And.intro ?ch ?_))))); (case ch => ktf_call "has"))
  | ((with_reducible refine' Exists.intro _ (Exists.intro _ (And.intro ?ch (And.intro ?cl ?_)))); (case ch => ktf_call "chg"); (case cl => ktf_call "side"))
  | ((with_reducible refine' Exists.intro _ (Exists.intro _ (Exists.intro _ (And.intro ?ch (And.intro ?cu (And.intro ?cl ?_)))))); (case ch => ktf_call "chg"); (case cu => ktf_call "vu"); (case cl => ktf_call "side"))
  | ((with_reducible show _ ≤ 1000000 ∧ _); first | refine ⟨by ktf_call "side", fun p => ?_⟩ | refine ⟨by ktf_call "side", _, _, by ktf_call "frz", ?_⟩)
  | ktf_call "sp"
  | fail "k")
local macro_rules | `(tactic| ktf_call "d2") => `(tactic| (repeat' (first
  | ((with_reducible show DE _ _ _ _ _ _); ktf_call "e")
  | ((with_reducible show OP _ _ _ _ _ _ _ _); ktf_call "o")
  | ((with_reducible show IX _ _ _ _ _ _ _ _ _); ktf_call "o")
  | ((with_reducible show DT _ _ _ _ _ _); ktf_call "t")
  | ((with_reducible show DW _ _ _ _ _ _); ktf_call "t")
  | ((with_reducible show DA _ _ _ _ _ _); ktf_call "k")
  | ((with_reducible show DS _ _ _ _ _ _); ktf_call "s")
  | ((with_reducible show DSs _ _ _ _ _ _); ktf_call "s")
  | ((with_reducible show UP _ _ _ _ _ _ _); ktf_call "o")
  | ((with_reducible show SlK _ _ _ _ _ _ _ _); ktf_call "o")
  | ktf_call "k" | fail "stuck")))
local macro_rules | `(tactic| ktf_call "kitb") => `(tactic| with_reducible first | exact kitb_NoneType_int | exact kitb_NoneType_bool | exact kitb_NoneType_str | exact kitb_NoneType_list | exact kitb_NoneType_tuple | exact kitb_NoneType_dict | exact kitb_bool_int | exact kitb_bool_bool | exact kitb_bool_str | exact kitb_bool_list | exact kitb_bool_tuple | exact kitb_bool_dict | exact kitb_int_int | exact kitb_int_bool | exact kitb_int_str | exact kitb_int_list | exact kitb_int_tuple | exact kitb_int_dict | exact kitb_str_int | exact kitb_str_bool | exact kitb_str_str | exact kitb_str_list | exact kitb_str_tuple | exact kitb_str_dict | exact kitb_list_int | exact kitb_list_bool | exact kitb_list_str | exact kitb_list_list | exact kitb_list_tuple | exact kitb_list_dict | exact kitb_tuple_int | exact kitb_tuple_bool | exact kitb_tuple_str | exact kitb_tuple_list | exact kitb_tuple_tuple | exact kitb_tuple_dict | exact kitb_dict_int | exact kitb_dict_bool | exact kitb_dict_str | exact kitb_dict_list | exact kitb_dict_tuple | exact kitb_dict_dict)
local macro_rules | `(tactic| ktf_call "tyr") => `(tactic| with_reducible first | exact TyR.int | exact TyR.bl | exact TyR.str | exact TyR.non | exact TyR.tup | ((refine' TyR.lst ?clv); (case clv => ktf_call "vl")))
local macro_rules | `(tactic| ktf_call "vo") => `(tactic| with_reducible first | exact VO.dat | ((refine' VO.own ?cv); (case cv => ktf_call "has")))
local macro_rules | `(tactic| ktf_call "e") => `(tactic| first
  | ((with_reducible show DE _ _ _ _ (.Call (.Name "isinstance" _) _ _ _) _); refine d_isi (by ktf_call "gl") (by ktf_call "mg") ?_)
  | ((with_reducible show DE _ _ _ _ (.Name "int" _) _); refine de_ty (T := "int") (by ktf_call "gl") (by ktf_call "mg") (by decide +kernel) ?_)
  | ((with_reducible show DE _ _ _ _ (.Name "bool" _) _); refine de_ty (T := "bool") (by ktf_call "gl") (by ktf_call "mg") (by decide +kernel) ?_)
  | ((with_reducible show DE _ _ _ _ (.Name "str" _) _); refine de_ty (T := "str") (by ktf_call "gl") (by ktf_call "mg") (by decide +kernel) ?_)
  | ((with_reducible show DE _ _ _ _ (.Name "list" _) _); refine de_ty (T := "list") (by ktf_call "gl") (by ktf_call "mg") (by decide +kernel) ?_)
  | ((with_reducible show DE _ _ _ _ (.Name "tuple" _) _); refine de_ty (T := "tuple") (by ktf_call "gl") (by ktf_call "mg") (by decide +kernel) ?_)
  | ((with_reducible show DE _ _ _ _ (.Name _ _) _); first | refine de_tupG (by assumption) (by assumption) ?_ | refine de_strG (by assumption) (by assumption) ?_ | refine de_intG (by assumption) (by assumption) ?_)
  | ((with_reducible show DE _ _ _ _ (.Attribute _ _ _) _); refine de_fld (by assumption) (by assumption) ?_)
  | ((with_reducible show DE _ _ _ _ (.Call (.Attribute _ "strip" _) _ _ _) _); refine d_stripC ?_)
  | ((with_reducible show DE _ _ _ _ (.Call (.Attribute _ _ _) (_ :: _) _ _) _); refine de_meth (by assumption) (by assumption) ?_ (hjk := by omega))
  | ((with_reducible show DE _ _ _ _ (.Call (.Attribute _ _ _) [] _ _) _); refine de_meth0 (by assumption) (by assumption) ?_ (hjk := by omega))
  | ((with_reducible show DE _ _ _ _ (.Call (.Name "min" _) [_, _] _ _) _); refine d_min2 (by assumption) (by ktf_call "gl") (by ktf_call "mg") ?_)
  | ((with_reducible show DE _ _ _ _ (.Call (.Name "max" _) [_, _] _ _) _); refine d_max2 (by assumption) (by ktf_call "gl") (by ktf_call "mg") ?_)
  | ((with_reducible show DE _ _ _ _ (.Call (.Name _ _) (_ :: _) (_ :: _) _) _); refine de_callK (by assumption) (by assumption) (by ktf_call "gl") ?_ (hjk := by omega))
  | ((with_reducible show DE _ _ _ _ (.Call (.Name _ _) (_ :: _) [] _) _); refine de_make (by assumption) (by assumption) (by ktf_call "gl") ?_ (hjk := by omega))
  | ((with_reducible show DE _ _ _ _ (.Call (.Name _ _) [] [] _) _); refine de_make0 (by assumption) (by assumption) (by ktf_call "gl") ?_ (hjk := by omega))
  | ((with_reducible show DE _ _ _ _ (.Dict [] [] _) _); refine d_new0 fun p => ?_))
local macro_rules | `(tactic| ktf_call "k") => `(tactic| first
  | ((with_reducible refine' Exists.intro _ (Exists.intro _ (Exists.intro _ (Exists.intro _ (And.intro rfl (And.intro ?ty (And.intro ?kb ?_))))))); (case ty => ktf_call "tyr"); (case kb => ktf_call "kitb"))
  | ((with_reducible show ∃ fs r, VO _ _ _ fs ∧ _); refine ⟨_, _, by ktf_call "vo", rfl, ?_⟩)
  | ((with_reducible show (∃ fs, VO _ _ _ fs ∧ _) ∧ _); refine ⟨⟨_, by ktf_call "vo", rfl⟩, ?_⟩)
  | ((with_reducible show DKw _ _ _ _ [] _); refine dk_nil ?_)
  | ((with_reducible show DKw _ _ _ _ (_ :: _) _); refine dk_cons ?_)
  | ((with_reducible show _ ≤ 1000000 ∧ DE _ _ _ _ _ _); refine ⟨by ktf_call "side", ?_⟩))
local macro_rules | `(tactic| ktf_call "s") => `(tactic| first
  | ((with_reducible show DS _ _ _ _ (.Raise _ _ _) _); refine ds_raise (by assumption) (by assumption) (by ktf_call "gl") ?_)
  | ((with_reducible show DS _ _ _ _ (.Assign [.Attribute _ _ _] _ _) _); refine ds_fld (by assumption) (by assumption) ?_)
  | ((with_reducible show DS _ _ _ _ (.Break _) _); refine ds_brk ?_)
  | ((with_reducible show DS _ _ _ _ (.Continue _) _); refine ds_cont ?_)
  | ((with_reducible show DS _ _ _ _ (.Pass _) _); refine ds_pass ?_))
local macro_rules | `(tactic| ktf_call "o") => `(tactic| ((with_reducible refine' o_ninS ?ca ?kk); (case ca => assumption)))
local macro_rules | `(tactic| ktf_call "t") => `(tactic| ((with_reducible show DT _ _ _ _ (.Compare _ [_, _] [_, _] _) _); first | refine dt_chainI L2.op_le L2.op_le ?_ | refine dt_chainI L2.op_lt L2.op_le ?_ | refine dt_chainI L2.op_le L2.op_lt ?_ | refine dt_chainI L2.op_lt L2.op_lt ?_))
theorem share_pieces {k n : Nat} {u v : List Nat} {l : List (List Nat)} (hA : A k u v) (hn : n ≤ 2 ^ k - 1) (h : Pc.IsPieces u n l) : Pc.IsPieces v n l :=
  ⟨h.1, fun x => by
    rw [h.2]
    exact ⟨fun ⟨a, b⟩ => ⟨hA.piece a (by omega), b⟩, fun ⟨a, b⟩ => ⟨hA.symm.piece a (by omega), b⟩⟩⟩
theorem few_pieces {n m : Nat} {u : List Nat} {l : List (List Nat)} (hm : m ≤ n) (h : Pc.IsPieces u n l) : Pc.IsPieces u m (l.filter fun x => decide (x.length ≤ m)) :=
  ⟨h.1.filter _, fun x => by
    rw [List.mem_filter, h.2, decide_eq_true_eq]
    exact ⟨fun ⟨⟨a, _⟩, c⟩ => ⟨a, c⟩, fun ⟨a, b⟩ => ⟨⟨a, by omega⟩, b⟩⟩⟩
theorem pieces_few {n : Nat} {u : List Nat} {l : List (List Nat)} (ha : Abc u) (hn : n ≤ 7) (h : Pc.IsPieces u n l) : l.length ≤ 3280 :=
  Pc.few7 (Pc.abc_of ha) hn (by
    refine h.1.imp fun {a b} hab e => ?_
    subst e
    exact Pc.wlt_ir _ hab) fun x hx => (h.2 x).mp hx
section
variable {m : Mem} {CW CL CN : Addr} {Kr : Mem → R → Mem → Prop} {Ke : Mem → Addr → List (Str × D2.D) → Mem → Prop}
theorem sp_alike {u v : List Nat} {n : Int} {l : Nat} (hu : WOk 40 u) (hv : WOk 40 v) (hl : n = (l : Int)) (hn : l ≤ 8) (k : ∀ b : Bool, (b = true ↔ A l u v) → Kr m (rB b) []) : ∃ mf rest, Split m mf rest ∧ spRAlike CW CL CN [rS u, rS v, D2.rI n] mf (Kr rest) (Ke rest) := by
  subst hl
  exact ⟨[], m, .nil, u, v, _, rfl, ⟨Nat.le_trans hu.2 (by decide), Nat.le_trans hv.2 (by decide)⟩, rfl, .no hu, fun _ => .no hv, fun _ _ h => absurd h (by omega), fun _ _ _ _ => k⟩
theorem sp_rapart {u v : List Nat} (hu : WOk 40 u) (hv : WOk 40 v) (k1 : u = v → Kr m (.dat .non) []) (k2 : u ≠ v → ∀ r, Rapart u v r → Kr m (D2.rI (r : Int)) []) : ∃ mf rest, Split m mf rest ∧ spRApart CW CL [rS u, rS v] mf (Kr rest) (Ke rest) :=
  ⟨[], m, .nil, u, v, rfl, ⟨Nat.le_trans hu.2 (by decide), Nat.le_trans hv.2 (by decide)⟩, rfl, .no hu, fun _ => .no hv, fun _ _ => k1, fun _ _ => k2⟩
theorem sp_isPiece {u v : List Nat} (hu : u.length ≤ 1000000) {b : Bool} (hb : b = true ↔ u.Sublist v) (k : Kr m (rB b) []) : ∃ mf rest, Split m mf rest ∧ Pc.spIsPiece [rS u, rS v] mf (Kr rest) (Ke rest) :=
  ⟨[], m, .nil, u, v, rfl, hu, rfl, by rw [Pc.isPiece_eq, show decide (u.Sublist v) = b by rw [Bool.eq_iff_iff, decide_eq_true_eq, hb]]; exact k⟩
end
theorem cutG_from {α : Type} {s : List α} (j : Nat) : cutL s (some (j : Int)) none = s.drop j := by
  unfold cutL
  rw [HT.sIx_none, HT.sIx_nat]
  by_cases h : j ≤ s.length
  · rw [Nat.min_eq_left h, List.take_of_length_le (by simp)]
  · rw [Nat.min_eq_right (by omega), List.drop_of_length_le (by omega), List.drop_of_length_le (by omega), List.take_nil]
section
variable {P : Program} {w : World} {K : PySem.W.Frag} {mg : Str → Option Value} {base : Heap} {f : Addr} {fd : FuncData}
def spShared : Sp2 := fun rs m Kr Ke => ∃ (u v : List Nat) (n : Nat), rs = [rS u, rS v, D2.rI (n : Int)] ∧ (u.length ≤ 40 ∧ v.length ≤ 40) ∧ (Abc u ∧ Abc v) ∧ n ≤ 8 ∧ A n u v ∧ m = [] ∧ Kr (rB true) []
theorem sc__law_shared : FnScope ["first", "second", "level", "most", "names", "few", "name", "due", "word"] ["first", "second", "level"] (defScope (top 37)) := ⟨rfl, rfl, rfl, by decide +kernel, rfl, by decide +kernel, by decide +kernel⟩
theorem ok_shared {C_BadNumber : Addr} (F : FunD K "_law_shared" "_law_shared" (defArgs (top 37)) (defBody (top 37)) (defScope (top 37)) [] [] f fd) (m0_min : mg "min" = none) (c__law_own_pieces : CalleeG P w K mg base "_law_own_pieces" 1 Pc.spOwnPieces) (c__law_ends : CalleeG P w K mg base "_law_ends" 1 spEnds) (c__law_same_list : CalleeG P w K mg base "_law_same_list" 1 spSameList) (c_pieces : CalleeG P w K mg base "pieces" 3 (Pc.spPieces C_BadNumber)) (m0_max : mg "max" = none) (m0_len : mg "len" = none) (c__law_flag : CalleeG P w K mg base "_law_flag" 1 spFlag) (c_is_piece : CalleeG P w K mg base "is_piece" 1 Pc.spIsPiece) : FnOk P w K mg base (L2N.CX P w) (4) f fd ["first", "second", "level"] (spOf K spShared) := by
  refine fn2 F sc__law_shared (by decide +kernel) (fun rs m Kr Ke ⟨_, _, _, e, _⟩ => by rw [e]; rfl) fun X c rs m Kr Ke D L hx ⟨u, v, n, er, ⟨hu, hv⟩, ⟨au, av⟩, hn, hA, em, hk⟩ => ?_
  subst er em
  have m_min : X.mg "min" = none := D.mg_ m0_min
  have e__law_own_pieces : Callee X "_law_own_pieces" 1 Pc.spOwnPieces := D.callee c__law_own_pieces
  have e__law_ends : Callee X "_law_ends" 1 spEnds := D.callee c__law_ends
  have e__law_same_list : Callee X "_law_same_list" 1 spSameList := D.callee c__law_same_list
  have e_pieces : Callee X "pieces" 3 (Pc.spPieces C_BadNumber) := D.callee c_pieces
  have m_max : X.mg "max" = none := D.mg_ m0_max
  have m_len : X.mg "len" = none := D.mg_ m0_len
  have e__law_flag : Callee X "_law_flag" 1 spFlag := D.callee c__law_flag
  have e_is_piece : Callee X "is_piece" 1 Pc.spIsPiece := D.callee c_is_piece
  have g_min : Gl X "min" := D.gl (by decide +kernel)
  have g__law_own_pieces : Gl X "_law_own_pieces" := D.gl (by decide +kernel)
  have g__law_ends : Gl X "_law_ends" := D.gl (by decide +kernel)
  have g__law_same_list : Gl X "_law_same_list" := D.gl (by decide +kernel)
  have g_pieces : Gl X "pieces" := D.gl (by decide +kernel)
  have g_max : Gl X "max" := D.gl (by decide +kernel)
  have g_len : Gl X "len" := D.gl (by decide +kernel)
  have g__law_flag : Gl X "_law_flag" := D.gl (by decide +kernel)
  have g_is_piece : Gl X "is_piece" := D.gl (by decide +kernel)
  have o_most : Own X "most" := D.own (by decide +kernel)
  have o_names : Own X "names" := D.own (by decide +kernel)
  have o_few : Own X "few" := D.own (by decide +kernel)
  have o_name : Own X "name" := D.own (by decide +kernel)
  have o_due : Own X "due" := D.own (by decide +kernel)
  have o_word : Own X "word" := D.own (by decide +kernel)
  refine dss_lo ?_
  show DSs X c [("first", some (rS u)), ("second", some (rS v)), ("level", some (D2.rI (n : Int))), ("most", none), ("names", none), ("few", none), ("name", none), ("due", none), ("word", none)] [] (_ :: _) _
  have hp : 0 < 2 ^ n := Nat.two_pow_pos n
  ktf_call "d2"
  refine o_shl1 (by omega) ?_
  ktf_call "d2"
  refine ⟨_, _, rfl, ?_⟩
  obtain ⟨M, eM, hM7, hM⟩ : ∃ M : Nat, (if (((2 ^ n : Nat) : Int) - 1) < 7 then (((2 ^ n : Nat) : Int) - 1) else (7 : Int)) = (M : Int) ∧ M ≤ 7 ∧ M ≤ 2 ^ n - 1 := by
    by_cases c : (((2 ^ n : Nat) : Int) - 1) < 7
    · exact ⟨2 ^ n - 1, by rw [if_pos c]; omega, by omega, Nat.le_refl _⟩
    · exact ⟨7, by rw [if_neg c]; rfl, by omega, by omega⟩
  rw [eM]
  ktf_call "d2"
  refine ⟨[], [], .nil, u, M, rfl, by omega, au, hM7, rfl, fun q1 l hl => ?_⟩
  have hlf := pieces_few au hM7 hl
  ktf_call "d2"
  refine ⟨[], _, .nil, v, M, rfl, by omega, av, hM7, rfl, fun q2 l2 hl2 => ?_⟩
  obtain rfl := (share_pieces hA hM hl).uniq hl2
  dsimp only [List.cons_append, List.nil_append]
  ktf_call "d2"
  case kk.refine_2.refine_1 => rename_i h _; exact absurd trivial h
  refine ⟨[], _, .nil, u, v, n, rfl, ⟨by omega, by omega⟩, hn, hA, rfl, ?_⟩
  dsimp only [List.cons_append, List.nil_append]
  refine kb ?_
  refine ⟨fun h => absurd h (by decide), fun _ => ?_⟩
  ktf_call "d2"
  refine ⟨_, _, rfl, ?_⟩
  obtain ⟨F4, eF, hF4, hFM⟩ : ∃ F4 : Nat, (if (M : Int) < 4 then (M : Int) else (4 : Int)) = (F4 : Int) ∧ F4 ≤ 4 ∧ F4 ≤ M := by
    by_cases c : (M : Int) < 4
    · exact ⟨M, by rw [if_pos c], by omega, Nat.le_refl _⟩
    · exact ⟨4, by rw [if_neg c]; rfl, by omega, by omega⟩
  rw [eF]
  ktf_call "d2"
  refine ds_lcK (own := [("name", 6)]) (ds := dS l) (fun j rs m => rs = ((l.take j).filter fun x => decide (x.length ≤ F4)).map rS ∧ m = [(q2, .lst (l.map rS))]) L (D.nd (by decide +kernel)) (by rw [D.sc]; decide +kernel) (by ktf_call "put") (blk_ok D (by decide +kernel)) (by decide +kernel) (by ktf_call "blk") (.name (by ktf_call "put") List.mem_cons_self) (by ktf_call "lk") (by simp only [dS, List.map_map]; rfl) (.there .here) ⟨rfl, rfl⟩ ?_ ?_ ?_ (sw_d D (by decide +kernel) (by decide +kernel) rfl (by decide +kernel))
  · rintro j d rs m' hd2 ⟨rfl, rfl⟩
    obtain ⟨hj, rfl⟩ := dS_at hd2
    have h7 := ((hl.2 _).mp (List.getElem_mem hj)).2
    refine turn1 fun Xb c' hX hL => ?_
    ktf_call "d2"
    · rename_i h1
      intro Xe hXe hLe
      ktf_call "d2"
      refine ⟨?_, rfl⟩
      rw [take_snoc hj, List.filter_append, List.map_append, List.filter_cons_of_pos (by simp; omega)]
      rfl
    · rename_i h1
      refine ⟨?_, rfl⟩
      rw [take_snoc hj, List.filter_append, List.filter_cons_of_neg (by simp; omega)]
      simp
  · rw [dS_len]; omega
  rintro rs m' q3 ⟨rfl, rfl⟩
  rw [dS_len, List.take_length]
  have hdu := few_pieces hFM hl
  have hdv := few_pieces hFM hl2
  have hdl : (l.filter fun x => decide (x.length ≤ F4)).length ≤ 3280 := Nat.le_trans (List.length_filter_le _ _) hlf
  generalize (l.filter fun x => decide (x.length ≤ F4)) = due at hdu hdv hdl
  ktf_call "d2"
  have key : ∀ (i : Nat) (h : i < [u, v].length), Pc.IsPieces [u, v][i] M l ∧ Pc.IsPieces [u, v][i] F4 due ∧ [u, v][i].length ≤ 40 ∧ Abc [u, v][i] := fun i h => by
    match i, h with
    | 0, _ => exact ⟨hl, hdu, hu, au⟩
    | 1, _ => exact ⟨hl2, hdv, hv, av⟩
  refine ds_perm (List.Perm.swap _ _ _) ?_
  refine ds_for (ds := dS [u, v]) (fun i σ m => σ = ([("first", some (rS u)), ("second", some (rS v)), ("level", some (D2.rI (n : Int))), ("most", some (D2.rI (M : Int))), ("names", some (.own q1)), ("few", some (D2.rI (F4 : Int))), ("name", none), ("due", some (.own q3)), ("word", none)] : Sl) ∧ m = [(q3, .lst (due.map rS)), (q1, .lst (l.map rS)), (q2, .lst (l.map rS))]) L (it_list ?_) ?_ ?_
  · ktf_call "d2"
    exact ⟨_, _, .lst .here (frzs_f _ D2.D.str [u, v]), rfl, rfl, rfl⟩
  · rintro i d σ' m' hd ⟨rfl, rfl⟩
    obtain ⟨hi, rfl⟩ := dS_at hd
    obtain ⟨k1, k2, k3, k4⟩ := key i hi
    generalize [u, v][i] = wd at k1 k2 k3 k4
    refine dg_name o_word (by ktf_call "put") ?_
    refine dss_lo ?_
    ktf_call "d2"
    refine ⟨[], _, .nil, wd, F4, rfl, by omega, Pc.abc_of k4, rfl, fun _ _ q4 l4 h4 => ?_, fun h => absurd h (by omega)⟩
    obtain rfl := k2.uniq h4
    dsimp only [List.cons_append, List.nil_append]
    ktf_call "d2"
    refine ⟨_, _, .cons .here (.cons .here .nil), q4, q3, due, rfl, rfl, by omega, fun x hx => ?_, ?_⟩
    · have := ((k2.2 x).mp hx).2; omega
    dsimp only [List.cons_append, List.nil_append]
    refine kb ?_
    refine ⟨fun h => absurd h (by decide), fun _ => ?_⟩
    ktf_call "d2"
    refine ds_for (ds := dS (l.drop (l.length - 40))) (fun i σ m => σ = ([("first", some (rS u)), ("second", some (rS v)), ("level", some (D2.rI (n : Int))), ("most", some (D2.rI (M : Int))), ("names", some (.own q1)), ("few", some (D2.rI (F4 : Int))), ("name", none), ("due", some (.own q3)), ("word", some (rS wd))] : Sl) ∧ m = [(q4, .lst (due.map rS)), (q3, .lst (due.map rS)), (q1, .lst (l.map rS)), (q2, .lst (l.map rS))]) L (it_list ?_) ?_ ?_
    · ktf_call "d2"
      refine ⟨_, _, rfl, ?_⟩
      rw [show (if ((l.length : Int) - 40) > 0 then ((l.length : Int) - 40) else (0 : Int)) = ((l.length - 40 : Nat) : Int) by split <;> omega]
      ktf_call "d2"
      rw [cutG_from, ← List.map_drop]
      exact ⟨_, _, .lst .here (frzs_f _ D2.D.str _), rfl, rfl, rfl⟩
    · rintro i d σ' m' hd ⟨rfl, rfl⟩
      obtain ⟨hi, rfl⟩ := dS_at hd
      have hm := (k1.2 _).mp (List.mem_of_mem_drop (List.getElem_mem hi))
      generalize (l.drop (l.length - 40))[i] = x at hm
      refine dg_name o_name (by ktf_call "put") ?_
      refine dss_lo ?_
      ktf_call "d2"
      refine ⟨[], _, .nil, x, wd, rfl, by omega, rfl, ?_⟩
      rw [Pc.isPiece_eq, decide_eq_true hm.1]
      dsimp only [List.cons_append, List.nil_append]
      ktf_call "d2"
      refine sp_flag rfl ?_
      dsimp only [List.cons_append, List.nil_append]
      refine kb ?_
      refine ⟨fun h => absurd h (by decide), fun _ => ?_⟩
      ktf_call "d2"
      exact ⟨_, _, by ktf_call "fog", List.Sublist.refl _, rfl, rfl⟩
    · rintro σ' m' ⟨rfl, rfl⟩
      refine dss_nil ?_
      exact ⟨_, _, by ktf_call "fog", (List.Sublist.refl _).cons _, rfl, rfl⟩
  · rintro σ' m' ⟨rfl, rfl⟩
    ktf_call "d2"
    exact ⟨_, List.nil_sublist _, hk⟩
def spSharp : Sp2 := fun rs m Kr Ke => ∃ (ch n : Nat), rs = [rS [ch], D2.rI (n : Int)] ∧ Abc [ch] ∧ n ≤ 5 ∧ m = [] ∧ Kr (rB true) []
theorem rep_flat (ch k : Nat) : (List.replicate k [ch]).flatten = RK.pow [ch] k := by
  rw [pow_one]
  induction k with
  | zero => rfl
  | succ k ih => rw [List.replicate_succ, List.flatten_cons, ih, List.replicate_succ]; rfl
theorem sc__law_sharp : FnScope ["letter", "level", "few", "many", "told"] ["letter", "level"] (defScope (top 38)) := ⟨rfl, rfl, rfl, by decide +kernel, rfl, by decide +kernel, by decide +kernel⟩
theorem ok_sharp {C_BadWord C_TooLarge C_BadNumber : Addr} (F : FunD K "_law_sharp" "_law_sharp" (defArgs (top 38)) (defBody (top 38)) (defScope (top 38)) [] [] f fd) (c__law_flag : CalleeG P w K mg base "_law_flag" 1 spFlag) (c_alike_in_rounds : CalleeG P w K mg base "alike_in_rounds" 18 (spRAlike C_BadWord C_TooLarge C_BadNumber)) (c_is_piece : CalleeG P w K mg base "is_piece" 1 Pc.spIsPiece) (c_rounds_apart : CalleeG P w K mg base "rounds_apart" 19 (spRApart C_BadWord C_TooLarge)) (m0_isinstance : mg "isinstance" = none) (m0_int : mg "int" = none) (m0_bool : mg "bool" = none) : FnOk P w K mg base (L2N.CX P w) (20) f fd ["letter", "level"] (spOf K spSharp) := by
  refine fn2 F sc__law_sharp (by decide +kernel) (fun rs m Kr Ke ⟨_, _, e, _⟩ => by rw [e]; rfl) fun X c rs m Kr Ke D L hx ⟨ch, n, er, hch, hn, em, hk⟩ => ?_
  subst er em
  have e__law_flag : Callee X "_law_flag" 1 spFlag := D.callee c__law_flag
  have e_alike_in_rounds : Callee X "alike_in_rounds" 18 (spRAlike C_BadWord C_TooLarge C_BadNumber) := D.callee c_alike_in_rounds
  have e_is_piece : Callee X "is_piece" 1 Pc.spIsPiece := D.callee c_is_piece
  have e_rounds_apart : Callee X "rounds_apart" 19 (spRApart C_BadWord C_TooLarge) := D.callee c_rounds_apart
  have m_isinstance : X.mg "isinstance" = none := D.mg_ m0_isinstance
  have m_int : X.mg "int" = none := D.mg_ m0_int
  have m_bool : X.mg "bool" = none := D.mg_ m0_bool
  have g__law_flag : Gl X "_law_flag" := D.gl (by decide +kernel)
  have g_alike_in_rounds : Gl X "alike_in_rounds" := D.gl (by decide +kernel)
  have g_is_piece : Gl X "is_piece" := D.gl (by decide +kernel)
  have g_rounds_apart : Gl X "rounds_apart" := D.gl (by decide +kernel)
  have g_isinstance : Gl X "isinstance" := D.gl (by decide +kernel)
  have g_int : Gl X "int" := D.gl (by decide +kernel)
  have g_bool : Gl X "bool" := D.gl (by decide +kernel)
  have o_few : Own X "few" := D.own (by decide +kernel)
  have o_many : Own X "many" := D.own (by decide +kernel)
  have o_told : Own X "told" := D.own (by decide +kernel)
  refine dss_lo ?_
  show DSs X c [("letter", some (rS [ch])), ("level", some (D2.rI (n : Int))), ("few", none), ("many", none), ("told", none)] [] (_ :: _) _
  have hp : 0 < 2 ^ n := Nat.two_pow_pos n
  have hp5 : 2 ^ n ≤ 2 ^ 5 := Nat.pow_le_pow_right (by omega) hn
  have hq : 2 ^ (n + 1) = 2 * 2 ^ n := by rw [Nat.pow_succ]; omega
  have hok : ∀ k, k ≤ 32 → WOk 40 (RK.pow [ch] k) := fun k hk => ⟨fun x hx => hch x (by rw [pow_one] at hx; rw [List.eq_of_mem_replicate hx]; exact List.mem_singleton_self _), by rw [pow_len]; simp; omega⟩
  have hA : A n (RK.pow [ch] (2 ^ n - 1)) (RK.pow [ch] (2 ^ n)) := A.pow _ (Nat.le_refl _) (by omega)
  have hN : ¬ A (n + 1) (RK.pow [ch] (2 ^ n - 1)) (RK.pow [ch] (2 ^ n)) := by rw [A.one]; omega
  have hl1 : (RK.pow [ch] (2 ^ n - 1)).length = 2 ^ n - 1 := by rw [pow_len]; simp
  have hl2 : (RK.pow [ch] (2 ^ n)).length = 2 ^ n := by rw [pow_len]; simp
  have ok1 := hok (2 ^ n - 1) (by omega)
  have ok2 := hok (2 ^ n) (by omega)
  ktf_call "d2"
  refine o_shl1 (by omega) ?_
  ktf_call "d2"
  rw [show (((2 ^ n : Nat) : Int) - 1) = ((2 ^ n - 1 : Nat) : Int) by omega]
  refine o_mulStr (by omega) (by omega) (by simp; omega) (by simp) ?_
  ktf_call "d2"
  refine o_shl1 (by omega) ?_
  ktf_call "d2"
  refine o_mulStr (by omega) (by omega) (by rw [Int.toNat_natCast]; simp only [List.length_singleton]; omega) (by simp) ?_
  rw [Int.toNat_natCast, Int.toNat_natCast, rep_flat, rep_flat]
  generalize RK.pow [ch] (2 ^ n - 1) = few at *
  generalize RK.pow [ch] (2 ^ n) = many at *
  ktf_call "d2"
  refine sp_alike ok1 ok2 rfl (by omega) fun b hb => ?_
  obtain rfl : b = true := hb.mpr hA
  dsimp only [List.cons_append, List.nil_append]
  ktf_call "d2"
  refine sp_flag rfl ?_
  dsimp only [List.cons_append, List.nil_append]
  first | refine kb ⟨fun h => absurd h (by decide), fun _ => ?_⟩ | refine kb ⟨fun _ => ?_, fun h => absurd h (by decide)⟩
  ktf_call "d2"
  refine sp_alike ok2 ok1 (l := n + 1) rfl (by omega) fun b hb => ?_
  obtain rfl : b = false := by
    cases b
    · rfl
    · exact absurd (hb.mp rfl).symm hN
  dsimp only [List.cons_append, List.nil_append]
  ktf_call "d2"
  refine ⟨[], _, .nil, false, false, rfl, rfl, ?_⟩
  dsimp only [List.cons_append, List.nil_append]
  first | refine kb ⟨fun h => absurd h (by decide), fun _ => ?_⟩ | refine kb ⟨fun _ => ?_, fun h => absurd h (by decide)⟩
  ktf_call "d2"
  refine sp_isPiece (by omega) (b := false) ⟨fun h => (by cases h), fun h => absurd h.length_le (by omega)⟩ ?_
  dsimp only [List.cons_append, List.nil_append]
  ktf_call "d2"
  refine ⟨[], _, .nil, false, false, rfl, rfl, ?_⟩
  dsimp only [List.cons_append, List.nil_append]
  first | refine kb ⟨fun h => absurd h (by decide), fun _ => ?_⟩ | refine kb ⟨fun _ => ?_, fun h => absurd h (by decide)⟩
  ktf_call "d2"
  refine sp_isPiece (by omega) (b := true) ⟨fun _ => List.Sublist.refl _, fun _ => rfl⟩ ?_
  dsimp only [List.cons_append, List.nil_append]
  ktf_call "d2"
  refine sp_flag rfl ?_
  dsimp only [List.cons_append, List.nil_append]
  first | refine kb ⟨fun h => absurd h (by decide), fun _ => ?_⟩ | refine kb ⟨fun _ => ?_, fun h => absurd h (by decide)⟩
  ktf_call "d2"
  refine sp_rapart ok1 ok2 (fun h => absurd (congrArg List.length h) (by omega)) fun _ r hr => ?_
  obtain rfl : r = n + 1 := by
    by_cases c1 : r ≤ n
    · exact absurd (hA.le c1) hr.1
    · by_cases c2 : n + 1 < r
      · exact absurd (hr.2 _ c2) hN
      · omega
  dsimp only [List.cons_append, List.nil_append]
  ktf_call "d2"
  rw [decide_eq_true (by omega)]
  exact ⟨_, List.nil_sublist _, hk⟩
end
end NC
/-! ## D2Non -/
set_option Elab.async false
set_option linter.all false
set_option maxRecDepth 100000
set_option maxHeartbeats 2000000
/-! is None, s in a list of texts -/
namespace D2
open PySem PySem.Spec PyProof.Rows L2
section
variable {X : Cx} {c : Ct} {σ : Sl} {m : Mem} {K : R → Mem → Prop}
theorem o_isNon (k : K (rB true) m) : OP X c σ m (compareOp .Is) (.dat .non) (.dat .non) K := fun pins s τ H G v1 v2 u1 u2 Q I E q1 q2 rx ry q => by
  cases q1 with | dat q1 => cases q2 with | dat q2 =>
  cases q1; cases q2
  cases (show u1 = Value.none from rx)
  cases (show u2 = Value.none from ry)
  exact wpAny_is_self rfl ⟨.bl true, H, I, rfl, q.now k E (.dat .bl)⟩
theorem o_isnNon (k : K (rB false) m) : OP X c σ m (compareOp .IsNot) (.dat .non) (.dat .non) K := fun pins s τ H G v1 v2 u1 u2 Q I E q1 q2 rx ry q => by
  cases q1 with | dat q1 => cases q2 with | dat q2 =>
  cases q1; cases q2
  cases (show u1 = Value.none from rx)
  cases (show u2 = Value.none from ry)
  exact wpAny_isNot_self rfl ⟨.bl false, H, I, rfl, q.now k E (.dat .bl)⟩
theorem o_isNonI {i : Int} (k : K (rB false) m) : OP X c σ m (compareOp .Is) (rI i) (.dat .non) K := fun pins s τ H G v1 v2 u1 u2 Q I E q1 q2 rx ry q => by
  cases q1 with | dat q1 => cases q2 with | dat q2 =>
  cases q1; cases q2
  obtain ⟨t, ht, rfl⟩ := rx
  cases (show u2 = Value.none from ry)
  exact wpAny_is_other rfl (fun z => by cases z) ⟨.bl false, H, I, rfl, q.now k E (.dat .bl)⟩
theorem o_isnNonI {i : Int} (k : K (rB true) m) : OP X c σ m (compareOp .IsNot) (rI i) (.dat .non) K := fun pins s τ H G v1 v2 u1 u2 Q I E q1 q2 rx ry q => by
  cases q1 with | dat q1 => cases q2 with | dat q2 =>
  cases q1; cases q2
  obtain ⟨t, ht, rfl⟩ := rx
  cases (show u2 = Value.none from ry)
  exact wpAny_isNot_other rfl (fun z => by cases z) ⟨.bl true, H, I, rfl, q.now k E (.dat .bl)⟩
theorem o_inL {kk : Nat} {k : NestedKey} {ks : List NestedKey} {r2 : R} (L : Live X c kk) (hd : k.depth ≤ 60) (hv : VL m r2 ((nDs ks).map .dat)) (z : K (rB (decide (k ∈ ks))) m) : OP X c σ m (compareOp .In) (rN k) r2 K := fun pins s τ H G v1 v2 u1 u2 Q I E q1 q2 rx ry q => by
  obtain ⟨as, a1⟩ := Dp.reads I k.data v1 u1 ((pv_nD m k).dp E q1) rx
  obtain ⟨bs, a2⟩ := Dp.reads I (.list (NestedKey.datas ks)) v2 u2 (PV.dp E (PV.lst hv (pvs_nD m ks)) q2) ry
  refine SeqAt.in_list_data a2 a1 (plain_keys ks) (plain_key k) (by have := L.room.units; have := depth_key k; have := Nat.min_le_right (PyData.depthAll (NestedKey.datas ks)) k.data.depth; omega) ⟨.bl _, H, I, rfl, ?_⟩
  rw [any_key]
  exact q.now z E (.dat .bl)
theorem txt_mem {s : List Nat} {ss : List (List Nat)} : decide (NestedKey.text (sOf s) ∈ ss.map fun t => NestedKey.text (sOf t)) = decide (s ∈ ss) := by
  rw [Bool.eq_iff_iff, decide_eq_true_eq, decide_eq_true_eq, List.mem_map]
  constructor
  · rintro ⟨t, ht, e⟩
    have e2 : sOf t = sOf s := NestedKey.text.inj e
    have e3 : t = s := by rw [← lit_sOf t, e2, lit_sOf]
    rw [← e3]; exact ht
  · intro h
    exact ⟨s, h, rfl⟩
theorem o_inLS {kk : Nat} {s : List Nat} {ss : List (List Nat)} {r2 : R} (L : Live X c kk) (hv : VL m r2 (ss.map rS)) (z : K (rB (decide (s ∈ ss))) m) : OP X c σ m (compareOp .In) (rS s) r2 K := by
  have h : OP X c σ m (compareOp .In) (rN (.text (sOf s))) r2 K := o_inL (ks := ss.map fun t => NestedKey.text (sOf t)) L (by rw [NestedKey.depth]; omega) (by
    rw [nDs_map, List.map_map, List.map_map]
    exact hv) (by rw [txt_mem]; exact z)
  exact h
end
end D2
/-! ## NR37e -/
set_option Elab.async false
set_option linter.all false
set_option maxRecDepth 100000
set_option maxHeartbeats 2000000
set_option pp.maxSteps 1500
/-! k37: the law -/
namespace NC
open PySem PySem.Spec PyProof.Rows L2 D2 RK
local macro_rules | `(tactic| ktf_call "lk") => `(tactic| (with_reducible first | exact Lk.here | exact (Lk.there Lk.here) | exact (Lk.there (Lk.there Lk.here)) | exact (Lk.there (Lk.there (Lk.there Lk.here))) | exact (Lk.there (Lk.there (Lk.there (Lk.there Lk.here)))) | exact (Lk.there (Lk.there (Lk.there (Lk.there (Lk.there Lk.here))))) | exact (Lk.there (Lk.there (Lk.there (Lk.there (Lk.there (Lk.there Lk.here)))))) | exact (Lk.there (Lk.there (Lk.there (Lk.there (Lk.there (Lk.there (Lk.there Lk.here))))))) | exact (Lk.there (Lk.there (Lk.there (Lk.there (Lk.there (Lk.there (Lk.there (Lk.there Lk.here)))))))) | exact (Lk.there (Lk.there (Lk.there (Lk.there (Lk.there (Lk.there (Lk.there (Lk.there (Lk.there Lk.here))))))))) | exact (Lk.there (Lk.there (Lk.there (Lk.there (Lk.there (Lk.there (Lk.there (Lk.there (Lk.there (Lk.there Lk.here)))))))))) | exact (Lk.there (Lk.there (Lk.there (Lk.there (Lk.there (Lk.there (Lk.there (Lk.there (Lk.there (Lk.there (Lk.there Lk.here))))))))))) | exact (Lk.there (Lk.there (Lk.there (Lk.there (Lk.there (Lk.there (Lk.there (Lk.there (Lk.there (Lk.there (Lk.there (Lk.there Lk.here)))))))))))) | exact (Lk.there (Lk.there (Lk.there (Lk.there (Lk.there (Lk.there (Lk.there (Lk.there (Lk.there (Lk.there (Lk.there (Lk.there (Lk.there Lk.here))))))))))))) | fail "none"))
local macro_rules | `(tactic| ktf_call "put") => `(tactic| (with_reducible first | exact PutF.here | exact (PutF.there PutF.here) | exact (PutF.there (PutF.there PutF.here)) | exact (PutF.there (PutF.there (PutF.there PutF.here))) | exact (PutF.there (PutF.there (PutF.there (PutF.there PutF.here)))) | exact (PutF.there (PutF.there (PutF.there (PutF.there (PutF.there PutF.here))))) | exact (PutF.there (PutF.there (PutF.there (PutF.there (PutF.there (PutF.there PutF.here)))))) | exact (PutF.there (PutF.there (PutF.there (PutF.there (PutF.there (PutF.there (PutF.there PutF.here))))))) | exact (PutF.there (PutF.there (PutF.there (PutF.there (PutF.there (PutF.there (PutF.there (PutF.there PutF.here)))))))) | exact (PutF.there (PutF.there (PutF.there (PutF.there (PutF.there (PutF.there (PutF.there (PutF.there (PutF.there PutF.here))))))))) | exact (PutF.there (PutF.there (PutF.there (PutF.there (PutF.there (PutF.there (PutF.there (PutF.there (PutF.there (PutF.there PutF.here)))))))))) | exact (PutF.there (PutF.there (PutF.there (PutF.there (PutF.there (PutF.there (PutF.there (PutF.there (PutF.there (PutF.there (PutF.there PutF.here))))))))))) | exact (PutF.there (PutF.there (PutF.there (PutF.there (PutF.there (PutF.there (PutF.there (PutF.there (PutF.there (PutF.there (PutF.there (PutF.there PutF.here)))))))))))) | exact (PutF.there (PutF.there (PutF.there (PutF.there (PutF.there (PutF.there (PutF.there (PutF.there (PutF.there (PutF.there (PutF.there (PutF.there (PutF.there PutF.here))))))))))))) | fail "none"))
local macro_rules | `(tactic| ktf_call "has") => `(tactic| (with_reducible first | exact Has.here | exact (Has.there Has.here) | exact (Has.there (Has.there Has.here)) | exact (Has.there (Has.there (Has.there Has.here))) | exact (Has.there (Has.there (Has.there (Has.there Has.here)))) | exact (Has.there (Has.there (Has.there (Has.there (Has.there Has.here))))) | exact (Has.there (Has.there (Has.there (Has.there (Has.there (Has.there Has.here)))))) | exact (Has.there (Has.there (Has.there (Has.there (Has.there (Has.there (Has.there Has.here))))))) | fail "none"))
local macro_rules | `(tactic| ktf_call "chg") => `(tactic| (with_reducible first | exact Chg.here | exact (Chg.there Chg.here) | exact (Chg.there (Chg.there Chg.here)) | exact (Chg.there (Chg.there (Chg.there Chg.here))) | exact (Chg.there (Chg.there (Chg.there (Chg.there Chg.here)))) | exact (Chg.there (Chg.there (Chg.there (Chg.there (Chg.there Chg.here))))) | exact (Chg.there (Chg.there (Chg.there (Chg.there (Chg.there (Chg.there Chg.here)))))) | exact (Chg.there (Chg.there (Chg.there (Chg.there (Chg.there (Chg.there (Chg.there Chg.here))))))) | fail "none"))
local macro_rules | `(tactic| ktf_call "vl") => `(tactic| first | ((with_reducible refine' VL.own ?cv); (case cv => ktf_call "has")) | with_reducible exact VL.dat | fail "vl")
local macro_rules | `(tactic| ktf_call "vu") => `(tactic| ((with_reducible refine' VU.own ?cv); (case cv => ktf_call "has")))
local macro_rules | `(tactic| ktf_call "ati") => `(tactic| first | assumption | exact ati_l rfl | fail "ati")
local macro_rules | `(tactic| ktf_call "vi") => `(tactic| first | with_reducible exact vi_dat | ((with_reducible refine' vi_own ?cv); (case cv => ktf_call "has")) | ((with_reducible refine' vi_nil ?cv); (case cv => ktf_call "vl")) | fail "vi")
local macro_rules | `(tactic| ktf_call "vs") => `(tactic| first | with_reducible exact vs_dat | ((with_reducible refine' vs_own ?cv); (case cv => ktf_call "has")) | ((with_reducible refine' vs_nil ?cv); (case cv => ktf_call "vl")) | fail "vs")
local macro_rules | `(tactic| ktf_call "hyp") => `(tactic| simp only [decide_eq_true_eq, decide_eq_false_iff_not, Bool.not_eq_true', Bool.not_eq_false', Bool.not_true, Bool.not_false, Bool.true_eq_false, Bool.false_eq_true, Int.not_lt, Int.not_le] at *)
local macro_rules | `(tactic| ktf_call "side") => `(tactic| first | assumption | decide | omega | (simp only [List.length_cons, List.length_nil, List.length_map]; omega) | exact ⟨Int.emod_nonneg _ (by omega), Int.emod_lt_of_pos _ (by omega)⟩ | (decide +kernel) | (simp; done) | (simp; omega))
local macro_rules | `(tactic| ktf_call "cmul") => `(tactic| first | assumption | exact cm_l (by omega) (by omega) | exact cm_r (by omega) (by omega) | fail "cmul")
local macro_rules | `(tactic| ktf_call "cdiv") => `(tactic| first | assumption | exact ⟨by assumption, by assumption⟩ | exact cd_s (by omega) (by omega) | fail "cdiv")
local macro_rules | `(tactic| ktf_call "frz") => `(tactic| (repeat (first | exact Frz.dat | exact Frzs.nil | apply Frzs.cons | apply Frz.lst | exact Frzs.map _ _)))
local macro_rules | `(tactic| ktf_call "ln") => `(tactic| first | ((with_reducible refine' ln_I ?cv); (case cv => ktf_call "vi")) | ((with_reducible refine' ln_S ?cv); (case cv => ktf_call "vs")) | ((with_reducible refine' Ln.lst ?cv); (case cv => ktf_call "vl")) | ((with_reducible refine' Ln.str ?cv); (case cv => ktf_call "side")) | with_reducible exact Ln.tup | fail "ln")
local macro_rules | `(tactic| ktf_call "tym") => `(tactic| first | with_reducible exact TyM.str | with_reducible exact TyM.lst (by ktf_call "vl") | with_reducible exact TyM.int | with_reducible exact TyM.dk (by ktf_call "has"))
local macro_rules | `(tactic| ktf_call "gl") => `(tactic| first | assumption | exact Def.gl (by assumption) (by decide +kernel) | exact IsBlk.gl (by assumption) (by decide +kernel) | exact IsBlkH.gl (by assumption) (by decide +kernel) | fail "gl")
local macro_rules | `(tactic| ktf_call "mg") => `(tactic| first | assumption | exact Def.mg_ (by assumption) (by assumption) | exact IsBlk.mg (by assumption) (by ktf_call "mg") | exact IsBlkH.mg (by assumption) (by ktf_call "mg") | fail "mg")
local macro_rules | `(tactic| ktf_call "own") => `(tactic| first | assumption | exact Def.own (by assumption) (by decide +kernel) | fail "own")
local macro_rules | `(tactic| ktf_call "cal") => `(tactic| first | assumption | exact Def.callee (by assumption) (by assumption) | exact IsBlk.callee (by assumption) (by ktf_call "cal") | fail "cal")
local macro_rules | `(tactic| ktf_call "fog") => `(tactic| (repeat (first | with_reducible exact Fog.nil | with_reducible apply Fog.keep | with_reducible apply Fog.drop)))
local macro_rules | `(tactic| ktf_call "blk") => `(tactic| first | with_reducible exact Blk.nil | exact Blk.keep (by decide +kernel) (by ktf_call "blk") | exact Blk.drop (by ktf_call "blk"))
local macro_rules | `(tactic| ktf_call "sub") => `(tactic| (repeat (with_reducible first | exact List.Sublist.slnil | exact List.nil_sublist _ | exact sub_nil _ | apply List.Sublist.cons_cons | apply List.Sublist.cons)))
local macro_rules | `(tactic| ktf_call "ce") => `(tactic| fail "ce")
-- expressions
local macro_rules | `(tactic| ktf_call "e") => `(tactic| first
  | ((with_reducible show DE _ _ _ _ (.Name _ _) _); refine de_name (by ktf_call "lk") ?_)
  | ((with_reducible show DE _ _ _ _ (.Constant _ _ _) _); first | refine de_int ?_ | refine de_str ?_ | refine de_bl ?_ | refine de_non ?_)
  | ((with_reducible show DE _ _ _ _ (.BinOp _ _ _ _) _); refine de_bin ?_)
  | ((with_reducible show DE _ _ _ _ (.Subscript _ (.Slice _ _ none _) _) _); refine d_slice ?_)
  | ((with_reducible show DE _ _ _ _ (.Subscript _ _ _) _); refine de_ix ?_)
  | ((with_reducible show DE _ _ _ _ (.Call (.Name _ _) _ _ _) _); first
      | ((with_reducible show DE _ _ _ _ (.Call (.Name "len" _) _ _ _) _); refine d_len (by ktf_call "gl") (by ktf_call "mg") ?_)
      | ((with_reducible show DE _ _ _ _ (.Call (.Name "int" _) _ _ _) _); refine d_int (by ktf_call "gl") (by ktf_call "mg") ?_)
      | ((with_reducible show DE _ _ _ _ (.Call (.Name "abs" _) _ _ _) _); refine d_abs (by ktf_call "gl") (by ktf_call "mg") ?_)
      | ktf_call "ce"
      | refine de_call (by ktf_call "cal") (by assumption) (by ktf_call "gl") ?_ (hjk := by omega))
  | ((with_reducible show DE _ _ _ _ (.Call (.Attribute _ "join" _) _ _ _) _); refine d_join ?_)
  | ((with_reducible show DE _ _ _ _ (.Call (.Attribute _ "append" _) _ _ _) _); refine d_appendL ?_)
  | ((with_reducible show DE _ _ _ _ (.Call (.Attribute _ "extend" _) _ _ _) _); refine d_extendL ?_)
  | ((with_reducible show DE _ _ _ _ (.Call (.Attribute _ "find" _) [_, _] _ _) _); refine d_find3 ?_)
  | ((with_reducible show DE _ _ _ _ (.Compare _ [_] [_] _) _); refine de_cmp ?_)
  | ((with_reducible show DE _ _ _ _ (.BoolOp _ [_] _) _); refine de_bo1 ?_)
  | ((with_reducible show DE _ _ _ _ (.BoolOp .And _ _) _); refine de_and ?_)
  | ((with_reducible show DE _ _ _ _ (.BoolOp .Or _ _) _); refine de_or ?_)
  | ((with_reducible show DE _ _ _ _ (.UnaryOp .Not _ _) _); refine de_not ?_)
  | ((with_reducible show DE _ _ _ _ (.UnaryOp _ _ _) _); refine de_un ?_)
  | ((with_reducible show DE _ _ _ _ (.List _ _) _); refine de_lst ?_)
  | ((with_reducible show DE _ _ _ _ (.Tuple _ _ _) _); refine de_tup ?_)
  | ((with_reducible show DE _ _ _ _ (.IfExp _ _ _ _) _); refine de_if ?_))
local macro_rules | `(tactic| ktf_call "o") => `(tactic| first
  | ((with_reducible show OP _ _ _ _ (binaryOp _) _ _ _); first
    | ((with_reducible refine' o_add  ?kk))
    | ((with_reducible refine' o_addS ?ca ?kk); (case ca => ktf_call "side"))
    | ((with_reducible refine' o_cat ?ca ?cb ?cd (fun p => ?kk)); (case ca => ktf_call "vu"); (case cb => ktf_call "vu"); (case cd => ktf_call "side"))
    | ((with_reducible refine' o_sub  ?kk))
    | ((with_reducible refine' o_mulS ?ca ?kk); (case ca => ktf_call "cmul"))
    | ((with_reducible refine' o_mul ?ca ?kk); (case ca => assumption))
    | ((with_reducible refine' o_div ?ca ?kk); (case ca => ktf_call "cdiv"))
    | ((with_reducible refine' o_mod ?ca ?kk); (case ca => (first | assumption | omega | decide)))
    | ((with_reducible refine' o_pow ?ca ?kk); (case ca => decide))
    | fail "o")
  | ((with_reducible show OP _ _ _ _ (compareOp _) _ _ _); first
    | ((with_reducible refine' o_lt  ?kk))
    | ((with_reducible refine' o_le  ?kk))
    | ((with_reducible refine' o_gt  ?kk))
    | ((with_reducible refine' o_ge  ?kk))
    | ((with_reducible refine' o_eqI  ?kk))
    | ((with_reducible refine' o_eqS  ?kk))
    | ((with_reducible refine' o_eqB  ?kk))
    | ((with_reducible refine' o_eqLI ?ca ?cb ?cd ?kk); (case ca => assumption); (case cb => ktf_call "vi"); (case cd => ktf_call "vi"))
    | ((with_reducible refine' o_eqLS ?ca ?cb ?cd ?kk); (case ca => assumption); (case cb => ktf_call "vs"); (case cd => ktf_call "vs"))
    | ((with_reducible refine' o_neI  ?kk))
    | ((with_reducible refine' o_neS  ?kk))
    | ((with_reducible refine' o_neLI ?ca ?cb ?cd ?kk); (case ca => assumption); (case cb => ktf_call "vi"); (case cd => ktf_call "vi"))
    | ((with_reducible refine' o_neLS ?ca ?cb ?cd ?kk); (case ca => assumption); (case cb => ktf_call "vs"); (case cd => ktf_call "vs"))
    | ((with_reducible refine' o_isB  ?kk))
    | fail "o")
  | ((with_reducible refine' u_neg  ?kk))
  | ((with_reducible refine' x_I ?ca ?cb ?kk); (case ca => ktf_call "vi"); (case cb => ktf_call "side"))
  | ((with_reducible refine' x_S ?ca ?cb ?kk); (case ca => ktf_call "vs"); (case cb => ktf_call "side"))
  | ((with_reducible refine' x_B ?ca ?cb ?kk); (case ca => ((with_reducible refine' vb_own ?cv); (case cv => ktf_call "has"))); (case cb => ktf_call "side"))
  | ((with_reducible refine' x_ch ?ca ?cb ?kk); (case ca => ktf_call "side"); (case cb => ktf_call "side"))
  | ((with_reducible refine' x_lst ?ca ?cb ?kk); (case ca => ktf_call "vl"); (case cb => ktf_call "ati"))
  | ((with_reducible refine' x_tup ?ca ?kk); (case ca => ktf_call "ati"))
  | ((with_reducible refine' x_str ?ca ?cb ?kk); (case ca => ktf_call "side"); (case cb => ktf_call "ati"))
  | ((with_reducible refine' s_lst ?ca (fun p => ?kk)); (case ca => ktf_call "vl"))
  | ((with_reducible refine' s_str ?ca ?kk); (case ca => ktf_call "side"))
  | fail "o")
local macro_rules | `(tactic| ktf_call "t") => `(tactic| first
  | ((with_reducible show DT _ _ _ _ (.Compare _ [_] [_] _) _); refine dt_cmp ?_)
  | ((with_reducible show DT _ _ _ _ (.BoolOp _ _ _) _); refine dt_bool ?_)
  | ((with_reducible show DT _ _ _ _ (.UnaryOp .Not _ _) _); refine dt_not ?_)
  | ((with_reducible show DT _ _ _ _ _ _); refine dt_val ?_)
  | ((with_reducible show DW _ _ _ _ (.BoolOp .And [_] _) _); refine dw_and1 ?_)
  | ((with_reducible show DW _ _ _ _ (.BoolOp .Or [_] _) _); refine dw_or1 ?_)
  | ((with_reducible show DW _ _ _ _ (.BoolOp .And _ _) _); refine dw_and ?_)
  | ((with_reducible show DW _ _ _ _ (.BoolOp .Or _ _) _); refine dw_or ?_))
local macro_rules | `(tactic| ktf_call "s") => `(tactic| first
  | ((with_reducible show DSs _ _ _ _ (List.drop _ _) _); first | refine dss_at rfl ?_ | refine dss_end rfl ?_)
  | ((with_reducible show DSs _ _ _ _ (_ :: _) _); refine dss_cons ?_)
  | ((with_reducible show DSs _ _ _ _ [] _); refine dss_nil ?_)
  | ((with_reducible show DS _ _ _ _ (.If _ _ _ _) _); refine ds_if ?_)
  | ((with_reducible show DS _ _ _ _ (.Return (some _) _) _); refine ds_ret ?_)
  | ((with_reducible show DS _ _ _ _ (.Assign [.Name _ _] _ _) _); refine ds_asg (by ktf_call "own") (by ktf_call "put") ?_)
  | ((with_reducible show DS _ _ _ _ (.Assign [.Subscript _ _ _] _ _) _); refine ds_setL ?_)
  | ((with_reducible show DS _ _ _ _ (.Expr _ _) _); refine ds_expr ?_)
  | ((with_reducible show DS _ _ _ _ (.AugAssign (.Name _ _) .Add _ _) _); refine ds_augI ip_add (by ktf_call "own") (by ktf_call "lk") (by ktf_call "put") ?_)
  | ((with_reducible show DS _ _ _ _ (.AugAssign (.Name _ _) .Sub _ _) _); refine ds_augI ip_sub (by ktf_call "own") (by ktf_call "lk") (by ktf_call "put") ?_)
  | fail "s")
local macro_rules | `(tactic| ktf_call "k") => `(tactic| first
  | ((with_reducible show DA _ _ _ _ [] _); refine da_nil ?_)
  | ((with_reducible show DA _ _ _ _ (_ :: _) _); refine da_cons ?_)
  | ((with_reducible show DO _ _ _ _ none _); refine do_none ?_)
  | ((with_reducible show DO _ _ _ _ (some _) _); refine do_some ?_)
  | ((with_reducible show KB _ _ _); refine kb ?_)
  | ((with_reducible show (_ = true → _) ∧ (_ = false → _)); refine ⟨fun hyp => ?_, fun hyp => ?_⟩ <;> (try simp only [decide_eq_true_eq, decide_eq_false_iff_not, Bool.not_eq_true', Bool.not_eq_false', Bool.not_true, Bool.not_false, Bool.true_eq_false, Bool.false_eq_true, Int.not_lt, Int.not_le, nil_len, Nat.pos_iff_ne_zero.symm] at hyp))
  | ((with_reducible show (_ = false → _) ∧ (_ = true → _)); refine ⟨fun hyp => ?_, fun hyp => ?_⟩ <;> (try simp only [decide_eq_true_eq, decide_eq_false_iff_not, Bool.not_eq_true', Bool.not_eq_false', Bool.not_true, Bool.not_false, Bool.true_eq_false, Bool.false_eq_true, Int.not_lt, Int.not_le, nil_len, Nat.pos_iff_ne_zero.symm] at hyp))
  | ((with_reducible show ∃ d, rB _ = rB d ∧ _); refine ⟨_, rfl, ?_⟩)
  | ((with_reducible show ∃ d, D2.rI _ = D2.rI d ∧ _); refine ⟨_, rfl, ?_⟩)
  | ((with_reducible show ∃ n, Ln _ _ n ∧ _); refine ⟨_, by ktf_call "ln", ?_⟩)
  | ((with_reducible refine' Exists.intro _ (Exists.intro _ (Exists.intro _ (Exists.intro _ (Exists.intro _ (And.intro rfl (And.intro rfl (And.intro ?ch (And.intro ?ix ?_))))))))); (case ch => ktf_call "chg"); (case ix => first | exact ixN_ok (by ktf_call "side") (by ktf_call "side") | exact rfl))
  | ((with_reducible show rS _ = rS [] ∧ _); refine ⟨rfl, ?_⟩)
  | ((with_reducible show ∃ s, rS _ = rS s ∧ _); refine ⟨_, rfl, ?_⟩)
  | ((with_reducible refine' Exists.intro _ (Exists.intro _ (Exists.intro _ (And.intro rfl (And.intro ?ch ?_))))); (case ch => ktf_call "has"))
  | ((with_reducible refine' Exists.intro _ (Exists.intro _ (And.intro ?ch (And.intro ?cl ?_)))); (case ch => ktf_call "chg"); (case cl => ktf_call "side"))
  | ((with_reducible refine' Exists.intro _ (Exists.intro _ (Exists.intro _ (And.intro ?ch (And.intro ?cu (And.intro ?cl ?_)))))); (case ch => ktf_call "chg"); (case cu => ktf_call "vu"); (case cl => ktf_call "side"))
  | ((with_reducible show _ ≤ 1000000 ∧ _); first | refine ⟨by ktf_call "side", fun p => ?_⟩ | refine ⟨by ktf_call "side", _, _, by ktf_call "frz", ?_⟩)
  | ktf_call "sp"
  | fail "k")
local macro_rules | `(tactic| ktf_call "d2") => `(tactic| (repeat' (first
  | ((with_reducible show DE _ _ _ _ _ _); ktf_call "e")
  | ((with_reducible show OP _ _ _ _ _ _ _ _); ktf_call "o")
  | ((with_reducible show IX _ _ _ _ _ _ _ _ _); ktf_call "o")
  | ((with_reducible show DT _ _ _ _ _ _); ktf_call "t")
  | ((with_reducible show DW _ _ _ _ _ _); ktf_call "t")
  | ((with_reducible show DA _ _ _ _ _ _); ktf_call "k")
  | ((with_reducible show DS _ _ _ _ _ _); ktf_call "s")
  | ((with_reducible show DSs _ _ _ _ _ _); ktf_call "s")
  | ((with_reducible show UP _ _ _ _ _ _ _); ktf_call "o")
  | ((with_reducible show SlK _ _ _ _ _ _ _ _); ktf_call "o")
  | ktf_call "k" | fail "stuck")))
local macro_rules | `(tactic| ktf_call "kitb") => `(tactic| with_reducible first | exact kitb_NoneType_int | exact kitb_NoneType_bool | exact kitb_NoneType_str | exact kitb_NoneType_list | exact kitb_NoneType_tuple | exact kitb_NoneType_dict | exact kitb_bool_int | exact kitb_bool_bool | exact kitb_bool_str | exact kitb_bool_list | exact kitb_bool_tuple | exact kitb_bool_dict | exact kitb_int_int | exact kitb_int_bool | exact kitb_int_str | exact kitb_int_list | exact kitb_int_tuple | exact kitb_int_dict | exact kitb_str_int | exact kitb_str_bool | exact kitb_str_str | exact kitb_str_list | exact kitb_str_tuple | exact kitb_str_dict | exact kitb_list_int | exact kitb_list_bool | exact kitb_list_str | exact kitb_list_list | exact kitb_list_tuple | exact kitb_list_dict | exact kitb_tuple_int | exact kitb_tuple_bool | exact kitb_tuple_str | exact kitb_tuple_list | exact kitb_tuple_tuple | exact kitb_tuple_dict | exact kitb_dict_int | exact kitb_dict_bool | exact kitb_dict_str | exact kitb_dict_list | exact kitb_dict_tuple | exact kitb_dict_dict)
local macro_rules | `(tactic| ktf_call "tyr") => `(tactic| with_reducible first | exact TyR.int | exact TyR.bl | exact TyR.str | exact TyR.non | exact TyR.tup | ((refine' TyR.lst ?clv); (case clv => ktf_call "vl")))
local macro_rules | `(tactic| ktf_call "vo") => `(tactic| with_reducible first | exact VO.dat | ((refine' VO.own ?cv); (case cv => ktf_call "has")))
local macro_rules | `(tactic| ktf_call "e") => `(tactic| first
  | ((with_reducible show DE _ _ _ _ (.Call (.Name "isinstance" _) _ _ _) _); refine d_isi (by ktf_call "gl") (by ktf_call "mg") ?_)
  | ((with_reducible show DE _ _ _ _ (.Name "int" _) _); refine de_ty (T := "int") (by ktf_call "gl") (by ktf_call "mg") (by decide +kernel) ?_)
  | ((with_reducible show DE _ _ _ _ (.Name "bool" _) _); refine de_ty (T := "bool") (by ktf_call "gl") (by ktf_call "mg") (by decide +kernel) ?_)
  | ((with_reducible show DE _ _ _ _ (.Name "str" _) _); refine de_ty (T := "str") (by ktf_call "gl") (by ktf_call "mg") (by decide +kernel) ?_)
  | ((with_reducible show DE _ _ _ _ (.Name "list" _) _); refine de_ty (T := "list") (by ktf_call "gl") (by ktf_call "mg") (by decide +kernel) ?_)
  | ((with_reducible show DE _ _ _ _ (.Name "tuple" _) _); refine de_ty (T := "tuple") (by ktf_call "gl") (by ktf_call "mg") (by decide +kernel) ?_)
  | ((with_reducible show DE _ _ _ _ (.Name _ _) _); first | refine de_tupG (by assumption) (by assumption) ?_ | refine de_strG (by assumption) (by assumption) ?_ | refine de_intG (by assumption) (by assumption) ?_)
  | ((with_reducible show DE _ _ _ _ (.Attribute _ _ _) _); refine de_fld (by assumption) (by assumption) ?_)
  | ((with_reducible show DE _ _ _ _ (.Call (.Attribute _ "strip" _) _ _ _) _); refine d_stripC ?_)
  | ((with_reducible show DE _ _ _ _ (.Call (.Attribute _ _ _) (_ :: _) _ _) _); refine de_meth (by assumption) (by assumption) ?_ (hjk := by omega))
  | ((with_reducible show DE _ _ _ _ (.Call (.Attribute _ _ _) [] _ _) _); refine de_meth0 (by assumption) (by assumption) ?_ (hjk := by omega))
  | ((with_reducible show DE _ _ _ _ (.Call (.Name "min" _) [_, _] _ _) _); refine d_min2 (by assumption) (by ktf_call "gl") (by ktf_call "mg") ?_)
  | ((with_reducible show DE _ _ _ _ (.Call (.Name "max" _) [_, _] _ _) _); refine d_max2 (by assumption) (by ktf_call "gl") (by ktf_call "mg") ?_)
  | ((with_reducible show DE _ _ _ _ (.Call (.Name _ _) (_ :: _) (_ :: _) _) _); refine de_callK (by assumption) (by assumption) (by ktf_call "gl") ?_ (hjk := by omega))
  | ((with_reducible show DE _ _ _ _ (.Call (.Name _ _) (_ :: _) [] _) _); refine de_make (by assumption) (by assumption) (by ktf_call "gl") ?_ (hjk := by omega))
  | ((with_reducible show DE _ _ _ _ (.Call (.Name _ _) [] [] _) _); refine de_make0 (by assumption) (by assumption) (by ktf_call "gl") ?_ (hjk := by omega))
  | ((with_reducible show DE _ _ _ _ (.Dict [] [] _) _); refine d_new0 fun p => ?_))
local macro_rules | `(tactic| ktf_call "k") => `(tactic| first
  | ((with_reducible refine' Exists.intro _ (Exists.intro _ (Exists.intro _ (Exists.intro _ (And.intro rfl (And.intro ?ty (And.intro ?kb ?_))))))); (case ty => ktf_call "tyr"); (case kb => ktf_call "kitb"))
  | ((with_reducible show ∃ fs r, VO _ _ _ fs ∧ _); refine ⟨_, _, by ktf_call "vo", rfl, ?_⟩)
  | ((with_reducible show (∃ fs, VO _ _ _ fs ∧ _) ∧ _); refine ⟨⟨_, by ktf_call "vo", rfl⟩, ?_⟩)
  | ((with_reducible show DKw _ _ _ _ [] _); refine dk_nil ?_)
  | ((with_reducible show DKw _ _ _ _ (_ :: _) _); refine dk_cons ?_)
  | ((with_reducible show _ ≤ 1000000 ∧ DE _ _ _ _ _ _); refine ⟨by ktf_call "side", ?_⟩))
local macro_rules | `(tactic| ktf_call "s") => `(tactic| first
  | ((with_reducible show DS _ _ _ _ (.Raise _ _ _) _); refine ds_raise (by assumption) (by assumption) (by ktf_call "gl") ?_)
  | ((with_reducible show DS _ _ _ _ (.Assign [.Attribute _ _ _] _ _) _); refine ds_fld (by assumption) (by assumption) ?_)
  | ((with_reducible show DS _ _ _ _ (.Break _) _); refine ds_brk ?_)
  | ((with_reducible show DS _ _ _ _ (.Continue _) _); refine ds_cont ?_)
  | ((with_reducible show DS _ _ _ _ (.Pass _) _); refine ds_pass ?_))
local macro_rules | `(tactic| ktf_call "o") => `(tactic| ((with_reducible refine' o_ninS ?ca ?kk); (case ca => assumption)))
local macro_rules | `(tactic| ktf_call "t") => `(tactic| ((with_reducible show DT _ _ _ _ (.Compare _ [_, _] [_, _] _) _); first | refine dt_chainI L2.op_le L2.op_le ?_ | refine dt_chainI L2.op_lt L2.op_le ?_ | refine dt_chainI L2.op_le L2.op_lt ?_ | refine dt_chainI L2.op_lt L2.op_lt ?_))
local macro_rules | `(tactic| ktf_call "lk") => `(tactic| (with_reducible first | exact (Lk.there (Lk.there (Lk.there (Lk.there (Lk.there (Lk.there (Lk.there (Lk.there (Lk.there (Lk.there (Lk.there (Lk.there (Lk.there (Lk.there Lk.here)))))))))))))) | exact (Lk.there (Lk.there (Lk.there (Lk.there (Lk.there (Lk.there (Lk.there (Lk.there (Lk.there (Lk.there (Lk.there (Lk.there (Lk.there (Lk.there (Lk.there Lk.here))))))))))))))) | exact (Lk.there (Lk.there (Lk.there (Lk.there (Lk.there (Lk.there (Lk.there (Lk.there (Lk.there (Lk.there (Lk.there (Lk.there (Lk.there (Lk.there (Lk.there (Lk.there Lk.here)))))))))))))))) | exact (Lk.there (Lk.there (Lk.there (Lk.there (Lk.there (Lk.there (Lk.there (Lk.there (Lk.there (Lk.there (Lk.there (Lk.there (Lk.there (Lk.there (Lk.there (Lk.there (Lk.there Lk.here))))))))))))))))) | exact (Lk.there (Lk.there (Lk.there (Lk.there (Lk.there (Lk.there (Lk.there (Lk.there (Lk.there (Lk.there (Lk.there (Lk.there (Lk.there (Lk.there (Lk.there (Lk.there (Lk.there (Lk.there Lk.here)))))))))))))))))) | exact (Lk.there (Lk.there (Lk.there (Lk.there (Lk.there (Lk.there (Lk.there (Lk.there (Lk.there (Lk.there (Lk.there (Lk.there (Lk.there (Lk.there (Lk.there (Lk.there (Lk.there (Lk.there (Lk.there Lk.here))))))))))))))))))) | exact (Lk.there (Lk.there (Lk.there (Lk.there (Lk.there (Lk.there (Lk.there (Lk.there (Lk.there (Lk.there (Lk.there (Lk.there (Lk.there (Lk.there (Lk.there (Lk.there (Lk.there (Lk.there (Lk.there (Lk.there Lk.here)))))))))))))))))))) | exact (Lk.there (Lk.there (Lk.there (Lk.there (Lk.there (Lk.there (Lk.there (Lk.there (Lk.there (Lk.there (Lk.there (Lk.there (Lk.there (Lk.there (Lk.there (Lk.there (Lk.there (Lk.there (Lk.there (Lk.there (Lk.there Lk.here))))))))))))))))))))) | fail "none"))
local macro_rules | `(tactic| ktf_call "put") => `(tactic| (with_reducible first | exact (PutF.there (PutF.there (PutF.there (PutF.there (PutF.there (PutF.there (PutF.there (PutF.there (PutF.there (PutF.there (PutF.there (PutF.there (PutF.there (PutF.there PutF.here)))))))))))))) | exact (PutF.there (PutF.there (PutF.there (PutF.there (PutF.there (PutF.there (PutF.there (PutF.there (PutF.there (PutF.there (PutF.there (PutF.there (PutF.there (PutF.there (PutF.there PutF.here))))))))))))))) | exact (PutF.there (PutF.there (PutF.there (PutF.there (PutF.there (PutF.there (PutF.there (PutF.there (PutF.there (PutF.there (PutF.there (PutF.there (PutF.there (PutF.there (PutF.there (PutF.there PutF.here)))))))))))))))) | exact (PutF.there (PutF.there (PutF.there (PutF.there (PutF.there (PutF.there (PutF.there (PutF.there (PutF.there (PutF.there (PutF.there (PutF.there (PutF.there (PutF.there (PutF.there (PutF.there (PutF.there PutF.here))))))))))))))))) | exact (PutF.there (PutF.there (PutF.there (PutF.there (PutF.there (PutF.there (PutF.there (PutF.there (PutF.there (PutF.there (PutF.there (PutF.there (PutF.there (PutF.there (PutF.there (PutF.there (PutF.there (PutF.there PutF.here)))))))))))))))))) | exact (PutF.there (PutF.there (PutF.there (PutF.there (PutF.there (PutF.there (PutF.there (PutF.there (PutF.there (PutF.there (PutF.there (PutF.there (PutF.there (PutF.there (PutF.there (PutF.there (PutF.there (PutF.there (PutF.there PutF.here))))))))))))))))))) | exact (PutF.there (PutF.there (PutF.there (PutF.there (PutF.there (PutF.there (PutF.there (PutF.there (PutF.there (PutF.there (PutF.there (PutF.there (PutF.there (PutF.there (PutF.there (PutF.there (PutF.there (PutF.there (PutF.there (PutF.there PutF.here)))))))))))))))))))) | exact (PutF.there (PutF.there (PutF.there (PutF.there (PutF.there (PutF.there (PutF.there (PutF.there (PutF.there (PutF.there (PutF.there (PutF.there (PutF.there (PutF.there (PutF.there (PutF.there (PutF.there (PutF.there (PutF.there (PutF.there (PutF.there PutF.here))))))))))))))))))))) | fail "none"))
local macro_rules | `(tactic| ktf_call "sp") => `(tactic| ((with_reducible refine' sp_draw ?hs ?ho ?h0 ?h1 (fun d o' _ _ _ => ?kk)); (case hs => ktf_call "has"); (case ho => ktf_call "side"); (case h0 => ktf_call "side"); (case h1 => ktf_call "side"); (case' kk => dsimp only [List.nil_append, List.cons_append])))
local macro_rules | `(tactic| ktf_call "sp") => `(tactic| ((with_reducible refine' sp_pickL ?hs ?ho (fun l o' _ _ => ?kk)); (case hs => ktf_call "has"); (case ho => ktf_call "side"); (case' kk => dsimp only [List.nil_append, List.cons_append])))
local macro_rules | `(tactic| ktf_call "sp") => `(tactic| ((with_reducible refine' sp_pickW ?hs ?ho ?hl ?h0 ?h1 (fun s o' _ _ _ => ?kk)); (case hs => ktf_call "has"); (case ho => ktf_call "side"); (case hl => ktf_call "side"); (case h0 => ktf_call "side"); (case h1 => ktf_call "side"); (case' kk => dsimp only [List.nil_append, List.cons_append])))
local macro_rules | `(tactic| ktf_call "side") => `(tactic| exact log_small (by omega) (by omega))
theorem sp_sharp {m : Mem} {Kr : Mem → R → Mem → Prop} {Ke : Mem → Addr → List (Str × D2.D) → Mem → Prop} {ch : Nat} {n : Int} (h : Abc [ch]) (h0 : 0 ≤ n) (h5 : n ≤ 5) (k : Kr m (rB true) []) : ∃ mf rest, Split m mf rest ∧ spSharp [rS [ch], D2.rI n] mf (Kr rest) (Ke rest) := by
  obtain ⟨l, rfl⟩ := Int.eq_ofNat_of_zero_le h0
  exact ⟨[], m, .nil, ch, l, rfl, h, by omega, rfl, k⟩
section
variable {P : Program} {w : World} {K : PySem.W.Frag} {mg : Str → Option Value} {base : Heap} {f : Addr} {fd : FuncData}
theorem sc_law : FnScope ["script", "pool", "letters", "level", "way", "times", "size", "unit", "room", "head", "tail", "first", "second", "numbers", "k", "due", "some", "word", "pick", "sharp"] ["script"] (defScope (top 39)) := ⟨rfl, rfl, rfl, by decide +kernel, rfl, by decide +kernel, by decide +kernel⟩
theorem ok_law {C_BadWord C_TooLarge C_BadNumber : Addr} (F : FunD K "law" "law" (defArgs (top 39)) (defBody (top 39)) (defScope (top 39)) [] [] f fd) (c__law_start : CalleeG P w K mg base "_law_start" 1 spStart) (c__law_pick_letters : CalleeG P w K mg base "_law_pick_letters" 3 spPickLetters) (c__law_draw : CalleeG P w K mg base "_law_draw" 2 spDraw) (c__law_pick_word : CalleeG P w K mg base "_law_pick_word" 3 spPickWord) (m0_len : mg "len" = none) (c__law_changed : CalleeG P w K mg base "_law_changed" 3 spChanged) (c__law_stretches : CalleeG P w K mg base "_law_stretches" 1 spStretches) (m0_range : mg "range" = none) (c__law_flag : CalleeG P w K mg base "_law_flag" 1 spFlag) (c_alike_in_rounds : CalleeG P w K mg base "alike_in_rounds" 18 (spRAlike C_BadWord C_TooLarge C_BadNumber)) (c__law_shared : CalleeG P w K mg base "_law_shared" 4 spShared) (c__law_rank_next : CalleeG P w K mg base "_law_rank_next" 1 (spRankNext P w)) (c__law_own_pieces : CalleeG P w K mg base "_law_own_pieces" 1 Pc.spOwnPieces) (c_is_piece : CalleeG P w K mg base "is_piece" 1 Pc.spIsPiece) (m0_int : mg "int" = none) (c_rounds_apart : CalleeG P w K mg base "rounds_apart" 19 (spRApart C_BadWord C_TooLarge)) (c__law_sharp : CalleeG P w K mg base "_law_sharp" 20 spSharp) : FnOk P w K mg base (L2N.CX P w) (21) f fd ["script"] (spOf K (spScript 63)) := by
  refine fn2 F sc_law (by decide +kernel) (fun rs m Kr Ke ⟨_, e, _⟩ => by rw [e]; rfl) fun X c rs m Kr Ke D L hx ⟨ns, er, hns, em, hk⟩ => ?_
  subst er em
  have e__law_start : Callee X "_law_start" 1 spStart := D.callee c__law_start
  have e__law_pick_letters : Callee X "_law_pick_letters" 3 spPickLetters := D.callee c__law_pick_letters
  have e__law_draw : Callee X "_law_draw" 2 spDraw := D.callee c__law_draw
  have e__law_pick_word : Callee X "_law_pick_word" 3 spPickWord := D.callee c__law_pick_word
  have m_len : X.mg "len" = none := D.mg_ m0_len
  have e__law_changed : Callee X "_law_changed" 3 spChanged := D.callee c__law_changed
  have e__law_stretches : Callee X "_law_stretches" 1 spStretches := D.callee c__law_stretches
  have m_range : X.mg "range" = none := D.mg_ m0_range
  have e__law_flag : Callee X "_law_flag" 1 spFlag := D.callee c__law_flag
  have e_alike_in_rounds : Callee X "alike_in_rounds" 18 (spRAlike C_BadWord C_TooLarge C_BadNumber) := D.callee c_alike_in_rounds
  have e__law_shared : Callee X "_law_shared" 4 spShared := D.callee c__law_shared
  have e__law_rank_next : Callee X "_law_rank_next" 1 (spRankNext P w) := D.callee c__law_rank_next
  have e__law_own_pieces : Callee X "_law_own_pieces" 1 Pc.spOwnPieces := D.callee c__law_own_pieces
  have e_is_piece : Callee X "is_piece" 1 Pc.spIsPiece := D.callee c_is_piece
  have m_int : X.mg "int" = none := D.mg_ m0_int
  have e_rounds_apart : Callee X "rounds_apart" 19 (spRApart C_BadWord C_TooLarge) := D.callee c_rounds_apart
  have e__law_sharp : Callee X "_law_sharp" 20 spSharp := D.callee c__law_sharp
  have g__law_start : Gl X "_law_start" := D.gl (by decide +kernel)
  have g__law_pick_letters : Gl X "_law_pick_letters" := D.gl (by decide +kernel)
  have g__law_draw : Gl X "_law_draw" := D.gl (by decide +kernel)
  have g__law_pick_word : Gl X "_law_pick_word" := D.gl (by decide +kernel)
  have g_len : Gl X "len" := D.gl (by decide +kernel)
  have g__law_changed : Gl X "_law_changed" := D.gl (by decide +kernel)
  have g__law_stretches : Gl X "_law_stretches" := D.gl (by decide +kernel)
  have g_range : Gl X "range" := D.gl (by decide +kernel)
  have g__law_flag : Gl X "_law_flag" := D.gl (by decide +kernel)
  have g_alike_in_rounds : Gl X "alike_in_rounds" := D.gl (by decide +kernel)
  have g__law_shared : Gl X "_law_shared" := D.gl (by decide +kernel)
  have g__law_rank_next : Gl X "_law_rank_next" := D.gl (by decide +kernel)
  have g__law_own_pieces : Gl X "_law_own_pieces" := D.gl (by decide +kernel)
  have g_is_piece : Gl X "is_piece" := D.gl (by decide +kernel)
  have g_int : Gl X "int" := D.gl (by decide +kernel)
  have g_rounds_apart : Gl X "rounds_apart" := D.gl (by decide +kernel)
  have g__law_sharp : Gl X "_law_sharp" := D.gl (by decide +kernel)
  have o_pool : Own X "pool" := D.own (by decide +kernel)
  have o_letters : Own X "letters" := D.own (by decide +kernel)
  have o_level : Own X "level" := D.own (by decide +kernel)
  have o_way : Own X "way" := D.own (by decide +kernel)
  have o_times : Own X "times" := D.own (by decide +kernel)
  have o_size : Own X "size" := D.own (by decide +kernel)
  have o_unit : Own X "unit" := D.own (by decide +kernel)
  have o_room : Own X "room" := D.own (by decide +kernel)
  have o_head : Own X "head" := D.own (by decide +kernel)
  have o_tail : Own X "tail" := D.own (by decide +kernel)
  have o_first : Own X "first" := D.own (by decide +kernel)
  have o_second : Own X "second" := D.own (by decide +kernel)
  have o_numbers : Own X "numbers" := D.own (by decide +kernel)
  have o_k : Own X "k" := D.own (by decide +kernel)
  have o_due : Own X "due" := D.own (by decide +kernel)
  have o_some : Own X "some" := D.own (by decide +kernel)
  have o_word : Own X "word" := D.own (by decide +kernel)
  have o_pick : Own X "pick" := D.own (by decide +kernel)
  have o_sharp : Own X "sharp" := D.own (by decide +kernel)
  refine dss_lo ?_
  show DSs X c [("script", some (.dat (.lst (dI ns)))), ("pool", none), ("letters", none), ("level", none), ("way", none), ("times", none), ("size", none), ("unit", none), ("room", none), ("head", none), ("tail", none), ("first", none), ("second", none), ("numbers", none), ("k", none), ("due", none), ("some", none), ("word", none), ("pick", none), ("sharp", none)] [] (_ :: _) _
  obtain ⟨eP, eW⟩ : P = X.prog ∧ w = X.w := ⟨D.prog.symm, D.w.symm⟩
  subst eP eW
  ktf_call "d2"
  refine sp_start hns fun p o ho => ?_
  dsimp only [List.nil_append, List.cons_append]
  ktf_call "d2"
  rename_i l o1 hl ho1 lv o2 hlv0 hlv4 ho2 wy o3 hwy0 hwy4 ho3
  clear ho ho1 ho2
  obtain ⟨hl0, hl3, hla⟩ := alph_len hl
  obtain ⟨r, rfl⟩ := Int.eq_ofNat_of_zero_le hlv0
  have hr : r < 4 := by omega
  have h2r : 2 ^ r ≤ 8 := Nat.le_trans (Nat.pow_le_pow_right (by omega) (by omega : r ≤ 3)) (by decide)
  have hpos : 0 < 2 ^ r := Nat.two_pow_pos r
  refine o_shl1 (by omega) ?_
  refine de_int ?_
  refine o_sub ?_
  rw [show (((2 ^ r : Nat) : Int) - 1) = ((2 ^ r - 1 : Nat) : Int) by omega]
  refine dss_mid (fun σ m => ∃ ts : Nat, ts ≤ 2 ^ r - 1 ∧ σ = ([("script", some (.dat (.lst (dI ns)))), ("pool", some (.own p)), ("letters", some (rS l)), ("level", some (D2.rI ((r : Nat) : Int))), ("way", some (D2.rI wy)), ("times", some (D2.rI (ts : Int))), ("size", none), ("unit", none), ("room", none), ("head", none), ("tail", none), ("first", none), ("second", none), ("numbers", none), ("k", none), ("due", none), ("some", none), ("word", none), ("pick", none), ("sharp", none)] : Sl) ∧ m = [(p, o3)]) ?_ ?_
  · refine ds_if ?_
    ktf_call "d2"
    · rw [show (((2 ^ r - 1 : Nat) : Int) - 1) = ((2 ^ r - 1 - 1 : Nat) : Int) by omega]
      exact ⟨_, by omega, rfl, rfl⟩
    · exact ⟨_, by omega, rfl, rfl⟩
    · exact ⟨_, by omega, rfl, rfl⟩
  rintro σ' m' ⟨ts, hts, rfl, rfl⟩
  obtain ⟨sz, hsz, hsz1, hsz3, hszr⟩ : ∃ sz : Nat, ([3, 3, 2, 1] : List Int).getD r 0 = (sz : Int) ∧ 1 ≤ sz ∧ sz ≤ 3 ∧ sz * (2 ^ r - 1) ≤ 7 := by
    match r, hr with
    | 0, _ => exact ⟨3, rfl, by decide, by decide, by decide⟩
    | 1, _ => exact ⟨3, rfl, by decide, by decide, by decide⟩
    | 2, _ => exact ⟨2, rfl, by decide, by decide, by decide⟩
    | 3, _ => exact ⟨1, rfl, by decide, by decide, by decide⟩
  ktf_call "d2"
  refine x_I (.own .here) (xs := [3, 3, 2, 1]) ⟨by omega, by simp only [List.length_cons, List.length_nil]; omega⟩ ?_
  rw [Int.toNat_natCast, hsz]
  ktf_call "d2"
  rename_i pz d1 o4 hd1 hd2 ho4 un o5 hul hui ho5
  have hut : un.length * ts ≤ 7 := Nat.le_trans (Nat.mul_le_mul (by omega) hts) hszr
  obtain ⟨rm, hrm, hrm9⟩ : ∃ rm : Nat, (9 - (un.length : Int) * (ts : Int)) = (rm : Int) ∧ rm + un.length * ts = 9 := ⟨9 - un.length * ts, by rw [← Int.natCast_mul]; omega, by omega⟩
  have hut2 : un.length * (ts + 1) ≤ 10 := by rw [Nat.mul_succ]; omega
  rw [hrm]
  clear hrm ho4
  ktf_call "d2"
  rename_i d2 o6 hd3 hd4 ho6 hd o7 hhl hhi ho7 d3 o8 hd5 hd6 ho8 tl o9 htl hti ho9
  clear ho5 ho6 ho7 ho8
  refine o_mulStr (by omega) (by omega) (by rw [Int.toNat_natCast]; omega) (by omega) ?_
  rw [Int.toNat_natCast]
  have hfl : ∀ n, (List.replicate n un).flatten.length = un.length * n := fun n => by simp [Nat.mul_comm]
  have hfi : ∀ n, InL l (List.replicate n un).flatten := fun n x hx => by
    obtain ⟨y, hy, hxy⟩ := List.mem_flatten.mp hx
    rw [List.eq_of_mem_replicate hy] at hxy
    exact hui x hxy
  refine o_addS (by rw [hfl]; omega) ?_
  ktf_call "d2"
  have hl1 : (hd ++ (List.replicate ts un).flatten).length = hd.length + un.length * ts := by rw [List.length_append, hfl]
  have hl2 : (hd ++ (List.replicate (ts + 1) un).flatten).length = hd.length + un.length * (ts + 1) := by rw [List.length_append, hfl]
  have hi1 : InL l (hd ++ (List.replicate ts un).flatten) := inl_app hhi (hfi _)
  have hi2 : InL l (hd ++ (List.replicate (ts + 1) un).flatten) := inl_app hhi (hfi _)
  generalize hd ++ (List.replicate ts un).flatten = h1 at hl1 hi1
  refine o_addS (by omega) ?_
  ktf_call "d2"
  refine o_mulStr (by omega) (by omega) (by rw [show ((ts : Int) + 1).toNat = ts + 1 by omega]; omega) (by omega) ?_
  rw [show ((ts : Int) + 1).toNat = ts + 1 by omega]
  refine o_addS (by rw [hfl]; omega) ?_
  generalize hd ++ (List.replicate (ts + 1) un).flatten = h2 at hl2 hi2
  ktf_call "e"
  refine o_addS (by omega) ?_
  refine dss_mid (fun σ m => ∃ (u v : List Nat) (o : O), (u.length ≤ 19 ∧ v.length ≤ 19) ∧ (InL l u ∧ InL l v) ∧ Pl o ∧ σ = ([("script", some (.dat (.lst (dI ns)))), ("pool", some (.own p)), ("letters", some (rS l)), ("level", some (D2.rI ((r : Nat) : Int))), ("way", some (D2.rI wy)), ("times", some (D2.rI (ts : Int))), ("size", some (D2.rI d3)), ("unit", some (rS un)), ("room", some (D2.rI (rm : Int))), ("head", some (rS hd)), ("tail", some (rS tl)), ("first", some (rS u)), ("second", some (rS v)), ("numbers", none), ("k", none), ("due", none), ("some", none), ("word", none), ("pick", none), ("sharp", none)] : Sl) ∧ m = [(p, o), (pz, .lst [rI 3, rI 3, rI 2, rI 1])]) ?_ ?_
  · refine ds_if ?_
    ktf_call "d2"
    · refine ⟨_, _, .cons .here .nil, p, o9, l, h1 ++ tl, rfl, rfl, ho9, ⟨hl0, by omega⟩, by rw [List.length_append]; omega, inl_app hi1 hti, fun s o s1 s2 s3 => ?_⟩
      rw [List.length_append] at s1
      refine dss_nil ?_
      exact ⟨_, _, _, ⟨by rw [List.length_append]; omega, by omega⟩, ⟨inl_app hi1 hti, s2⟩, s3, rfl, rfl⟩
    · exact ⟨_, _, _, ⟨by rw [List.length_append]; omega, by rw [List.length_append]; omega⟩, ⟨inl_app hi1 hti, inl_app hi2 hti⟩, ho9, rfl, rfl⟩
  clear hl1 hl2 hi1 hi2 hfl hfi ho9 hti htl hhi hhl
  rintro σ' m' ⟨u, v, o, ⟨hu, hv⟩, ⟨iu, iv⟩, ho, rfl, rfl⟩
  have au := inl_abc hl iu
  have av := inl_abc hl iv
  have oku : WOk 40 u := ⟨au, by omega⟩
  have okv : WOk 40 v := ⟨av, by omega⟩
  have hnd : (stW [u, v]).Nodup := (book_mem _).2.1
  have hcl := stW_closed [u, v]
  have hwl : ∀ x ∈ stW [u, v], x.length ≤ 40 := fun x hx => by
    obtain ⟨y, hy, q⟩ := stW_mem.mp hx
    have := q.length_le
    simp only [List.mem_cons, List.not_mem_nil, or_false] at hy
    rcases hy with rfl | rfl <;> omega
  have hsl : (stW [u, v]).length ≤ 4000 := by
    refine Nat.le_trans (book_mem _).2.2 (Nat.le_trans (flat_le segs (b := 400) _ fun x hx => ?_) (by simp))
    refine Nat.le_trans (segs_len x) ?_
    simp only [List.mem_cons, List.not_mem_nil, or_false] at hx
    have hx20 : x.length + 1 ≤ 20 := by rcases hx with rfl | rfl <;> omega
    exact Nat.mul_le_mul hx20 hx20
  have mu : u ∈ stW [u, v] := stW_mem.mpr ⟨u, by simp, List.infix_refl u⟩
  have mv : v ∈ stW [u, v] := stW_mem.mpr ⟨v, by simp, List.infix_refl v⟩
  ktf_call "d2"
  refine ⟨_, _, .cons .here .nil, _, [u, v], rfl, rfl, by simp, by simp; omega, fun q => ?_⟩
  dsimp only [List.nil_append, List.cons_append]
  generalize stW [u, v] = ws at *
  ktf_call "d2"
  refine ds_for (ds := ups 0 (r + 2)) (fun i σ m => ∃ (q : Addr) (f : List Nat → Nat), σ = ([("script", some (.dat (.lst (dI ns)))), ("pool", some (.own p)), ("letters", some (rS l)), ("level", some (D2.rI ((r : Nat) : Int))), ("way", some (D2.rI wy)), ("times", some (D2.rI (ts : Int))), ("size", some (D2.rI d3)), ("unit", some (rS un)), ("room", some (D2.rI (rm : Int))), ("head", some (rS hd)), ("tail", some (rS tl)), ("first", some (rS u)), ("second", some (rS v)), ("numbers", some (.own q)), ("k", none), ("due", none), ("some", none), ("word", none), ("pick", none), ("sharp", none)] : Sl) ∧ m = [(q, .dk (kvR ws (numD f))), (p, o), (pz, .lst [rI 3, rI 3, rI 2, rI 1])] ∧ Alike i ws f) L (it_rng1 (by assumption) (by assumption) ?_) ?_ ?_
  · ktf_call "d2"
    exact ⟨by omega, by omega, by rw [show ((r : Int) + 2).toNat = r + 2 by omega], q, fun _ => 0, rfl, rfl, fun _ _ _ _ => ⟨fun _ => trivial, fun _ => rfl⟩⟩
  · rintro i d σ' m' hd ⟨q, f, rfl, rfl, hf⟩
    obtain ⟨hi, rfl⟩ := ups_at hd
    rw [show (0 : Int) + (i : Int) = (i : Int) by omega]
    refine dg_name o_k (by ktf_call "put") ?_
    refine dss_lo ?_
    ktf_call "d2"
    · refine x_dk L .here .str (val_kvR mu) ?_
      ktf_call "d2"
      refine x_dk L .here .str (val_kvR mv) ?_
      refine o_eqI (i := ((f u : Nat) : Int)) (j := ((f v : Nat) : Int)) ?_
      ktf_call "d2"
      rename_i hge
      refine sp_alike oku okv rfl (by omega) fun b hb => ?_
      have hfb : b = decide (((f u : Nat) : Int) = ((f v : Nat) : Int)) := by
        rw [Bool.eq_iff_iff, hb, decide_eq_true_eq, ← hf u mu v mv]
        omega
      dsimp only [List.nil_append, List.cons_append]
      rw [← hfb]
      ktf_call "d2"
      refine sp_flag rfl ?_
      dsimp only [List.nil_append, List.cons_append]
      refine kb ⟨fun h => absurd h (by decide), fun _ => ?_⟩
      ktf_call "d2"
      refine sp_alike okv oku rfl (by omega) fun b' hb' => ?_
      obtain rfl : b' = b := by rw [Bool.eq_iff_iff, hb, hb']; exact ⟨A.symm, A.symm⟩
      dsimp only [List.nil_append, List.cons_append]
      ktf_call "d2"
      refine sp_flag rfl ?_
      dsimp only [List.nil_append, List.cons_append]
      refine kb ⟨fun h => absurd h (by decide), fun _ => ?_⟩
      ktf_call "d2"
      · rename_i hb1
        refine ⟨[], _, .nil, u, v, i, rfl, ⟨by omega, by omega⟩, ⟨au, av⟩, by omega, hb.mp hb1, rfl, ?_⟩
        dsimp only [List.nil_append, List.cons_append]
        refine kb ?_
        first | refine ⟨fun h => absurd h (by decide), fun _ => ?_⟩ | refine ⟨fun _ => ?_, fun h => absurd h (by decide)⟩
        ktf_call "d2"
        (refine ⟨_, _, .cons .here .nil, q, ws, f, rfl, rfl, hnd, hcl, hsl, hwl, fun q2 g hg => ?_⟩; dsimp only [List.nil_append, List.cons_append]; refine dss_nil ?_; exact ⟨_, _, by ktf_call "fog", List.Sublist.refl _, q2, g, rfl, rfl, alike_next hcl hf hg⟩)
      all_goals (refine ⟨_, _, .cons .here .nil, q, ws, f, rfl, rfl, hnd, hcl, hsl, hwl, fun q2 g hg => ?_⟩; dsimp only [List.nil_append, List.cons_append]; refine dss_nil ?_; exact ⟨_, _, by ktf_call "fog", List.Sublist.refl _, q2, g, rfl, rfl, alike_next hcl hf hg⟩)
    · (refine ⟨_, _, .cons .here .nil, q, ws, f, rfl, rfl, hnd, hcl, hsl, hwl, fun q2 g hg => ?_⟩; dsimp only [List.nil_append, List.cons_append]; refine dss_nil ?_; exact ⟨_, _, by ktf_call "fog", List.Sublist.refl _, q2, g, rfl, rfl, alike_next hcl hf hg⟩)
  clear hnd hcl hwl hsl mu mv
  rintro σ' m' ⟨q, f, rfl, rfl, hf⟩
  clear hf
  ktf_call "d2"
  rename_i d4 o10 hd7 hd8 ho10 sm o11 hsm hsi ho11
  clear ho10
  refine ds_for (ds := dS [u, v]) (fun i σ m => σ = ([("script", some (.dat (.lst (dI ns)))), ("pool", some (.own p)), ("letters", some (rS l)), ("level", some (D2.rI ((r : Nat) : Int))), ("way", some (D2.rI wy)), ("times", some (D2.rI (ts : Int))), ("size", some (D2.rI d3)), ("unit", some (rS un)), ("room", some (D2.rI (rm : Int))), ("head", some (rS hd)), ("tail", some (rS tl)), ("first", some (rS u)), ("second", some (rS v)), ("numbers", some (.own q)), ("k", none), ("due", none), ("some", some (rS sm)), ("word", none), ("pick", none), ("sharp", none)] : Sl) ∧ m = [(p, o11), (q, .dk (kvR ws (numD f))), (pz, .lst [rI 3, rI 3, rI 2, rI 1])]) L (it_list ?_) ?_ ?_
  · ktf_call "d2"
    exact ⟨_, _, .lst .here (frzs_f _ D2.D.str [u, v]), rfl, rfl, rfl⟩
  · rintro i d σ' m' hd ⟨rfl, rfl⟩
    obtain ⟨hi, rfl⟩ := dS_at hd
    have hwd : [u, v][i].length ≤ 40 ∧ Abc [u, v][i] := by
      match i, hi with
      | 0, _ => exact ⟨oku.2, au⟩
      | 1, _ => exact ⟨okv.2, av⟩
    generalize [u, v][i] = wd at hwd
    refine dg_name o_word (by ktf_call "put") ?_
    refine dss_lo ?_
    ktf_call "d2"
    refine ⟨[], _, .nil, wd, sm.length, rfl, by omega, hwd.2, by omega, rfl, fun q2 lp hlp => ?_⟩
    dsimp only [List.nil_append, List.cons_append]
    refine o_inLS L (.own .here) ?_
    rw [show decide (sm ∈ lp) = decide (sm.Sublist wd) by rw [Bool.eq_iff_iff, decide_eq_true_eq, decide_eq_true_eq, hlp.2]; exact ⟨fun h => h.1, fun h => ⟨h, Nat.le_refl _⟩⟩]
    ktf_call "d2"
    refine sp_isPiece (by omega) (b := decide (sm.Sublist wd)) (by simp) ?_
    dsimp only [List.nil_append, List.cons_append]
    ktf_call "d2"
    refine sp_flag rfl ?_
    dsimp only [List.nil_append, List.cons_append]
    refine kb ⟨fun h => absurd h (by decide), fun _ => ?_⟩
    ktf_call "d2"
    exact ⟨_, _, by ktf_call "fog", (List.Sublist.refl _).cons _, rfl, rfl⟩
  rintro σ' m' ⟨rfl, rfl⟩
  ktf_call "d2"
  all_goals (refine sp_rapart oku oku (fun _ => ?_) (fun h => absurd rfl h); dsimp only [List.nil_append, List.cons_append]; refine de_non ?_; refine o_isnNon ?_; refine kb ⟨fun h => absurd h (by decide), fun _ => ?_⟩; ktf_call "d2")
  all_goals (refine sp_sharp (inl_abc hl (inl_one (by omega))) (by omega) (by omega) ?_; exact ⟨_, List.nil_sublist _, hk⟩)
end
end NC
/-! ## NEnd37 -/
set_option Elab.async false
set_option linter.all false
set_option maxRecDepth 100000
set_option maxHeartbeats 2000000
/-! the end of k37 -/
namespace NC
open PySem PySem.Spec PyProof.Rows L2 D2 RK Pc
theorem mk_BadLetters {P : Program} {w : World} {K : PySem.W.Frag} {mg : Str → Option Value} {base : Heap} {C : Addr} (I : IniOk P K ini_BadLetters C) (hg : mg "BadLetters" = some (.ref C)) (hm : mg "super" = none) : MkC P w K mg base "BadLetters" C 1 1 [("given", 0)] (fun _ => True) :=
  I.mkc (y := "given") hg hm (by decide +kernel) rfl rfl (by decide +kernel) rfl (fun env => rfl) ⟨by decide +kernel, by decide +kernel⟩ (fun _ _ _ _ _ us hl => match us, hl with | [_, _], _ => rfl)
theorem mk_BadWord {P : Program} {w : World} {K : PySem.W.Frag} {mg : Str → Option Value} {base : Heap} {C : Addr} (I : IniOk P K ini_BadWord C) (hg : mg "BadWord" = some (.ref C)) (hm : mg "super" = none) : MkC P w K mg base "BadWord" C 1 1 [("word", 0)] (fun _ => True) :=
  I.mkc (y := "word") hg hm (by decide +kernel) rfl rfl (by decide +kernel) rfl (fun env => rfl) ⟨by decide +kernel, by decide +kernel⟩ (fun _ _ _ _ _ us hl => match us, hl with | [_, _], _ => rfl)
theorem mk_TooLarge {P : Program} {w : World} {K : PySem.W.Frag} {mg : Str → Option Value} {base : Heap} {C : Addr} (I : IniOk P K ini_TooLarge C) (hg : mg "TooLarge" = some (.ref C)) (hm : mg "super" = none) : MkC P w K mg base "TooLarge" C 1 1 [("many", 0)] SmallI :=
  I.mkcF (y := "many") hg hm (by decide +kernel) rfl rfl (by decide +kernel) (by decide +kernel) rfl (fun env => rfl) ⟨by decide +kernel, by decide +kernel⟩ (by decide +kernel) (by decide +kernel) (fun _ _ _ _ _ us hl => match us, hl with | [_, _], _ => rfl)
theorem mk_BadNumber {P : Program} {w : World} {K : PySem.W.Frag} {mg : Str → Option Value} {base : Heap} {C : Addr} (I : IniOk P K ini_BadNumber C) (hg : mg "BadNumber" = some (.ref C)) (hm : mg "super" = none) : MkC P w K mg base "BadNumber" C 1 1 [("number", 0)] (fun _ => True) :=
  I.mkc (y := "number") hg hm (by decide +kernel) rfl rfl (by decide +kernel) rfl (fun env => rfl) ⟨by decide +kernel, by decide +kernel⟩ (fun _ _ _ _ _ us hl => match us, hl with | [_, _], _ => rfl)
theorem facts {w : World} {K : PySem.W.Frag} {h : Heap} {mg : Str → Option Value} {f : Addr} (X : K.In h) (G : h.Ns mainGlobals mg) (hfa : mg ("law" : Str) = some (.ref f)) (c : SaysS fa fn pw.main.file inis ex K) :
    ∃ fd : FuncData, (∀ (s : Shared) (v : Value), BindsTo s fd ⟨[v], []⟩ [("script", v)]) ∧ ∀ base : Heap, K.In base → base.Ns mainGlobals mg → FnOk pw w K mg base (L2N.CX pw w) 21 f fd ["script"] (spOf K (spScript 63)) := by
  have d := c.d
  have I_BadLetters : IniOk pw K ini_BadLetters (iC K "BadLetters") := c.inis (by decide +kernel) 0
  have I_BadWord : IniOk pw K ini_BadWord (iC K "BadWord") := c.inis (by decide +kernel) 1
  have I_TooLarge : IniOk pw K ini_TooLarge (iC K "TooLarge") := c.inis (by decide +kernel) 2
  have I_BadNumber : IniOk pw K ini_BadNumber (iC K "BadNumber") := c.inis (by decide +kernel) 3
  obtain ⟨_, xx⟩ := Bool.and_eq_true_iff.mp c.x
  have x0 := xx
  obtain ⟨d0, F_check_letters⟩ := d.def_ 0 (d := dF ("check_letters", none) "check_letters" "check_letters" (top 9) []) rfl
  obtain ⟨d1, F_is_word⟩ := d.def_ 1 (d := dF ("is_word", none) "is_word" "is_word" (top 10) []) rfl
  obtain ⟨d2, F_check_word⟩ := d.def_ 2 (d := dF ("check_word", none) "check_word" "check_word" (top 11) [("most", .int 60)]) rfl
  obtain ⟨d3, F_RankBook___init__⟩ := d.def_ 3 (d := dF ("RankBook", some "__init__") "__init__" "RankBook.__init__" (clsDef (top 16) 0) []) rfl
  obtain ⟨d4, F_RankBook_rank_kind⟩ := d.def_ 4 (d := dF ("RankBook", some "rank_kind") "rank_kind" "RankBook.rank_kind" (clsDef (top 16) 1) []) rfl
  obtain ⟨d5, F_RankBook_rank_items⟩ := d.def_ 5 (d := dF ("RankBook", some "rank_items") "rank_items" "RankBook.rank_items" (clsDef (top 16) 2) []) rfl
  obtain ⟨d6, F_RankBook_first_parted⟩ := d.def_ 6 (d := dF ("RankBook", some "first_parted") "first_parted" "RankBook.first_parted" (clsDef (top 16) 3) []) rfl
  obtain ⟨d7, F_check_rounds_word⟩ := d.def_ 7 (d := dF ("check_rounds_word", none) "check_rounds_word" "check_rounds_word" (top 17) []) rfl
  obtain ⟨d8, F_check_rounds_level⟩ := d.def_ 8 (d := dF ("check_rounds_level", none) "check_rounds_level" "check_rounds_level" (top 18) []) rfl
  obtain ⟨d9, F_alike_in_rounds⟩ := d.def_ 9 (d := dF ("alike_in_rounds", none) "alike_in_rounds" "alike_in_rounds" (top 19) []) rfl
  obtain ⟨d10, F_rounds_apart⟩ := d.def_ 10 (d := dF ("rounds_apart", none) "rounds_apart" "rounds_apart" (top 20) []) rfl
  obtain ⟨d11, F__law_flag⟩ := d.def_ 11 (d := dF ("_law_flag", none) "_law_flag" "_law_flag" (top 35) []) rfl
  obtain ⟨d12, F_is_piece⟩ := d.def_ 12 (d := dF ("is_piece", none) "is_piece" "is_piece" (top 22) []) rfl
  obtain ⟨d13, F_pieces⟩ := d.def_ 13 (d := dF ("pieces", none) "pieces" "pieces" (top 23) []) rfl
  obtain ⟨d14, F__law_mixed⟩ := d.def_ 14 (d := dF ("_law_mixed", none) "_law_mixed" "_law_mixed" (top 26) []) rfl
  obtain ⟨d15, F__law_draw⟩ := d.def_ 15 (d := dF ("_law_draw", none) "_law_draw" "_law_draw" (top 27) []) rfl
  obtain ⟨d16, F__law_start⟩ := d.def_ 16 (d := dF ("_law_start", none) "_law_start" "_law_start" (top 25) []) rfl
  obtain ⟨d17, F__law_pick_letters⟩ := d.def_ 17 (d := dF ("_law_pick_letters", none) "_law_pick_letters" "_law_pick_letters" (top 28) []) rfl
  obtain ⟨d18, F__law_pick_word⟩ := d.def_ 18 (d := dF ("_law_pick_word", none) "_law_pick_word" "_law_pick_word" (top 29) []) rfl
  obtain ⟨d19, F__law_stretches⟩ := d.def_ 19 (d := dF ("_law_stretches", none) "_law_stretches" "_law_stretches" (top 31) []) rfl
  obtain ⟨d20, F__law_rank_next⟩ := d.def_ 20 (d := dF ("_law_rank_next", none) "_law_rank_next" "_law_rank_next" (top 32) []) rfl
  obtain ⟨d21, F__law_own_pieces⟩ := d.def_ 21 (d := dF ("_law_own_pieces", none) "_law_own_pieces" "_law_own_pieces" (top 33) []) rfl
  obtain ⟨d22, F__law_changed⟩ := d.def_ 22 (d := dF ("_law_changed", none) "_law_changed" "_law_changed" (top 30) []) rfl
  obtain ⟨d23, F__law_ends⟩ := d.def_ 23 (d := dF ("_law_ends", none) "_law_ends" "_law_ends" (top 34) []) rfl
  obtain ⟨d24, F__law_same_list⟩ := d.def_ 24 (d := dF ("_law_same_list", none) "_law_same_list" "_law_same_list" (top 36) []) rfl
  obtain ⟨d25, F__law_shared⟩ := d.def_ 25 (d := dF ("_law_shared", none) "_law_shared" "_law_shared" (top 37) []) rfl
  obtain ⟨d26, F__law_sharp⟩ := d.def_ 26 (d := dF ("_law_sharp", none) "_law_sharp" "_law_sharp" (top 38) []) rfl
  obtain ⟨d27, F_law⟩ := d.def_ 27 (d := dF ("law", none) "law" "law" (top 39) []) rfl
  have a_check_letters := He.glo_ok X G (d.fact 0 (f := .glo "check_letters") rfl)
  have a_is_word := He.glo_ok X G (d.fact 1 (f := .glo "is_word") rfl)
  have a_check_word := He.glo_ok X G (d.fact 2 (f := .glo "check_word") rfl)
  have a_check_rounds_word := He.glo_ok X G (d.fact 3 (f := .glo "check_rounds_word") rfl)
  have a_check_rounds_level := He.glo_ok X G (d.fact 4 (f := .glo "check_rounds_level") rfl)
  have a_alike_in_rounds := He.glo_ok X G (d.fact 5 (f := .glo "alike_in_rounds") rfl)
  have a_rounds_apart := He.glo_ok X G (d.fact 6 (f := .glo "rounds_apart") rfl)
  have a__law_flag := He.glo_ok X G (d.fact 7 (f := .glo "_law_flag") rfl)
  have a_is_piece := He.glo_ok X G (d.fact 8 (f := .glo "is_piece") rfl)
  have a_pieces := He.glo_ok X G (d.fact 9 (f := .glo "pieces") rfl)
  have a__law_mixed := He.glo_ok X G (d.fact 10 (f := .glo "_law_mixed") rfl)
  have a__law_draw := He.glo_ok X G (d.fact 11 (f := .glo "_law_draw") rfl)
  have a__law_start := He.glo_ok X G (d.fact 12 (f := .glo "_law_start") rfl)
  have a__law_pick_letters := He.glo_ok X G (d.fact 13 (f := .glo "_law_pick_letters") rfl)
  have a__law_pick_word := He.glo_ok X G (d.fact 14 (f := .glo "_law_pick_word") rfl)
  have a__law_stretches := He.glo_ok X G (d.fact 15 (f := .glo "_law_stretches") rfl)
  have a__law_rank_next := He.glo_ok X G (d.fact 16 (f := .glo "_law_rank_next") rfl)
  have a__law_own_pieces := He.glo_ok X G (d.fact 17 (f := .glo "_law_own_pieces") rfl)
  have a__law_changed := He.glo_ok X G (d.fact 18 (f := .glo "_law_changed") rfl)
  have a__law_ends := He.glo_ok X G (d.fact 19 (f := .glo "_law_ends") rfl)
  have a__law_same_list := He.glo_ok X G (d.fact 20 (f := .glo "_law_same_list") rfl)
  have a__law_shared := He.glo_ok X G (d.fact 21 (f := .glo "_law_shared") rfl)
  have a__law_sharp := He.glo_ok X G (d.fact 22 (f := .glo "_law_sharp") rfl)
  have e := hfa.symm.trans (He.glo_ok X G (d.fact 23 (f := .glo "law") rfl))
  cases e
  have m0_len := He.free_ok X G (d.fact 24 (f := .free "len") rfl)
  have m0_enumerate := He.free_ok X G (d.fact 25 (f := .free "enumerate") rfl)
  have m0_tuple := He.free_ok X G (d.fact 26 (f := .free "tuple") rfl)
  have m0_sorted := He.free_ok X G (d.fact 27 (f := .free "sorted") rfl)
  have m0_isinstance := He.free_ok X G (d.fact 28 (f := .free "isinstance") rfl)
  have m0_bool := He.free_ok X G (d.fact 29 (f := .free "bool") rfl)
  have m0_range := He.free_ok X G (d.fact 30 (f := .free "range") rfl)
  have m0_int := He.free_ok X G (d.fact 31 (f := .free "int") rfl)
  have m0_abs := He.free_ok X G (d.fact 32 (f := .free "abs") rfl)
  have m0_list := He.free_ok X G (d.fact 33 (f := .free "list") rfl)
  have m0_str := He.free_ok X G (d.fact 34 (f := .free "str") rfl)
  have m0_min := He.free_ok X G (d.fact 35 (f := .free "min") rfl)
  have m0_max := He.free_ok X G (d.fact 36 (f := .free "max") rfl)
  have m0_super := He.free_ok X G (d.fact 37 (f := .free "super") rfl)
  have k_RankBook : Cls K (iC K "RankBook") := He.cls_ok (d.fact 38 (f := .cls "RankBook") rfl)
  have n_RankBook_kind_numbers : NoAttr K (iC K "RankBook") "kind_numbers" := He.noat_ok (d.fact 39 (f := .noat "RankBook" "kind_numbers") rfl)
  have n_RankBook_word_numbers : NoAttr K (iC K "RankBook") "word_numbers" := He.noat_ok (d.fact 40 (f := .noat "RankBook" "word_numbers") rfl)
  have h_RankBook_rank_items := He.meth_ok (d.fact 41 (f := .meth "RankBook" "rank_items") rfl)
  have h_RankBook_rank_kind := He.meth_ok (d.fact 42 (f := .meth "RankBook" "rank_kind") rfl)
  have h_RankBook_first_parted := He.meth_ok (d.fact 43 (f := .meth "RankBook" "first_parted") rfl)
  have r_RankBook := He.mkr_ok (d.fact 44 (f := .mkr "RankBook") rfl)
  have b_RankBook := He.glo_ok X G (d.fact 45 (f := .glo "RankBook") rfl)
  have v_ALPHABETS := He.glo_ok X G (d.fact 46 (f := .glo "ALPHABETS") rfl)
  have t_ALPHABETS : TupG K mg "ALPHABETS" (NC.alphabets) := tupG_of v_ALPHABETS x0
  have t_LETTERS : StrG mg "LETTERS" [97, 98, 99] := strG_of (He.str_ok X G (d.fact 47 (f := .str "LETTERS" "abc") rfl))
  have t_LONGEST_rankkinds : IntG mg "LONGEST_rankkinds" 40 := He.int_ok X G (d.fact 48 (f := .int "LONGEST_rankkinds" 40) rfl)
  have t_MOST_LEVEL : IntG mg "MOST_LEVEL" 8 := He.int_ok X G (d.fact 49 (f := .int "MOST_LEVEL" 8) rfl)
  have b := FunD.bindsA (ps := ["script"]) F_law fun _ _ _ _ _ _ us hl => match us, hl with | [_], _ => rfl
  refine ⟨d27, fun s v => b s [v] rfl, fun base _ _ => ?_⟩
  have x_BadLetters := mk_BadLetters (w := w) (base := base) I_BadLetters (He.glo_ok X G I_BadLetters.glo) m0_super
  have x_BadWord := mk_BadWord (w := w) (base := base) I_BadWord (He.glo_ok X G I_BadWord.glo) m0_super
  have x_TooLarge := mk_TooLarge (w := w) (base := base) I_TooLarge (He.glo_ok X G I_TooLarge.glo) m0_super
  have x_BadNumber := mk_BadNumber (w := w) (base := base) I_BadNumber (He.glo_ok X G I_BadNumber.glo) m0_super
  have ok_check_letters := ok_checkLetters (C_BadLetters := iC K "BadLetters") (P := pw) (w := w) (base := base) (mg := mg) F_check_letters t_ALPHABETS x_BadLetters 
  have c_check_letters : CalleeG pw w K mg base "check_letters" 3 (spCheckLetters (iC K "BadLetters")) := callee_of F_check_letters a_check_letters ok_check_letters fun _ _ _ _ _ _ us hl => match us, hl with | [_], _ => rfl
  have ok_is_word := ok_isWord  (P := pw) (w := w) (base := base) (mg := mg) F_is_word  
  have c_is_word : CalleeG pw w K mg base "is_word" 1 spIsWord := callee_of F_is_word a_is_word ok_is_word fun _ _ _ _ _ _ us hl => match us, hl with | [_, _], _ => rfl
  have ok_check_word := ok_checkWord (C_BadLetters := iC K "BadLetters") (C_BadWord := iC K "BadWord") (C_TooLarge := iC K "TooLarge") (P := pw) (w := w) (base := base) (mg := mg) F_check_word c_check_letters c_is_word x_BadWord m0_len x_TooLarge 
  have ck_check_word : CalleeK pw w K mg base "check_word" 4 2 ["most"] (fun rs zs => rs ++ zs) (spCheckWord (iC K "BadLetters") (iC K "BadWord") (iC K "TooLarge")) := calleeK_of F_check_word a_check_word ok_check_word (List.cons_ne_nil _ _) 2 ["most"] fun _ _ _ _ _ _ us ws hl hw => match us, hl, ws, hw with | [_, _], _, [_], _ => rfl
  have ok_RankBook___init__ := ok_bookInit (C_RankBook := iC K "RankBook") (P := pw) (w := w) (base := base) (mg := mg) F_RankBook___init__ k_RankBook n_RankBook_kind_numbers n_RankBook_word_numbers 
  have i_RankBook : CalleeI pw w K mg base "RankBook" (iC K "RankBook") 1 (spBookInit pw w (iC K "RankBook")) := ⟨b_RankBook, _, _, _, r_RankBook, F_RankBook___init__.bindsN fun _ _ _ _ _ _ us hl => match us, hl with | [_], _ => rfl, ok_RankBook___init__⟩
  have c_RankBook_rank_kind : CalleeM pw w K mg base (iC K "RankBook") "rank_kind" 17 (spKind pw w (iC K "RankBook") 8) := rank_all k_RankBook h_RankBook_rank_kind h_RankBook_rank_items (F_RankBook_rank_kind.bindsN fun _ _ _ _ _ _ us hl => match us, hl with | [_, _, _], _ => rfl) (F_RankBook_rank_items.bindsN fun _ _ _ _ _ _ us hl => match us, hl with | [_, _, _], _ => rfl) (ok_rankKind0 (w := w) (base := base) (mg := mg) F_RankBook_rank_kind m0_len k_RankBook n_RankBook_kind_numbers n_RankBook_word_numbers) (fun n h => ok_rankKind (w := w) (base := base) (mg := mg) F_RankBook_rank_kind m0_len k_RankBook n_RankBook_kind_numbers n_RankBook_word_numbers h) (fun n h => ok_rankItems (w := w) (base := base) (mg := mg) F_RankBook_rank_items m0_len m0_enumerate m0_tuple m0_sorted h)
  
  have ok_RankBook_first_parted := ok_firstParted (C_RankBook := iC K "RankBook") (P := pw) (w := w) (base := base) (mg := mg) F_RankBook_first_parted c_RankBook_rank_kind 
  have c_RankBook_first_parted : CalleeM pw w K mg base (iC K "RankBook") "first_parted" 18 (spFirst pw w (iC K "RankBook")) := ⟨k_RankBook, _, _, _, h_RankBook_first_parted, F_RankBook_first_parted.bindsN fun _ _ _ _ _ _ us hl => match us, hl with | [_, _, _], _ => rfl, ok_RankBook_first_parted⟩
  have ok_check_rounds_word := ok_rWord (C_BadLetters := iC K "BadLetters") (C_BadWord := iC K "BadWord") (C_TooLarge := iC K "TooLarge") (P := pw) (w := w) (base := base) (mg := mg) F_check_rounds_word ck_check_word t_LETTERS t_LONGEST_rankkinds 
  have c_check_rounds_word : CalleeG pw w K mg base "check_rounds_word" 5 (spRWord (iC K "BadWord") (iC K "TooLarge")) := callee_of F_check_rounds_word a_check_rounds_word ok_check_rounds_word fun _ _ _ _ _ _ us hl => match us, hl with | [_], _ => rfl
  have ok_check_rounds_level := ok_rLevel (C_BadNumber := iC K "BadNumber") (P := pw) (w := w) (base := base) (mg := mg) F_check_rounds_level t_MOST_LEVEL x_BadNumber 
  have c_check_rounds_level : CalleeG pw w K mg base "check_rounds_level" 3 (spRLevel (iC K "BadNumber")) := callee_of F_check_rounds_level a_check_rounds_level ok_check_rounds_level fun _ _ _ _ _ _ us hl => match us, hl with | [_], _ => rfl
  have ok_alike_in_rounds := ok_rAlike (C_BadWord := iC K "BadWord") (C_TooLarge := iC K "TooLarge") (C_BadNumber := iC K "BadNumber") (C_RankBook := iC K "RankBook") (P := pw) (w := w) (base := base) (mg := mg) F_alike_in_rounds c_check_rounds_word c_check_rounds_level i_RankBook c_RankBook_rank_kind 
  have c_alike_in_rounds : CalleeG pw w K mg base "alike_in_rounds" 18 (spRAlike (iC K "BadWord") (iC K "TooLarge") (iC K "BadNumber")) := callee_of F_alike_in_rounds a_alike_in_rounds ok_alike_in_rounds fun _ _ _ _ _ _ us hl => match us, hl with | [_, _, _], _ => rfl
  have ok_rounds_apart := ok_rApart (C_BadWord := iC K "BadWord") (C_TooLarge := iC K "TooLarge") (C_RankBook := iC K "RankBook") (P := pw) (w := w) (base := base) (mg := mg) F_rounds_apart c_check_rounds_word i_RankBook c_RankBook_first_parted 
  have c_rounds_apart : CalleeG pw w K mg base "rounds_apart" 19 (spRApart (iC K "BadWord") (iC K "TooLarge")) := callee_of F_rounds_apart a_rounds_apart ok_rounds_apart fun _ _ _ _ _ _ us hl => match us, hl with | [_, _], _ => rfl
  have ok__law_flag := ok_flag  (P := pw) (w := w) (base := base) (mg := mg) F__law_flag m0_isinstance m0_bool 
  have c__law_flag : CalleeG pw w K mg base "_law_flag" 1 spFlag := callee_of F__law_flag a__law_flag ok__law_flag fun _ _ _ _ _ _ us hl => match us, hl with | [_, _], _ => rfl
  have ok_is_piece := ok_is_piece  (P := pw) (w := w) (base := base) (mg := mg) F_is_piece m0_len 
  have c_is_piece : CalleeG pw w K mg base "is_piece" 1 Pc.spIsPiece := callee_of F_is_piece a_is_piece ok_is_piece fun _ _ _ _ _ _ us hl => match us, hl with | [_, _], _ => rfl
  have ok_pieces := ok_pieces (C_BadNumber := iC K "BadNumber") (P := pw) (w := w) (base := base) (mg := mg) F_pieces x_BadNumber m0_range 
  have c_pieces : CalleeG pw w K mg base "pieces" 3 (Pc.spPieces (iC K "BadNumber")) := callee_of F_pieces a_pieces ok_pieces fun _ _ _ _ _ _ us hl => match us, hl with | [_, _], _ => rfl
  have ok__law_mixed := ok_mixed  (P := pw) (w := w) (base := base) (mg := mg) F__law_mixed m0_int m0_len 
  have c__law_mixed : CalleeG pw w K mg base "_law_mixed" 1 spMixed := callee_of F__law_mixed a__law_mixed ok__law_mixed fun _ _ _ _ _ _ us hl => match us, hl with | [_, _], _ => rfl
  have ok__law_draw := ok_draw  (P := pw) (w := w) (base := base) (mg := mg) F__law_draw m0_len c__law_mixed m0_int 
  have c__law_draw : CalleeG pw w K mg base "_law_draw" 2 spDraw := callee_of F__law_draw a__law_draw ok__law_draw fun _ _ _ _ _ _ us hl => match us, hl with | [_, _], _ => rfl
  have ok__law_start := ok_start  (P := pw) (w := w) (base := base) (mg := mg) F__law_start  m0_int m0_abs
  have c__law_start : CalleeG pw w K mg base "_law_start" 1 spStart := callee_of F__law_start a__law_start ok__law_start fun _ _ _ _ _ _ us hl => match us, hl with | [_], _ => rfl
  have ok__law_pick_letters := ok_pickLetters  (P := pw) (w := w) (base := base) (mg := mg) F__law_pick_letters c__law_draw 
  have c__law_pick_letters : CalleeG pw w K mg base "_law_pick_letters" 3 spPickLetters := callee_of F__law_pick_letters a__law_pick_letters ok__law_pick_letters fun _ _ _ _ _ _ us hl => match us, hl with | [_], _ => rfl
  have ok__law_pick_word := ok_pickWord  (P := pw) (w := w) (base := base) (mg := mg) F__law_pick_word m0_range c__law_draw m0_len 
  have c__law_pick_word : CalleeG pw w K mg base "_law_pick_word" 3 spPickWord := callee_of F__law_pick_word a__law_pick_word ok__law_pick_word fun _ _ _ _ _ _ us hl => match us, hl with | [_, _, _], _ => rfl
  have ok__law_stretches := ok_stretches  (P := pw) (w := w) (base := base) (mg := mg) F__law_stretches m0_range m0_len 
  have c__law_stretches : CalleeG pw w K mg base "_law_stretches" 1 spStretches := callee_of F__law_stretches a__law_stretches ok__law_stretches fun _ _ _ _ _ _ us hl => match us, hl with | [_], _ => rfl
  have ok__law_rank_next := ok_rankNext  (P := pw) (w := w) (base := base) (mg := mg) F__law_rank_next m0_range m0_len 
  have c__law_rank_next : CalleeG pw w K mg base "_law_rank_next" 1 (spRankNext pw w) := callee_of F__law_rank_next a__law_rank_next ok__law_rank_next fun _ _ _ _ _ _ us hl => match us, hl with | [_], _ => rfl
  have ok__law_own_pieces := ok_ownPieces  (P := pw) (w := w) (base := base) (mg := mg) F__law_own_pieces m0_list m0_len m0_sorted m0_range 
  have c__law_own_pieces : CalleeG pw w K mg base "_law_own_pieces" 1 Pc.spOwnPieces := callee_of F__law_own_pieces a__law_own_pieces ok__law_own_pieces fun _ _ _ _ _ _ us hl => match us, hl with | [_, _], _ => rfl
  have ok__law_changed := ok_changed  (P := pw) (w := w) (base := base) (mg := mg) F__law_changed c__law_draw m0_len 
  have c__law_changed : CalleeG pw w K mg base "_law_changed" 3 spChanged := callee_of F__law_changed a__law_changed ok__law_changed fun _ _ _ _ _ _ us hl => match us, hl with | [_, _, _], _ => rfl
  have ok__law_ends := ok_ends  (P := pw) (w := w) (base := base) (mg := mg) F__law_ends m0_len 
  have c__law_ends : CalleeG pw w K mg base "_law_ends" 1 spEnds := callee_of F__law_ends a__law_ends ok__law_ends fun _ _ _ _ _ _ us hl => match us, hl with | [_, _, _], _ => rfl
  have ok__law_same_list := ok_sameList  (P := pw) (w := w) (base := base) (mg := mg) F__law_same_list m0_isinstance m0_list m0_len m0_range m0_str 
  have c__law_same_list : CalleeG pw w K mg base "_law_same_list" 1 spSameList := callee_of F__law_same_list a__law_same_list ok__law_same_list fun _ _ _ _ _ _ us hl => match us, hl with | [_, _], _ => rfl
  have ok__law_shared := ok_shared (C_BadNumber := iC K "BadNumber") (P := pw) (w := w) (base := base) (mg := mg) F__law_shared m0_min c__law_own_pieces c__law_ends c__law_same_list c_pieces m0_max m0_len c__law_flag c_is_piece 
  have c__law_shared : CalleeG pw w K mg base "_law_shared" 4 spShared := callee_of F__law_shared a__law_shared ok__law_shared fun _ _ _ _ _ _ us hl => match us, hl with | [_, _, _], _ => rfl
  have ok__law_sharp := ok_sharp (C_BadWord := iC K "BadWord") (C_TooLarge := iC K "TooLarge") (C_BadNumber := iC K "BadNumber") (P := pw) (w := w) (base := base) (mg := mg) F__law_sharp c__law_flag c_alike_in_rounds c_is_piece c_rounds_apart m0_isinstance m0_int m0_bool 
  have c__law_sharp : CalleeG pw w K mg base "_law_sharp" 20 spSharp := callee_of F__law_sharp a__law_sharp ok__law_sharp fun _ _ _ _ _ _ us hl => match us, hl with | [_, _], _ => rfl
  exact ok_law (P := pw) (w := w) (base := base) (mg := mg) F_law c__law_start c__law_pick_letters c__law_draw c__law_pick_word m0_len c__law_changed c__law_stretches m0_range c__law_flag c_alike_in_rounds c__law_shared c__law_rank_next c__law_own_pieces c_is_piece m0_int c_rounds_apart c__law_sharp 
end NC
open PySem PySem.W PySem.Calls PyProof.Rows
theorem PySem.Challenge.cw_nocounters_k37_rank_tells_pieces_holds : PySem.Challenge.rw_nocounters_k37_rank_tells_pieces.Holds := by
  w_on; o_law
  refine HandSHeadRun.head_any (r := OpenLaw.row PySem.Challenge.rw_nocounters_k37_rank_tells_pieces) (q := view (OpenLaw.row PySem.Challenge.rw_nocounters_k37_rank_tells_pieces).prog [39]) (H := NC.hk) (ob := NC.ob) (M := 20000) (loose := NC.loose) (d := HandSHeadRun.topDef (OpenLaw.row PySem.Challenge.rw_nocounters_k37_rank_tells_pieces).prog 39) (kwd := []) NC.ob_eq
    (by kernel_rfl) (fun s => by kernel_rfl) NC.run (by kernel_rfl) (by kernel_rfl) (by kernel_rfl) (by rfl) (by first | assumption | decide +kernel) (by decide +kernel) ⟨rfl, rfl, rfl, rfl, rfl, by decide +kernel⟩ ?hw ?hc
  case hw => w_witness2
  case hc =>
    refine L2.walk_ofE (l := PySem.Challenge.rw_nocounters_k37_rank_tells_pieces) (n := 63) (k := 21) (x := "script") (CX := L2.CX0) rfl (by decide) (by kernel_rfl) ⟨rfl, by decide, by decide⟩ ?F (fun _ _ _ _ z => z)
    intro w mg fa h Y G hmg0
    obtain ⟨K, KX, c⟩ := Y
    have hmg : mg ("law" : PySem.Str) = some (.ref fa) := by
      have e : (HandSHeadRun.topDef (OpenLaw.row PySem.Challenge.rw_nocounters_k37_rank_tells_pieces).prog 39).name = ("law" : PySem.Str) := by kernel_rfl
      rw [← e]
      exact hmg0
    obtain ⟨fd, hb, hF⟩ := NC.facts (w := w) KX G hmg c
    exact ⟨K, fd, (fun vs H Q _ => D2.spOf K (D2.spScript 63) vs H Q fun _ _ _ => False), KX, hb, fun H a ns hl _ hS => D2.script_ok hl hS, fun base hK hN => D2.FnOk.noX (hF base hK hN)⟩
