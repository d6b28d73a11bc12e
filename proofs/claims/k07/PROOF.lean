import PyProof.Rows.All
import Wide.All
import OpenK.AllK
import Wide.FinOn
import KE.KStateDown
import HandS.Base
import HandS.Call
import HandS.Ends
import HandS.More
import HandS.Words
import HandS.WordsExc
import HandS.Defaults
import HandS.Head0
import HandS.Head1
import HandS.Head2
import HandS.HeadEnd
import HandS.HeadHook1
import HandS.HeadHook2
import HandS.ForMost
import HandS.Wide
import KE.KDictKeyed
import HandS.IsInst
import HandS.Style
import HandS.Zip
import HandS.Deep
import HandS.Text
import HandS.Dict
import HandS.SetFor
import HandS.Strs
import HandS.TupSets
import HandS.SortRule
import HandS.SortInts
import HandS.TupLen
import KE.KDictCopyH
import KE.KDictSum
import HandS.SetKeys
import PySem.Challenge.RW_bouncepaths_k07_whole_crossings
set_option Elab.async false
set_option linter.all false
set_option maxRecDepth 100000
set_option maxHeartbeats 0
/-! Ev1: values by data (W), a store of changeable objects (O), how they lie in the layer's abstract heap (Rep, Sim), and what an expression is worth at them (tE). -/
namespace Bp
open PySem L2

/-- a value: tuples by content, changeable objects by their place in the store, fz: a list that is never changed (the script) -/
inductive W where
  | non | bl (b : Bool) | int (i : Int) | str (x : Str) | tup (xs : List W) | ref (n : Nat) | fz (xs : List W) | ty (n : String)
inductive O where
  | lst (xs : List W)
  | dT (kvs : List (List Key × W))
  | dK (kvs : List (Key × W))
  | ins (C : Addr) (fs : List (Str × W))
  | nd (ks : List ((Int × Int) × (Int × Int)))
abbrev Sto := List O
abbrev En := List (Option W)

/-- a list that is never changed -/
def Fz (K : PySem.W.Frag) (H : Hp) (a : Addr) (xs : List V) : Prop :=
  (∃ o, H a = some (.frz o (.lst xs))) ∨
    ∃ (o : Obj) (its : Array Value) (n : Nat), K.lookup a = some o ∧ o.cls = .type "list" ∧ o.dict = none ∧ o.data = .seq its n ∧ its.size ≤ sizeLine ∧ Vals xs its.toList
theorem Fz.sq {K : PySem.W.Frag} {H : Hp} {a : Addr} {xs : List V} (h : Fz K H a xs) : SqL K H a xs := by
  rcases h with ⟨o, h⟩ | h
  · exact .inl (.inr ⟨o, h⟩)
  · exact .inr h

mutual
inductive Rep (K : PySem.W.Frag) (r : List Addr) (H : Hp) : W → V → Prop
  | non : Rep K r H .non .non
  | bl (b : Bool) : Rep K r H (.bl b) (.bl b)
  | int (i : Int) : Rep K r H (.int i) (.int i)
  | str (x : Str) : Rep K r H (.str x) (.str x)
  | tup {a : Addr} {xs : List W} {ys : List V} : H a = some (.tup ys) → Reps K r H xs ys → Rep K r H (.tup xs) (.ref a)
  | ref {a : Addr} {n : Nat} : r[n]? = some a → Rep K r H (.ref n) (.ref a)
  | fz {a : Addr} {xs : List W} {ys : List V} : Fz K H a ys → Reps K r H xs ys → Rep K r H (.fz xs) (.ref a)
  | ty (n : String) : Rep K r H (.ty n) (.ty n)
inductive Reps (K : PySem.W.Frag) (r : List Addr) (H : Hp) : List W → List V → Prop
  | nil : Reps K r H [] []
  | cons {w : W} {ws : List W} {v : V} {vs : List V} : Rep K r H w v → Reps K r H ws vs → Reps K r H (w :: ws) (v :: vs)
end

/-- what stands for good is kept -/
structure Kp (K : PySem.W.Frag) (H H' : Hp) : Prop where
  t : ∀ a xs, H a = some (.tup xs) → H' a = some (.tup xs)
  f : ∀ a xs, Fz K H a xs → Fz K H' a xs
theorem Kp.refl {K : PySem.W.Frag} {H : Hp} : Kp K H H := ⟨fun _ _ h => h, fun _ _ h => h⟩
theorem Kp.trans {K : PySem.W.Frag} {H H1 H2 : Hp} (a : Kp K H H1) (b : Kp K H1 H2) : Kp K H H2 := ⟨fun x y h => b.t x y (a.t x y h), fun x y h => b.f x y (a.f x y h)⟩
def Pre (r r' : List Addr) : Prop := ∀ (n : Nat) a, r[n]? = some a → r'[n]? = some a
theorem Pre.refl {r : List Addr} : Pre r r := fun _ _ h => h
theorem Pre.trans {a b c : List Addr} (x : Pre a b) (y : Pre b c) : Pre a c := fun n p h => y n p (x n p h)
theorem Pre.app {r q : List Addr} : Pre r (r ++ q) := fun n a h => by
  rw [List.getElem?_append_left (List.getElem?_eq_some_iff.mp h).1]; exact h

section
variable {K : PySem.W.Frag} {r r' : List Addr} {H H' : Hp}
mutual
theorem Rep.mono (hp : Pre r r') (hk : Kp K H H') : ∀ (w : W) (v : V), Rep K r H w v → Rep K r' H' w v
  | .non, _, h => by cases h; exact .non
  | .bl b, _, h => by cases h; exact .bl b
  | .int b, _, h => by cases h; exact .int b
  | .str b, _, h => by cases h; exact .str b
  | .tup xs, _, h => by
    cases h with
    | tup a b => exact .tup (hk.t _ _ a) (Reps.mono hp hk xs _ b)
  | .ref n, _, h => by
    cases h with
    | ref a => exact .ref (hp _ _ a)
  | .fz xs, _, h => by
    cases h with
    | fz a b => exact .fz (hk.f _ _ a) (Reps.mono hp hk xs _ b)
  | .ty n, _, h => by cases h; exact .ty n
theorem Reps.mono (hp : Pre r r') (hk : Kp K H H') : ∀ (ws : List W) (vs : List V), Reps K r H ws vs → Reps K r' H' ws vs
  | [], _, h => by cases h; exact .nil
  | w :: ws, _, h => by
    cases h with
    | cons a b => exact .cons (Rep.mono hp hk w _ a) (Reps.mono hp hk ws _ b)
end
theorem Rep.up {w : W} {v : V} (h : Rep K r H w v) (hp : Pre r r') (hk : Kp K H H') : Rep K r' H' w v := Rep.mono hp hk w v h
theorem Reps.up {w : List W} {v : List V} (h : Reps K r H w v) (hp : Pre r r') (hk : Kp K H H') : Reps K r' H' w v := Reps.mono hp hk w v h
theorem Reps.length : ∀ {ws : List W} {vs : List V}, Reps K r H ws vs → vs.length = ws.length
  | [], _, h => by cases h; rfl
  | w :: ws, _, h => by
    cases h with
    | cons a b => simp [Reps.length b]
theorem Reps.get : ∀ {ws : List W} {vs : List V} {i : Nat} {w : W}, Reps K r H ws vs → ws[i]? = some w → ∃ v, vs[i]? = some v ∧ Rep K r H w v
  | [], _, _, _, _, h => by simp at h
  | x :: ws, _, 0, w, h, e => by
    cases h with
    | cons a b => simp at e; subst e; exact ⟨_, rfl, a⟩
  | x :: ws, _, i + 1, w, h, e => by
    cases h with
    | cons a b =>
      obtain ⟨v, h1, h2⟩ := Reps.get (i := i) b (by simpa using e)
      exact ⟨v, by simpa using h1, h2⟩
theorem Reps.append : ∀ {xs ys : List W} {us vs : List V}, Reps K r H xs us → Reps K r H ys vs → Reps K r H (xs ++ ys) (us ++ vs)
  | [], _, _, _, h, g => by cases h; exact g
  | x :: xs, _, _, _, h, g => by
    cases h with
    | cons a b => exact .cons a (Reps.append b g)
theorem Reps.set {w : W} {v : V} (hw : Rep K r H w v) : ∀ {xs : List W} {us : List V} (i : Nat), Reps K r H xs us → Reps K r H (xs.set i w) (us.set i v)
  | [], _, _, h => by cases h; exact .nil
  | x :: xs, _, 0, h => by
    cases h with
    | cons a b => exact .cons hw b
  | x :: xs, _, i + 1, h => by
    cases h with
    | cons a b => exact .cons a (Reps.set hw i b)
theorem Reps.drop : ∀ {xs : List W} {us : List V} (i : Nat), Reps K r H xs us → Reps K r H (xs.drop i) (us.drop i)
  | _, _, 0, h => h
  | [], _, _ + 1, h => by cases h; exact .nil
  | x :: xs, _, i + 1, h => by
    cases h with
    | cons a b => exact Reps.drop i b
theorem Reps.take : ∀ {xs : List W} {us : List V} (i : Nat), Reps K r H xs us → Reps K r H (xs.take i) (us.take i)
  | _, _, 0, _ => by simp; exact .nil
  | [], _, _ + 1, h => by cases h; exact .nil
  | x :: xs, _, i + 1, h => by
    cases h with
    | cons a b => exact .cons a (Reps.take i b)
theorem Reps.one {w : W} {v : V} (h : Rep K r H w v) : Reps K r H [w] [v] := .cons h .nil
theorem Reps.ints : ∀ (ns : List Int), Reps K r H (ns.map W.int) (ns.map V.int)
  | [] => .nil
  | n :: ns => .cons (.int n) (Reps.ints ns)
end

/-- values of a table, key by key -/
inductive KReps {κ : Type} (K : PySem.W.Frag) (r : List Addr) (H : Hp) : List (κ × W) → List (κ × V) → Prop
  | nil : KReps K r H [] []
  | cons {k : κ} {w : W} {v : V} {ws : List (κ × W)} {vs : List (κ × V)} : Rep K r H w v → KReps K r H ws vs → KReps K r H ((k, w) :: ws) ((k, v) :: vs)
theorem KReps.up {κ : Type} {K : PySem.W.Frag} {r r' : List Addr} {H H' : Hp} (hp : Pre r r') (hk : Kp K H H') : ∀ {ws : List (κ × W)} {vs : List (κ × V)}, KReps K r H ws vs → KReps K r' H' ws vs
  | _, _, .nil => .nil
  | _, _, .cons a b => .cons (a.up hp hk) (KReps.up hp hk b)

/-- a pair of pairs of ints as a dict's key -/
def nk (p : (Int × Int) × (Int × Int)) : NestedKey := .tup [.tup [.num p.1.1, .num p.1.2], .tup [.num p.2.1, .num p.2.2]]
/-- a dict keyed by them, all its values True: its entries, where the keys lie -/
def ndP (a : Addr) (xs : List (((Int × Int) × (Int × Int)) × Addr)) (h : Heap) : Prop :=
  ∃ (w : World) (o : Obj) (es : Array DictEntry) (ep : Nat), h.get? a = some o ∧ o.ExactDict ∧ o.data = .dict es ep ∧ es.toList = xs.map (fun x => ⟨(nk x.1).hash w, .ref x.2, .bool true⟩) ∧ (xs.map (·.1)).Nodup ∧ (a == sysModules) = false ∧ xs.length ≤ sizeLine
/-- where such a key lies -/
def NdKey (H : Hp) (p : (Int × Int) × (Int × Int)) (b : Addr) : Prop := ∃ b1 b2, H b = some (.tup [.ref b1, .ref b2]) ∧ H b1 = some (.tup [.int p.1.1, .int p.1.2]) ∧ H b2 = some (.tup [.int p.2.1, .int p.2.2])
theorem NdKey.up {K : PySem.W.Frag} {H H' : Hp} {p : (Int × Int) × (Int × Int)} {b : Addr} (h : NdKey H p b) (hk : Kp K H H') : NdKey H' p b := by
  obtain ⟨b1, b2, h1, h2, h3⟩ := h
  exact ⟨b1, b2, hk.t _ _ h1, hk.t _ _ h2, hk.t _ _ h3⟩
/-- an object of the store as it lies at a -/
def ORep (K : PySem.W.Frag) (r : List Addr) (H : Hp) (a : Addr) : O → Prop
  | .lst xs => ∃ ys, H a = some (.lst ys) ∧ Reps K r H xs ys
  | .dT kvs => ∃ ks, H a = some (.dT ks) ∧ KReps K r H kvs ks
  | .dK kvs => ∃ ks, H a = some (.dK ks) ∧ KReps K r H kvs ks
  | .ins C fs => ∃ dx gs, H a = some (.ins C dx gs) ∧ KReps K r H fs gs
  | .nd ks => ∃ xs, H a = some (.ext (ndP a xs)) ∧ xs.map (·.1) = ks ∧ ∀ x ∈ xs, NdKey H x.1 x.2
structure Sim (K : PySem.W.Frag) (r : List Addr) (S : Sto) (H : Hp) : Prop where
  len : r.length = S.length
  nd : ∀ (i j : Nat) a, r[i]? = some a → r[j]? = some a → i = j
  obj : ∀ (i : Nat) a o, r[i]? = some a → S[i]? = some o → ORep K r H a o
section
variable {K : PySem.W.Frag} {r r' : List Addr} {H H' : Hp} {S : Sto}
theorem ORep.some {a : Addr} {o : O} (h : ORep K r H a o) : ∃ u, H a = some u ∧ Mut (some u) := by
  cases o with
  | lst xs => obtain ⟨ys, h, _⟩ := h; exact ⟨_, h, trivial⟩
  | dT xs => obtain ⟨ys, h, _⟩ := h; exact ⟨_, h, trivial⟩
  | dK xs => obtain ⟨ys, h, _⟩ := h; exact ⟨_, h, trivial⟩
  | ins C xs => obtain ⟨dx, ys, h, _⟩ := h; exact ⟨_, h, trivial⟩
  | nd ks => obtain ⟨xs, h, _⟩ := h; exact ⟨_, h, trivial⟩
theorem ORep.up {a : Addr} {o : O} (h : ORep K r H a o) (hp : Pre r r') (hk : Kp K H H') (e : H' a = H a) : ORep K r' H' a o := by
  cases o with
  | lst xs => obtain ⟨ys, h, q⟩ := h; exact ⟨ys, e.trans h, q.up hp hk⟩
  | dT xs => obtain ⟨ys, h, q⟩ := h; exact ⟨ys, e.trans h, q.up hp hk⟩
  | dK xs => obtain ⟨ys, h, q⟩ := h; exact ⟨ys, e.trans h, q.up hp hk⟩
  | ins C xs => obtain ⟨dx, ys, h, q⟩ := h; exact ⟨dx, ys, e.trans h, q.up hp hk⟩
  | nd ks => obtain ⟨xs, h, q1, q2⟩ := h; exact ⟨xs, e.trans h, q1, fun x hx => (q2 x hx).up hk⟩
theorem Sim.at (s : Sim K r S H) {n : Nat} {o : O} (h : S[n]? = some o) : ∃ a, r[n]? = some a ∧ ORep K r H a o := by
  have hl := (List.getElem?_eq_some_iff.mp h).1
  have hr : n < r.length := by rw [s.len]; exact hl
  exact ⟨r[n], by simp [hr], s.obj n _ o (by simp [hr]) h⟩
theorem Sim.ne_none (s : Sim K r S H) {n : Nat} {a : Addr} (h : r[n]? = some a) : ∃ u, H a = some u ∧ Mut (some u) := by
  have hl := (List.getElem?_eq_some_iff.mp h).1
  have hs : n < S.length := by rw [← s.len]; exact hl
  exact (s.obj n a S[n] h (by simp [hs])).some
/-- something new (a tuple, a list ..) is laid -/
theorem Kp.new {p : Addr} {o : HO} (hp : H p = none) : Kp K H (upd H p o) := by
  refine ⟨fun a xs h => ?_, fun a xs h => ?_⟩
  · rw [upd_ne (ne_of_none h hp)]; exact h
  · rcases h with ⟨o', h⟩ | h
    · exact .inl ⟨o', by rw [upd_ne (ne_of_none h hp)]; exact h⟩
    · exact .inr h
/-- something changeable is changed -/
theorem Kp.mut {p : Addr} {o : HO} (hp : Mut (H p)) : Kp K H (upd H p o) := by
  have ne : ∀ a u, H a = Option.some u → ¬ Mut (Option.some u) → a ≠ p := fun a u e n q => by subst q; rw [e] at hp; exact n hp
  refine ⟨fun a xs h => ?_, fun a xs h => ?_⟩
  · rw [upd_ne (ne _ _ h fun z => z)]; exact h
  · rcases h with ⟨o', h⟩ | h
    · exact .inl ⟨o', by rw [upd_ne (ne _ _ h fun z => z)]; exact h⟩
    · exact .inr h
theorem Sim.keep (s : Sim K r S H) (hk : Kp K H H') (h : ∀ (n : Nat) a, r[n]? = some a → H' a = H a) : Sim K r S H' :=
  ⟨s.len, s.nd, fun i a o e1 e2 => (s.obj i a o e1 e2).up Pre.refl hk (h i a e1)⟩
/-- a new thing that is no object of the store (a tuple) -/
theorem Sim.laid (s : Sim K r S H) {p : Addr} {o : HO} (hp : H p = none) : Sim K r S (upd H p o) :=
  s.keep (Kp.new hp) fun n a e => by
    obtain ⟨u, h, _⟩ := s.ne_none e
    exact upd_ne (ne_of_none h hp)
/-- a new object of the store -/
theorem Sim.new (s : Sim K r S H) {p : Addr} {u : HO} {o : O} (hp : H p = none) (ho : ORep K (r ++ [p]) (upd H p u) p o) : Sim K (r ++ [p]) (S ++ [o]) (upd H p u) := by
  have s1 := s.laid (o := u) hp
  have out : ∀ i : Nat, r[i]? ≠ Option.some p := fun i e => by
    obtain ⟨u, h, _⟩ := s.ne_none e
    rw [hp] at h; cases h
  refine ⟨by simp [s.len], fun i j a e1 e2 => ?_, fun i a o' e1 e2 => ?_⟩
  · rw [List.getElem?_append] at e1 e2
    split at e1 <;> split at e2
    · exact s.nd i j a e1 e2
    · have := List.mem_of_getElem? e2
      simp at this; subst this; exact absurd e1 (out i)
    · have := List.mem_of_getElem? e1
      simp at this; subst this; exact absurd e2 (out j)
    · have h1 := (List.getElem?_eq_some_iff.mp e1).1
      have h2 := (List.getElem?_eq_some_iff.mp e2).1
      simp at h1 h2
      omega
  · by_cases hi : i < r.length
    · rw [List.getElem?_append_left hi] at e1
      rw [List.getElem?_append_left (by rw [← s.len]; exact hi)] at e2
      exact (s1.obj i a o' e1 e2).up Pre.app Kp.refl rfl
    · rw [List.getElem?_append_right (by omega)] at e1
      rw [List.getElem?_append_right (by rw [← s.len]; omega)] at e2
      have h1 := List.mem_of_getElem? e1
      have h2 := List.mem_of_getElem? e2
      simp at h1 h2
      subst h1; subst h2
      exact ho
theorem Pre.last {p : Addr} (s : Sim K r S H) : (r ++ [p])[S.length]? = some p := by
  rw [← s.len]; simp
/-- an object of the store is changed -/
theorem Sim.set (s : Sim K r S H) {n : Nat} {a : Addr} {u : HO} {o : O} (hn : r[n]? = some a) (ho : ORep K r (upd H a u) a o) : Sim K r (S.set n o) (upd H a u) := by
  have hm : Mut (H a) := by
    obtain ⟨v, h, m⟩ := s.ne_none hn
    rw [h]; exact m
  refine ⟨by simp [s.len], s.nd, fun i b o' e1 e2 => ?_⟩
  by_cases hi : i = n
  · subst hi
    rw [hn] at e1; cases e1
    have hl := (List.getElem?_eq_some_iff.mp hn).1
    rw [List.getElem?_set_self (by rw [← s.len]; exact hl)] at e2
    cases e2
    exact ho
  · rw [List.getElem?_set_ne (Ne.symm hi)] at e2
    have ne : b ≠ a := fun e => hi (s.nd i n a (by rw [← e]; exact e1) hn)
    exact (s.obj i b o' e1 e2).up Pre.refl (Kp.mut hm) (upd_ne ne)
theorem Sim.mut (s : Sim K r S H) {n : Nat} {a : Addr} (hn : r[n]? = some a) : Mut (H a) := by
  obtain ⟨v, h, m⟩ := s.ne_none hn
  rw [h]; exact m
end

/-- the slots -/
def ERep (K : PySem.W.Frag) (r : List Addr) (H : Hp) (e : En) (σ : L2.St) : Prop :=
  e.length = σ.length ∧ ∀ (i : Nat) (w : W), e[i]? = some (some w) → ∃ v, σ[i]? = some (some v) ∧ Rep K r H w v
section
variable {K : PySem.W.Frag} {r r' : List Addr} {H H' : Hp} {e : En} {σ : L2.St}
theorem ERep.up (h : ERep K r H e σ) (hp : Pre r r') (hk : Kp K H H') : ERep K r' H' e σ :=
  ⟨h.1, fun i w q => let ⟨v, a, b⟩ := h.2 i w q; ⟨v, a, b.up hp hk⟩⟩
theorem ERep.set (h : ERep K r H e σ) {w : W} {v : V} (hw : Rep K r H w v) (i : Nat) : ERep K r H (e.set i (some w)) (σ.set i (some v)) := by
  refine ⟨by simp [h.1], fun j u q => ?_⟩
  by_cases hj : j = i
  · subst hj
    have hl := (List.getElem?_eq_some_iff.mp q).1
    simp at hl
    rw [List.getElem?_set_self hl] at q
    cases q
    exact ⟨v, by rw [List.getElem?_set_self (by rw [← h.1]; exact hl)], hw⟩
  · rw [List.getElem?_set_ne (Ne.symm hj)] at q
    rw [List.getElem?_set_ne (Ne.symm hj)]
    exact h.2 j u q
end

/-! ### what a piece of syntax is worth at the data -/
abbrev Fe := En → Sto → Option (W × Sto)
abbrev Ft := En → Sto → Option (Bool × Sto)
abbrev Fa := En → Sto → Option (List W × Sto)
abbrev Fn := List W → Sto → Option (W × Sto)
inductive Out where
  | next (e : En) | ret (w : W) | brk (e : En) | cont (e : En)
abbrev Fs := En → Sto → Option (Out × Sto)

/-- the data at hand -/
structure At (K : PySem.W.Frag) (r : List Addr) (e : En) (S : Sto) (σ : L2.St) (H : Hp) : Prop where
  sim : Sim K r S H
  env : ERep K r H e σ
theorem At.up {K : PySem.W.Frag} {r r' : List Addr} {H H' : Hp} {e : En} {σ : L2.St} {S S' : Sto} (a : At K r e S σ H) (hp : Pre r r') (hs : Sim K r' S' H') (hk : Kp K H H') : At K r' e S' σ H' := ⟨hs, a.env.up hp hk⟩

def tE (K : PySem.W.Frag) (f : Fe) : TE := fun σ H Q => ∃ r e S w S', At K r e S σ H ∧ f e S = some (w, S') ∧ ∀ r' v H', Pre r r' → Sim K r' S' H' → Kp K H H' → Rep K r' H' w v → Q v H'
def tT (K : PySem.W.Frag) (f : Ft) : TT := fun σ H Q => ∃ r e S b S', At K r e S σ H ∧ f e S = some (b, S') ∧ ∀ r' H', Pre r r' → Sim K r' S' H' → Kp K H H' → Q b H'
def tA (K : PySem.W.Frag) (f : Fa) : TA := fun σ H Q => ∃ r e S ws S', At K r e S σ H ∧ f e S = some (ws, S') ∧ ∀ r' vs H', Pre r r' → Sim K r' S' H' → Kp K H H' → Reps K r' H' ws vs → Q vs H'
def tS (K : PySem.W.Frag) (f : Fs) : TS := fun D σ H => ∃ r e S o S', At K r e S σ H ∧ f e S = some (o, S') ∧ ∀ r' H', Pre r r' → Sim K r' S' H' → Kp K H H' → match o with
  | .next e' => ∀ σ', ERep K r' H' e' σ' → D.nx σ' H'
  | .brk e' => ∀ σ', ERep K r' H' e' σ' → D.bk σ' H'
  | .cont e' => ∀ σ', ERep K r' H' e' σ' → D.ct σ' H'
  | .ret w => ∀ v, Rep K r' H' w v → D.rt v H'
/-- a def's promise -/
def spF (K : PySem.W.Frag) (f : Fn) : Sp := fun vs H Q _ => ∃ r ws S w S', Sim K r S H ∧ Reps K r H ws vs ∧ f ws S = some (w, S') ∧ ∀ r' v H', Pre r r' → Sim K r' S' H' → Kp K H H' → Rep K r' H' w v → Q v H'

section
variable {X : Cx} {e : Expr} {t t' : TE}
theorem pe_w (h : PE X e t) (hw : ∀ σ H Q, t' σ H Q → t σ H Q) : PE X e t' := ⟨fun pins s σ H Q I q => h.run pins s σ H Q I (hw σ H Q q)⟩
theorem pt_w {t t' : TT} (h : PT X e t) (hw : ∀ σ H Q, t' σ H Q → t σ H Q) : PT X e t' := ⟨fun pins s σ H Q I q => h.run pins s σ H Q I (hw σ H Q q)⟩
theorem pw_w {t t' : TT} (h : PW X e t) (hw : ∀ σ H Q, t' σ H Q → t σ H Q) : PW X e t' := ⟨fun wh pins s σ H Q I q => h.run wh pins s σ H Q I (hw σ H Q q)⟩
theorem pa_w {es : List Expr} {t t' : TA} (h : PA X es t) (hw : ∀ σ H Q, t' σ H Q → t σ H Q) : PA X es t' := ⟨fun pos pins s σ H Q I q => h.run pos pins s σ H Q I (hw σ H Q q)⟩
theorem ps_w {st : Stmt} {t t' : TS} (h : PS X st t) (hw : ∀ D σ H, t' D σ H → t D σ H) : PS X st t' := ⟨fun pins s σ H D I q => h.run pins s σ H D I (hw D σ H q)⟩
theorem pss_w {st : List Stmt} {t t' : TS} (h : PSs X st t) (hw : ∀ D σ H, t' D σ H → t D σ H) : PSs X st t' := ⟨fun pins s σ H D I q => h.run pins s σ H D I (hw D σ H q)⟩
end
end Bp

/-! Ev2: expressions. -/
namespace Bp
open PySem L2

/-! ### combinators -/
def eVar (i : Nat) : Fe := fun e S => match e[i]? with | some (some w) => some (w, S) | _ => none
def eC (w : W) : Fe := fun _ S => some (w, S)
def eOp (o : W → W → Sto → Option (W × Sto)) (f g : Fe) : Fe := fun e S => (f e S).bind fun p => (g e p.2).bind fun q => o p.1 q.1 q.2
def eUn (o : W → Sto → Option (W × Sto)) (f : Fe) : Fe := fun e S => (f e S).bind fun p => o p.1 p.2
def aNil : Fa := fun _ S => some ([], S)
def aCons (f : Fe) (g : Fa) : Fa := fun e S => (f e S).bind fun p => (g e p.2).bind fun q => some (p.1 :: q.1, q.2)
def eTup (f : Fa) : Fe := fun e S => (f e S).bind fun p => if p.1.length ≤ sizeLine then some (.tup p.1, p.2) else none
def eLst (f : Fa) : Fe := fun e S => (f e S).bind fun p => if p.1.length ≤ sizeLine then some (.ref p.2.length, p.2 ++ [.lst p.1]) else none
/-- a call by values -/
def eCall (o : List W → Sto → Option (W × Sto)) (f : Fa) : Fe := fun e S => (f e S).bind fun p => o p.1 p.2
def eMeth (o : W → List W → Sto → Option (W × Sto)) (g : Fe) (f : Fa) : Fe := fun e S => (g e S).bind fun q => (f e q.2).bind fun p => o q.1 p.1 p.2
def eIf (t : Ft) (f g : Fe) : Fe := fun e S => (t e S).bind fun p => if p.1 = true then f e p.2 else g e p.2
def eAnd (f g : Fe) : Fe := fun e S => (f e S).bind fun p => match p.1 with | .bl true => g e p.2 | .bl false => some (.bl false, p.2) | _ => none
def eOr (f g : Fe) : Fe := fun e S => (f e S).bind fun p => match p.1 with | .bl true => some (.bl true, p.2) | .bl false => g e p.2 | _ => none
def eNot (f : Fe) : Fe := fun e S => (f e S).bind fun p => match p.1 with | .bl b => some (.bl (!b), p.2) | _ => none
def tVal (f : Fe) : Ft := fun e S => (f e S).bind fun p => match p.1 with | .bl b => some (b, p.2) | _ => none
def tAndW (f g : Ft) : Ft := fun e S => (f e S).bind fun p => if p.1 = true then g e p.2 else some (false, p.2)
def tOrW (f g : Ft) : Ft := fun e S => (f e S).bind fun p => if p.1 = true then some (true, p.2) else g e p.2
def tNotW (f : Ft) : Ft := fun e S => (f e S).bind fun p => some (!p.1, p.2)
def eChain (o o' : W → W → Sto → Option (W × Sto)) (f g h : Fe) : Fe := fun e S => (f e S).bind fun p => (g e p.2).bind fun q => (o p.1 q.1 q.2).bind fun x => match x.1 with
  | .bl true => (h e x.2).bind fun z => o' q.1 z.1 z.2
  | .bl false => some (.bl false, x.2)
  | _ => none

/-! ### rules by values -/
def KR (K : PySem.W.Frag) (r : List Addr) (H : Hp) (S' : Sto) (w : W) (Q : VK) : Prop := ∀ r' v H', Pre r r' → Sim K r' S' H' → Kp K H H' → Rep K r' H' w v → Q v H'
def R2W (K : PySem.W.Frag) (R : R2) (o : W → W → Sto → Option (W × Sto)) : Prop := ∀ r S H x y wx wy w S' (Q : VK), Sim K r S H → Rep K r H wx x → Rep K r H wy y → o wx wy S = some (w, S') → KR K r H S' w Q → R x y H Q
def R1W (K : PySem.W.Frag) (R : V → Hp → VK → Prop) (o : W → Sto → Option (W × Sto)) : Prop := ∀ r S H x wx w S' (Q : VK), Sim K r S H → Rep K r H wx x → o wx S = some (w, S') → KR K r H S' w Q → R x H Q
def RnW (K : PySem.W.Frag) (R : List V → Hp → VK → Prop) (o : List W → Sto → Option (W × Sto)) : Prop := ∀ r S H xs ws w S' (Q : VK), Sim K r S H → Reps K r H ws xs → o ws S = some (w, S') → KR K r H S' w Q → R xs H Q
def RmW (K : PySem.W.Frag) (R : V → List V → Hp → VK → Prop) (o : W → List W → Sto → Option (W × Sto)) : Prop := ∀ r S H x xs wx ws w S' (Q : VK), Sim K r S H → Rep K r H wx x → Reps K r H ws xs → o wx ws S = some (w, S') → KR K r H S' w Q → R x xs H Q
theorem KR.pre {K : PySem.W.Frag} {r r1 : List Addr} {H H1 : Hp} {S' : Sto} {w : W} {Q : VK} (k : KR K r H S' w Q) (p : Pre r r1) (h : Kp K H H1) : KR K r1 H1 S' w Q := fun r' v H' p' s' k' rep => k r' v H' (p.trans p') s' (h.trans k') rep
/-- the answer at once -/
theorem KR.now {K : PySem.W.Frag} {r : List Addr} {H : Hp} {S : Sto} {w : W} {v : V} {Q : VK} (k : KR K r H S w Q) (s : Sim K r S H) (rep : Rep K r H w v) : Q v H := k r v H Pre.refl s Kp.refl rep
/-- the answer is a new tuple -/
theorem KR.tup {K : PySem.W.Frag} {r : List Addr} {H : Hp} {S : Sto} {ws : List W} {vs : List V} {Q : VK} (k : KR K r H S (.tup ws) Q) (s : Sim K r S H) (rep : Reps K r H ws vs) : ∀ p, H p = none → Q (.ref p) (upd H p (.tup vs)) := fun p hp =>
  k r _ _ Pre.refl (s.laid hp) (Kp.new hp) (.tup upd_same (rep.up Pre.refl (Kp.new hp)))
/-- .. a new list -/
theorem KR.lst {K : PySem.W.Frag} {r : List Addr} {H : Hp} {S : Sto} {ws : List W} {vs : List V} {Q : VK} (k : KR K r H (S ++ [.lst ws]) (.ref S.length) Q) (s : Sim K r S H) (rep : Reps K r H ws vs) : ∀ p, H p = none → Q (.ref p) (upd H p (.lst vs)) := fun p hp =>
  k (r ++ [p]) _ _ Pre.app (s.new hp ⟨vs, upd_same, rep.up Pre.app (Kp.new hp)⟩) (Kp.new hp) (.ref (Pre.last s))
/-- .. None, a list changed -/
theorem KR.set {K : PySem.W.Frag} {r : List Addr} {H : Hp} {S : Sto} {n : Nat} {a : Addr} {ws : List W} {vs : List V} {w : W} {v : V} {Q : VK} (k : KR K r H (S.set n (.lst ws)) w Q) (s : Sim K r S H) (hn : r[n]? = some a) (rep : Reps K r H ws vs) (hw : Rep K r H w v) : Q v (upd H a (.lst vs)) :=
  have m := Kp.mut (K := K) (o := .lst vs) (s.mut hn)
  k r _ _ Pre.refl (s.set hn ⟨vs, upd_same, rep.up Pre.refl m⟩) m (hw.up Pre.refl m)
theorem bindS {α β : Type} {x : Option α} {f : α → Option β} {b : β} (h : x.bind f = some b) : ∃ a, x = some a ∧ f a = some b := Option.bind_eq_some_iff.mp h

section
variable {X : Cx} {a b c : Expr} {f g h : Fe} {pos : Pos} {R R' : R2} {o o' : W → W → Sto → Option (W × Sto)}
theorem w_var (i : Nat) {x : Str} (hN : X.N[i]? = some x := by rfl) (hv : Vis X.env.scope x := by first | exact Or.inl rfl | exact Or.inr (Or.inl rfl) | exact Or.inr (Or.inr rfl)) (hd : (x == ("__debug__" : Str)) = false := by decide)
    (hcd : (x == ("__classdict__" : Str)) = false := by decide) : PE X (.Name x pos) (tE X.K (eVar i)) := by
  refine pe_w (pe_var hN hv hd hcd) fun σ H Q q => ?_
  obtain ⟨r, e, S, w, S', at_, hf, k⟩ := q
  unfold eVar at hf
  split at hf
  · rename_i u hu
    cases hf
    obtain ⟨v, h1, h2⟩ := at_.env.2 i w hu
    exact ⟨v, h1, k r v H Pre.refl at_.sim Kp.refl h2⟩
  · cases hf
theorem w_C {w : W} {v : V} (hr : ∀ K r H, Rep K r H w v) (he : PE X a (tC v)) : PE X a (tE X.K (eC w)) := by
  refine pe_w he fun σ H Q q => ?_
  obtain ⟨r, e, S, w', S', at_, hf, k⟩ := q
  cases hf
  exact k r v H Pre.refl at_.sim Kp.refl (hr _ _ _)
theorem w_int {i : Int} {j : Nat} : PE X (.Constant (.int i) j pos) (tE X.K (eC (.int i))) := w_C (fun _ _ _ => .int i) pe_int
theorem w_bl {i : Bool} {j : Nat} : PE X (.Constant (.bool i) j pos) (tE X.K (eC (.bl i))) := w_C (fun _ _ _ => .bl i) pe_bl
theorem w_str {i : Str} {j : Nat} : PE X (.Constant (.str i) j pos) (tE X.K (eC (.str i))) := w_C (fun _ _ _ => .str i) pe_str
theorem w_non {j : Nat} : PE X (.Constant .none j pos) (tE X.K (eC .non)) := w_C (fun _ _ _ => .non) pe_non
/-- a module's int -/
theorem w_gint {x : Str} {i : Int} {t : Tok} (hg : Gl X x) (hm : X.mg x = some (.int i t)) (hd : (x == ("__debug__" : Str)) = false := by decide) : PE X (.Name x pos) (tE X.K (eC (.int i))) := w_C (fun _ _ _ => .int i) (pe_glob hg hm ⟨t, rfl⟩ hd)
theorem w_gstr {x : Str} {i : Str} {t : Tok} (hg : Gl X x) (hm : X.mg x = some (.str i t)) (hd : (x == ("__debug__" : Str)) = false := by decide) : PE X (.Name x pos) (tE X.K (eC (.str i))) := w_C (fun _ _ _ => .str i) (pe_glob hg hm ⟨t, rfl⟩ hd)
/-- a built-in type as a value -/
theorem w_ty {x : Str} {T : String} (hg : Gl X x) (hm : X.mg x = none) (hv : bootBuiltins x = some (.type T)) (hn : x ≠ "__name__" := by decide) (hd : (x == ("__debug__" : Str)) = false := by decide) : PE X (.Name x pos) (tE X.K (eC (.ty T))) :=
  w_C (fun _ _ _ => .ty T) (pe_bltn (v := .ty T) hg hm hv rfl hn hd)

theorem r_op (hr : R2W X.K R o) {σ : L2.St} {H : Hp} {Q : VK} (q : tE X.K (eOp o f g) σ H Q) : tOp R (tE X.K f) (tE X.K g) σ H Q := by
  obtain ⟨r, e, S, w, S', at_, hf, k⟩ := q
  obtain ⟨p, h1, hf⟩ := bindS hf
  obtain ⟨p2, h2, h3⟩ := bindS hf
  refine ⟨r, e, S, p.1, p.2, at_, h1, fun r1 v1 H1 pr1 s1 k1 rep1 => ⟨r1, e, p.2, p2.1, p2.2, at_.up pr1 s1 k1, h2, fun r2 v2 H2 pr2 s2 k2 rep2 => ?_⟩⟩
  exact hr r2 p2.2 H2 v1 v2 p.1 p2.1 w S' Q s2 (rep1.up pr2 k2) rep2 h3 fun r3 v3 H3 p3 s3 k3 rep3 => k r3 v3 H3 ((pr1.trans pr2).trans p3) s3 ((k1.trans k2).trans k3) rep3
theorem w_op {op : Operator} (ho : OpR X (binaryOp op) R) (hr : R2W X.K R o) (ha : PE X a (tE X.K f)) (hb : PE X b (tE X.K g)) : PE X (.BinOp a op b pos) (tE X.K (eOp o f g)) :=
  pe_w (pe_op ho ha hb) fun _ _ _ q => r_op hr q
theorem w_cmp {op : CmpOp} (ho : OpR X (compareOp op) R) (hr : R2W X.K R o) (ha : PE X a (tE X.K f)) (hb : PE X b (tE X.K g)) (hm : behindInMarks op b = false) : PE X (.Compare a [op] [b] pos) (tE X.K (eOp o f g)) :=
  pe_w (pe_cmpR ho ha hb hm) fun _ _ _ q => r_op hr q
theorem r_val {σ : L2.St} {H : Hp} {Q : Bool → Hp → Prop} {f : Fe} {t : TE} (ht : ∀ Q, tE X.K f σ H Q → t σ H Q) (q : tT X.K (tVal f) σ H Q) : t σ H fun x H' => ∃ k, x = .bl k ∧ Q k H' := by
  obtain ⟨r, e, S, w, S', at_, hf, k⟩ := q
  obtain ⟨p, h1, hf⟩ := bindS hf
  refine ht _ ⟨r, e, S, p.1, p.2, at_, h1, fun r1 v1 H1 pr1 s1 k1 rep1 => ?_⟩
  obtain ⟨p1, p2⟩ := p
  cases p1 <;> simp at hf
  obtain ⟨rfl, rfl⟩ := hf
  cases rep1
  exact ⟨_, rfl, k r1 H1 pr1 s1 k1⟩
theorem wt_cmp {op : CmpOp} (ho : OpR X (compareOp op) R) (hr : R2W X.K R o) (ha : PE X a (tE X.K f)) (hb : PE X b (tE X.K g)) (hm : behindInMarks op b = false) : PT X (.Compare a [op] [b] pos) (tT X.K (tVal (eOp o f g))) :=
  pt_w (pt_cmpR ho ha hb hm) fun _ _ _ q => r_val (fun _ q => r_op hr q) q
theorem wt_val (ha : PE X a (tE X.K f)) (he : ∀ whole, isTrue a X.env whole = (do let v ← whole; standAt a.pos; holding [v] (truthy v)) := by intro _; rfl) : PT X a (tT X.K (tVal f)) :=
  pt_w (pt_val ha he) fun _ _ _ q => r_val (fun _ q => q) q
theorem r_chain (hr : R2W X.K R o) (hr' : R2W X.K R' o') {σ : L2.St} {H : Hp} {Q : VK} (q : tE X.K (eChain o o' f g h) σ H Q) : tChain R R' (tE X.K f) (tE X.K g) (tE X.K h) σ H Q := by
  obtain ⟨r, e, S, w, S', at_, hf, k⟩ := q
  obtain ⟨p, h1, hf⟩ := bindS hf
  obtain ⟨p2, h2, hf⟩ := bindS hf
  obtain ⟨p3, h3, hf⟩ := bindS hf
  refine ⟨r, e, S, p.1, p.2, at_, h1, fun r1 v1 H1 pr1 s1 k1 rep1 => ⟨r1, e, p.2, p2.1, p2.2, at_.up pr1 s1 k1, h2, fun r2 v2 H2 pr2 s2 k2 rep2 => ?_⟩⟩
  refine hr r2 p2.2 H2 v1 v2 p.1 p2.1 p3.1 p3.2 _ s2 (rep1.up pr2 k2) rep2 h3 fun r3 v3 H3 pr3 s3 k3 rep3 => ?_
  obtain ⟨x, S3⟩ := p3
  cases x <;> simp only at hf <;> try (cases hf)
  rename_i bb
  cases rep3
  cases bb
  · cases hf
    exact ⟨false, rfl, k r3 _ H3 ((pr1.trans pr2).trans pr3) s3 ((k1.trans k2).trans k3) (.bl false)⟩
  · obtain ⟨p4, h4, hf⟩ := bindS hf
    refine ⟨true, rfl, r3, e, S3, p4.1, p4.2, at_.up ((pr1.trans pr2).trans pr3) s3 ((k1.trans k2).trans k3), h4, fun r4 v4 H4 pr4 s4 k4 rep4 => ?_⟩
    exact hr' r4 p4.2 H4 v2 v4 p2.1 p4.1 w S' Q s4 (rep2.up (pr3.trans pr4) (k3.trans k4)) rep4 hf fun r5 v5 H5 p5 s5 k5 rep5 => k r5 v5 H5 (((pr1.trans pr2).trans pr3).trans (pr4.trans p5)) s5 (((k1.trans k2).trans k3).trans (k4.trans k5)) rep5
end
end Bp

/-! Ev3: and, or, not, arguments, displays, calls of built-ins, subscripts, slices. -/
namespace Bp
open PySem L2
section
variable {X : Cx} {a b c : Expr} {f g h : Fe} {t u : Ft} {pos : Pos} {R R' : R2} {o o' : W → W → Sto → Option (W × Sto)} {rest es : List Expr} {fa : Fa}
theorem w_chain {op op' : CmpOp} (ho : OpR X (compareOp op) R) (hr : R2W X.K R o) (ho' : OpR X (compareOp op') R') (hr' : R2W X.K R' o') (ha : PE X a (tE X.K f)) (hb : PE X b (tE X.K g)) (hc : PE X c (tE X.K h))
    (hm : lastMarks [op, op'] [b, c] = false := by with_unfolding_all rfl) : PE X (.Compare a [op, op'] [b, c] pos) (tE X.K (eChain o o' f g h)) :=
  pe_w (pe_chain ho ho' ha hb hc hm) fun _ _ _ q => r_chain hr hr' q
theorem wt_chain {op op' : CmpOp} (ho : OpR X (compareOp op) R) (hr : R2W X.K R o) (ho' : OpR X (compareOp op') R') (hr' : R2W X.K R' o') (ha : PE X a (tE X.K f)) (hb : PE X b (tE X.K g)) (hc : PE X c (tE X.K h))
    (hm : lastMarks [op, op'] [b, c] = false := by with_unfolding_all rfl) : PT X (.Compare a [op, op'] [b, c] pos) (tT X.K (tVal (eChain o o' f g h))) :=
  pt_w (pt_chain ho ho' ha hb hc hm) fun _ _ _ q => r_val (fun _ q => r_chain hr hr' q) q
theorem w_un {op : UnaryOp} {R : V → Hp → VK → Prop} {o : W → Sto → Option (W × Sto)} (ho : UnR X (unaryOp op) R) (hr : R1W X.K R o) (ha : PE X a (tE X.K f)) : PE X (.UnaryOp op a pos) (tE X.K (eUn o f)) := by
  refine pe_w (pe_un ho ha) fun σ H Q q => ?_
  obtain ⟨r, e, S, w, S', at_, hf, k⟩ := q
  obtain ⟨p, h1, hf⟩ := bindS hf
  exact ⟨r, e, S, p.1, p.2, at_, h1, fun r1 v1 H1 pr1 s1 k1 rep1 => hr r1 p.2 H1 v1 p.1 w S' Q s1 rep1 hf (KR.pre k pr1 k1)⟩
theorem w_if (hc : PT X c (tT X.K t)) (ha : PE X a (tE X.K f)) (hb : PE X b (tE X.K g)) : PE X (.IfExp c a b pos) (tE X.K (eIf t f g)) := by
  refine pe_w (pe_ifExp hc ha hb) fun σ H Q q => ?_
  obtain ⟨r, e, S, w, S', at_, hf, k⟩ := q
  obtain ⟨⟨b, S1⟩, h1, hf⟩ := bindS hf
  refine ⟨r, e, S, b, S1, at_, h1, fun r1 H1 pr1 s1 k1 => ?_⟩
  cases b with
  | true =>
    rw [if_pos rfl] at hf ⊢
    exact ⟨r1, e, S1, w, S', at_.up pr1 s1 k1, hf, KR.pre k pr1 k1⟩
  | false =>
    rw [if_neg Bool.false_ne_true] at hf ⊢
    exact ⟨r1, e, S1, w, S', at_.up pr1 s1 k1, hf, KR.pre k pr1 k1⟩
theorem w_one {op} (ha : PE X a (tE X.K f)) : PE X (.BoolOp op [a] pos) (tE X.K f) := pe_one ha
theorem w_and (ha : PE X a (tE X.K f)) (hb : PE X (.BoolOp .And (b :: rest) pos) (tE X.K g)) : PE X (.BoolOp .And (a :: b :: rest) pos) (tE X.K (eAnd f g)) := by
  refine pe_w (pe_and ha hb) fun σ H Q q => ?_
  obtain ⟨r, e, S, w, S', at_, hf, k⟩ := q
  obtain ⟨⟨x, S1⟩, h1, hf⟩ := bindS hf
  refine ⟨r, e, S, x, S1, at_, h1, fun r1 v1 H1 pr1 s1 k1 rep1 => ?_⟩
  cases x <;> simp only at hf <;> try (cases hf)
  rename_i bb
  cases rep1
  cases bb with
  | true => exact ⟨true, rfl, by rw [if_pos rfl]; exact ⟨r1, e, S1, w, S', at_.up pr1 s1 k1, hf, KR.pre k pr1 k1⟩⟩
  | false => cases hf; exact ⟨false, rfl, by rw [if_neg Bool.false_ne_true]; exact k r1 _ H1 pr1 s1 k1 (.bl false)⟩
theorem w_or (ha : PE X a (tE X.K f)) (hb : PE X (.BoolOp .Or (b :: rest) pos) (tE X.K g)) : PE X (.BoolOp .Or (a :: b :: rest) pos) (tE X.K (eOr f g)) := by
  refine pe_w (pe_or ha hb) fun σ H Q q => ?_
  obtain ⟨r, e, S, w, S', at_, hf, k⟩ := q
  obtain ⟨⟨x, S1⟩, h1, hf⟩ := bindS hf
  refine ⟨r, e, S, x, S1, at_, h1, fun r1 v1 H1 pr1 s1 k1 rep1 => ?_⟩
  cases x <;> simp only at hf <;> try (cases hf)
  rename_i bb
  cases rep1
  cases bb with
  | true => cases hf; exact ⟨true, rfl, by rw [if_pos rfl]; exact k r1 _ H1 pr1 s1 k1 (.bl true)⟩
  | false => exact ⟨false, rfl, by rw [if_neg Bool.false_ne_true]; exact ⟨r1, e, S1, w, S', at_.up pr1 s1 k1, hf, KR.pre k pr1 k1⟩⟩
theorem w_not (ha : PE X a (tE X.K f)) : PE X (.UnaryOp .Not a pos) (tE X.K (eNot f)) := by
  refine pe_w (pe_not ha) fun σ H Q q => ?_
  obtain ⟨r, e, S, w, S', at_, hf, k⟩ := q
  obtain ⟨⟨x, S1⟩, h1, hf⟩ := bindS hf
  refine ⟨r, e, S, x, S1, at_, h1, fun r1 v1 H1 pr1 s1 k1 rep1 => ?_⟩
  cases x <;> simp at hf
  obtain ⟨rfl, rfl⟩ := hf
  cases rep1
  exact ⟨_, rfl, k r1 _ H1 pr1 s1 k1 (.bl _)⟩
theorem wt_one {op : BoolOp} (ha : PT X a (tT X.K t)) (ho : op = .And ∨ op = .Or := by decide) : PW X (.BoolOp op [a] pos) (tT X.K t) := by
  rcases ho with rfl | rfl
  · exact pw_and1 ha
  · exact pw_or1 ha
theorem wt_and1 (ha : PT X a (tT X.K t)) : PW X (.BoolOp .And [a] pos) (tT X.K t) := pw_and1 ha
theorem wt_or1 (ha : PT X a (tT X.K t)) : PW X (.BoolOp .Or [a] pos) (tT X.K t) := pw_or1 ha
theorem wt_and (ha : PT X a (tT X.K t)) (hb : PW X (.BoolOp .And (b :: rest) pos) (tT X.K u)) : PW X (.BoolOp .And (a :: b :: rest) pos) (tT X.K (tAndW t u)) := by
  refine pw_w (pw_and ha hb) fun σ H Q q => ?_
  obtain ⟨r, e, S, w, S', at_, hf, k⟩ := q
  obtain ⟨⟨x, S1⟩, h1, hf⟩ := bindS hf
  refine ⟨r, e, S, x, S1, at_, h1, fun r1 H1 pr1 s1 k1 => ?_⟩
  cases x with
  | true => rw [if_pos rfl] at hf ⊢; exact ⟨r1, e, S1, w, S', at_.up pr1 s1 k1, hf, fun r2 H2 p2 s2 k2 => k r2 H2 (pr1.trans p2) s2 (k1.trans k2)⟩
  | false => rw [if_neg Bool.false_ne_true] at hf ⊢; cases hf; exact k r1 H1 pr1 s1 k1
theorem wt_or (ha : PT X a (tT X.K t)) (hb : PW X (.BoolOp .Or (b :: rest) pos) (tT X.K u)) : PW X (.BoolOp .Or (a :: b :: rest) pos) (tT X.K (tOrW t u)) := by
  refine pw_w (pw_or ha hb) fun σ H Q q => ?_
  obtain ⟨r, e, S, w, S', at_, hf, k⟩ := q
  obtain ⟨⟨x, S1⟩, h1, hf⟩ := bindS hf
  refine ⟨r, e, S, x, S1, at_, h1, fun r1 H1 pr1 s1 k1 => ?_⟩
  cases x with
  | false => rw [if_neg Bool.false_ne_true] at hf ⊢; exact ⟨r1, e, S1, w, S', at_.up pr1 s1 k1, hf, fun r2 H2 p2 s2 k2 => k r2 H2 (pr1.trans p2) s2 (k1.trans k2)⟩
  | true => rw [if_pos rfl] at hf ⊢; cases hf; exact k r1 H1 pr1 s1 k1
theorem wt_not (ha : PT X a (tT X.K t)) : PT X (.UnaryOp .Not a pos) (tT X.K (tNotW t)) := by
  refine pt_w (pt_not ha) fun σ H Q q => ?_
  obtain ⟨r, e, S, w, S', at_, hf, k⟩ := q
  obtain ⟨⟨x, S1⟩, h1, hf⟩ := bindS hf
  cases hf
  exact ⟨r, e, S, x, S1, at_, h1, fun r1 H1 pr1 s1 k1 => k r1 H1 pr1 s1 k1⟩

/-! ### arguments, displays -/
theorem wa_nil : PA X [] (tA X.K aNil) := by
  refine pa_w pa_nil fun σ H Q q => ?_
  obtain ⟨r, e, S, w, S', at_, hf, k⟩ := q
  cases hf
  exact k r [] H Pre.refl at_.sim Kp.refl .nil
theorem wa_cons (ha : PE X a (tE X.K f)) (hr : PA X es (tA X.K fa)) (hs : starEach (a :: es) X.env = (false, eval a X.env) :: starEach es X.env := by rfl) : PA X (a :: es) (tA X.K (aCons f fa)) := by
  refine pa_w (pa_cons ha hr hs) fun σ H Q q => ?_
  obtain ⟨r, e, S, w, S', at_, hf, k⟩ := q
  obtain ⟨p, h1, hf⟩ := bindS hf
  obtain ⟨p2, h2, hf⟩ := bindS hf
  cases hf
  refine ⟨r, e, S, p.1, p.2, at_, h1, fun r1 v1 H1 pr1 s1 k1 rep1 => ⟨r1, e, p.2, p2.1, p2.2, at_.up pr1 s1 k1, h2, fun r2 v2 H2 pr2 s2 k2 rep2 => ?_⟩⟩
  exact k r2 _ H2 (pr1.trans pr2) s2 (k1.trans k2) (.cons (rep1.up pr2 k2) rep2)
theorem w_tup {x1} (ha : PA X es (tA X.K fa)) : PE X (.Tuple es x1 pos) (tE X.K (eTup fa)) := by
  refine pe_w (pe_tup ha) fun σ H Q q => ?_
  obtain ⟨r, e, S, w, S', at_, hf, k⟩ := q
  obtain ⟨p, h1, hf⟩ := bindS hf
  split at hf
  · rename_i hl
    cases hf
    refine ⟨r, e, S, p.1, p.2, at_, h1, fun r1 vs H1 pr1 s1 k1 rep1 => ⟨by rw [rep1.length]; exact hl, ?_⟩⟩
    exact KR.tup (KR.pre k pr1 k1) s1 rep1
  · cases hf
theorem w_lst (ha : PA X es (tA X.K fa)) : PE X (.List es pos) (tE X.K (eLst fa)) := by
  refine pe_w (pe_lst ha) fun σ H Q q => ?_
  obtain ⟨r, e, S, w, S', at_, hf, k⟩ := q
  obtain ⟨p, h1, hf⟩ := bindS hf
  split at hf
  · rename_i hl
    cases hf
    refine ⟨r, e, S, p.1, p.2, at_, h1, fun r1 vs H1 pr1 s1 k1 rep1 => ⟨by rw [rep1.length]; exact hl, ?_⟩⟩
    exact KR.lst (KR.pre k pr1 k1) s1 rep1
  · cases hf

/-! ### calls of built-ins -/
theorem r_cb {R : List V → Hp → VK → Prop} {o : List W → Sto → Option (W × Sto)} (hr : RnW X.K R o) {σ : L2.St} {H : Hp} {Q : VK} (q : tE X.K (eCall o fa) σ H Q) : tCB R (tA X.K fa) σ H Q := by
  obtain ⟨r, e, S, w, S', at_, hf, k⟩ := q
  obtain ⟨p, h1, hf⟩ := bindS hf
  exact ⟨r, e, S, p.1, p.2, at_, h1, fun r1 vs H1 pr1 s1 k1 rep1 => hr r1 p.2 H1 vs p.1 w S' Q s1 rep1 hf (KR.pre k pr1 k1)⟩
variable {x : Str} {p : Pos} {id T : String} {Rn : List V → Hp → VK → Prop} {on : List W → Sto → Option (W × Sto)}
theorem w_callB (hc : CallR X (.builtin id) Rn) (hr : RnW X.K Rn on) (hg : Gl X x) (hm : X.mg x = none) (hv : bootBuiltins x = some (.builtin id)) (ha : PA X (a :: es) (tA X.K fa)) (hn : x ≠ "__name__" := by decide) (hdb : (x == ("__debug__" : Str)) = false := by decide)
    (he : starEach (a :: es) X.env = (false, eval a X.env) :: starEach es X.env := by rfl) (hpl : (backTo pos (starEach es X.env)).any (·.1) = false := by rfl) : PE X (.Call (.Name x p) (a :: es) [] pos) (tE X.K (eCall on fa)) :=
  pe_w (pe_callB hc hg hm hv ha hn hdb he hpl) fun _ _ _ q => r_cb hr q
theorem w_callTy (hc : CallR X (.type T) Rn) (hr : RnW X.K Rn on) (hg : Gl X x) (hm : X.mg x = none) (hv : bootBuiltins x = some (.type T)) (ha : PA X (a :: es) (tA X.K fa)) (hn : x ≠ "__name__" := by decide) (hdb : (x == ("__debug__" : Str)) = false := by decide)
    (he : starEach (a :: es) X.env = (false, eval a X.env) :: starEach es X.env := by rfl) (hpl : (backTo pos (starEach es X.env)).any (·.1) = false := by rfl) : PE X (.Call (.Name x p) (a :: es) [] pos) (tE X.K (eCall on fa)) :=
  pe_w (pe_callTy hc hg hm hv ha hn hdb he hpl) fun _ _ _ q => r_cb hr q
/-- a def of the text -/
theorem w_call {k : Nat} {fad : Addr} {fd : FuncData} {ps : List Str} {G : Fn} (F : FnOk X.prog X.w X.K X.mg X.base CX0 k fad fd ps (spF X.K G)) (hr : Room k X.A) (hg : Gl X x) (hm : X.mg x = some (.ref fad)) (hk : PySem.W.keepIn X.K (.ref fad) = true) (hb : Binds X.K fd ps [])
    (ha : PA X (a :: es) (tA X.K fa)) (hdb : (x == ("__debug__" : Str)) = false := by decide) (he : starEach (a :: es) X.env = (false, eval a X.env) :: starEach es X.env := by rfl) (hpl : (backTo pos (starEach es X.env)).any (·.1) = false := by rfl) :
    PE X (.Call (.Name x p) (a :: es) [] pos) (tE X.K (eCall G fa)) := by
  refine pe_w (pe_call (E := fun _ _ _ => False) F hr hg hm hk hb .nil (fun _ _ _ _ _ _ _ h => h.elim) ha hdb he hpl) fun σ H Q q => ?_
  obtain ⟨r, e, S, w, S', at_, hf, k⟩ := q
  obtain ⟨p, h1, hf⟩ := bindS hf
  exact ⟨r, e, S, p.1, p.2, at_, h1, fun r1 vs H1 pr1 s1 k1 rep1 => ⟨r1, p.1, p.2, w, S', s1, by rw [List.append_nil]; exact rep1, hf, KR.pre k pr1 k1⟩⟩

/-! ### subscripts -/
theorem w_ix (ho : IxR X R) (hr : R2W X.K R o) (ha : PE X a (tE X.K f)) (hb : PE X b (tE X.K g)) (hs : PlainIx b := by intro _ _; rfl) : PE X (.Subscript a b pos) (tE X.K (eOp o f g)) :=
  pe_w (pe_ix ho ha hb hs) fun _ _ _ q => r_op hr q
end
end Bp

/-! Ev4: operators and built-ins at the data. -/
namespace Bp
open PySem L2
/-! ### ints -/
def iop (C : Int → Int → Prop) [∀ i j, Decidable (C i j)] (g : Int → Int → W) : W → W → Sto → Option (W × Sto)
  | .int i, .int j, S => if C i j then some (g i j, S) else none
  | _, _, _ => none
def iop0 (g : Int → Int → W) : W → W → Sto → Option (W × Sto)
  | .int i, .int j, S => some (g i j, S)
  | _, _, _ => none
section
variable {K : PySem.W.Frag}
theorem r2_iop0 {g : Int → Int → V} {gw : Int → Int → W} (h : ∀ r H i j, Rep K r H (gw i j) (g i j)) : R2W K (rI0 g) (iop0 gw) := by
  intro r S H x y wx wy w S' Q s rx ry e k
  unfold iop0 at e
  split at e
  · cases e
    cases rx; cases ry
    exact ⟨_, _, rfl, rfl, KR.now k s (h _ _ _ _)⟩
  · cases e
theorem r2_iop {C D : Int → Int → Prop} [∀ i j, Decidable (C i j)] {g : Int → Int → V} {gw : Int → Int → W} (h : ∀ r H i j, C i j → Rep K r H (gw i j) (g i j)) (hc : ∀ i j, C i j → D i j) : R2W K (rI D g) (iop C gw) := by
  intro r S H x y wx wy w S' Q s rx ry e k
  unfold iop at e
  split at e
  · split at e
    · rename_i hC
      cases e
      cases rx; cases ry
      exact ⟨_, _, rfl, rfl, hc _ _ hC, KR.now k s (h _ _ _ _ hC)⟩
    · cases e
  · cases e
end
def subW := iop0 fun i j => .int (i - j)
def ltW := iop0 fun i j => .bl (decide (i < j))
def leW := iop0 fun i j => .bl (decide (i ≤ j))
def gtW := iop0 fun i j => .bl (decide (j < i))
def geW := iop0 fun i j => .bl (decide (j ≤ i))
def powW := iop (fun i j => 0 ≤ j ∧ j ≤ 1000000 ∧ i.natAbs < 2 ^ 64) fun i j => .int (i ^ j.toNat)
def modW := iop (fun _ j => j ≠ 0) fun i j => .int (i.fmod j)
/-- a divisor below 2 ^ 2000 -/
def okDiv (j : Int) : Prop := j ≠ 0 ∧ j.natAbs < 2 ^ 2000
instance : DecidablePred okDiv := fun j => inferInstanceAs (Decidable (j ≠ 0 ∧ j.natAbs < 2 ^ 2000))
def fdivW := iop (fun _ j => okDiv j) fun i j => .int (i.fdiv j)
/-- one factor below 2 ^ 64, or both below 2 ^ 2000 -/
def okMul (i j : Int) : Prop := i.natAbs < 2 ^ 64 ∨ j.natAbs < 2 ^ 64 ∨ (i.natAbs < 2 ^ 2000 ∧ j.natAbs < 2 ^ 2000)
instance : ∀ i j, Decidable (okMul i j) := fun i j => inferInstanceAs (Decidable (_ ∨ _ ∨ _))
section
variable {X : Cx} {K : PySem.W.Frag}
def CDivX (_ j : Int) : Prop := j ≠ 0 ∧ j.natAbs.log2 < 9000
theorem op_fdivX : OpR X (binaryOp .FloorDiv) (rI CDivX fun i j => .int (i.fdiv j)) := opI fun i j _ _ _ _ _ hc q => PyProof.Rows.floordiv_int hc.1 q (.inl (PyProof.noPylong_of_log2 hc.2))
def CMulX (i j : Int) : Prop := CMul i j ∨ CMulW i j
theorem op_mulX : OpR X (binaryOp .Mult) (rI CMulX fun i j => .int (i * j)) := opI fun _ _ _ _ _ _ _ hc q => PyProof.Rows.mul_int q (hc.elim CMul.ok CMulW.ok)
theorem r_sub : R2W K (rI0 fun i j => .int (i - j)) subW := r2_iop0 fun _ _ _ _ => .int _
theorem r_lt : R2W K (rI0 fun i j => .bl (decide (i < j))) ltW := r2_iop0 fun _ _ _ _ => .bl _
theorem r_le : R2W K (rI0 fun i j => .bl (decide (i ≤ j))) leW := r2_iop0 fun _ _ _ _ => .bl _
theorem r_gt : R2W K (rI0 fun i j => .bl (decide (j < i))) gtW := r2_iop0 fun _ _ _ _ => .bl _
theorem r_ge : R2W K (rI0 fun i j => .bl (decide (j ≤ i))) geW := r2_iop0 fun _ _ _ _ => .bl _
theorem r_pow : R2W K (rI CPow fun i j => .int (i ^ j.toNat)) powW := r2_iop (fun _ _ _ _ _ => .int _) fun _ _ h => h
theorem r_mod : R2W K (rI (fun _ j => j ≠ 0) fun i j => .int (i.fmod j)) modW := r2_iop (fun _ _ _ _ _ => .int _) fun _ _ h => h
theorem log2_lt {n k : Nat} (h : n < 2 ^ k) (hk : 0 < k) : n.log2 < k := PySem.Flt.log2_lt_of hk h
theorem r_fdiv : R2W K (rI CDivX fun i j => .int (i.fdiv j)) fdivW := r2_iop (fun _ _ _ _ _ => .int _) fun _ j h => ⟨h.1, Nat.lt_trans (log2_lt h.2 (by decide)) (by decide)⟩
/-- a list or a tuple at hand -/
theorem Rep.tupI {r : List Addr} {H : Hp} {xs : List W} {v : V} (h : Rep K r H (.tup xs) v) : ∃ a ys, v = .ref a ∧ SqT K H a ys ∧ Reps K r H xs ys := by
  cases h with
  | tup a b => exact ⟨_, _, rfl, SqT.of a, b⟩
theorem Rep.tupH {r : List Addr} {H : Hp} {xs : List W} {v : V} (h : Rep K r H (.tup xs) v) : ∃ a ys, v = .ref a ∧ H a = some (.tup ys) ∧ Reps K r H xs ys := by
  cases h with
  | tup a b => exact ⟨_, _, rfl, a, b⟩
theorem Rep.lstI {r : List Addr} {H : Hp} {S : Sto} {n : Nat} {xs : List W} {v : V} (s : Sim K r S H) (h : Rep K r H (.ref n) v) (e : S[n]? = some (.lst xs)) : ∃ a ys, v = .ref a ∧ r[n]? = some a ∧ H a = some (.lst ys) ∧ Reps K r H xs ys := by
  cases h with
  | ref a =>
    obtain ⟨ys, h1, h2⟩ := s.obj _ _ _ a e
    exact ⟨_, ys, rfl, a, h1, h2⟩
theorem Rep.fzI {r : List Addr} {H : Hp} {xs : List W} {v : V} (h : Rep K r H (.fz xs) v) : ∃ a ys, v = .ref a ∧ Fz K H a ys ∧ Reps K r H xs ys := by
  cases h with
  | fz a b => exact ⟨_, _, rfl, a, b⟩
/-! ### + -/
def addW : W → W → Sto → Option (W × Sto)
  | .int i, .int j, S => some (.int (i + j), S)
  | .str x, .str y, S => if x.length + y.length ≤ sizeLine then some (.str (x ++ y), S) else none
  | .tup xs, .tup ys, S => if xs ≠ [] ∧ xs.length + ys.length ≤ sizeLine then some (.tup (xs ++ ys), S) else none
  | .ref n, .ref m, S => match S[n]?, S[m]? with
    | some (.lst xs), some (.lst ys) => if xs.length + ys.length ≤ sizeLine then some (.ref S.length, S ++ [.lst (xs ++ ys)]) else none
    | _, _ => none
  | _, _, _ => none
abbrev rAddA (K : PySem.W.Frag) : R2 := fun x y H Q => (rI0 (fun i j => .int (i + j)) x y H Q) ∨ (∃ i j, x = .str i ∧ y = .str j ∧ i.length + j.length ≤ sizeLine ∧ Q (.str (i ++ j)) H) ∨ rCatT K x y H Q ∨ rCat x y H Q
theorem op_addA : OpR X (binaryOp .Add) (rAddA X.K) := op_add.or (op_add_str.or (op_catT.or op_cat))
theorem Reps.nil_iff {r : List Addr} {H : Hp} {xs : List W} {ys : List V} (h : Reps K r H xs ys) : ys = [] ↔ xs = [] := by
  have := h.length
  constructor
  · rintro rfl; simpa using this.symm
  · rintro rfl; simpa using this
theorem r_add : R2W K (rAddA K) addW := by
  intro r S H x y wx wy w S' Q s rx ry e k
  unfold addW at e
  split at e
  · cases e
    cases rx; cases ry
    exact .inl ⟨_, _, rfl, rfl, KR.now k s (.int _)⟩
  · split at e
    · rename_i hl
      cases e
      cases rx; cases ry
      exact .inr (.inl ⟨_, _, rfl, rfl, hl, KR.now k s (.str _)⟩)
    · cases e
  · split at e
    · rename_i hl
      cases e
      obtain ⟨a, xs, rfl, h1, h2⟩ := rx.tupI
      obtain ⟨b, ys, rfl, h3, h4⟩ := ry.tupI
      refine .inr (.inr (.inl ⟨a, b, xs, ys, rfl, rfl, h1, h3, fun z => hl.1 (h2.nil_iff.mp z), by rw [h2.length, h4.length]; exact hl.2, fun z => ?_, fun _ => KR.tup k s (h2.append h4)⟩))
      have z' := h4.nil_iff.mp z
      subst z'
      rw [List.append_nil] at k
      exact KR.now k s rx
    · cases e
  · split at e
    · rename_i e1 e2
      split at e
      · rename_i hl
        cases e
        obtain ⟨a, xs, rfl, _, h1, h2⟩ := rx.lstI s e1
        obtain ⟨b, ys, rfl, _, h3, h4⟩ := ry.lstI s e2
        exact .inr (.inr (.inr ⟨a, b, xs, ys, rfl, rfl, h1, h3, by rw [h2.length, h4.length]; exact hl, KR.lst k s (h2.append h4)⟩))
      · cases e
    · cases e
  · cases e
/-! ### * -/
def mulW : W → W → Sto → Option (W × Sto)
  | .int i, .int j, S => if okMul i j then some (.int (i * j), S) else none
  | .ref n, .int k, S => match S[n]? with
    | some (.lst xs) => if -(2 ^ 63) ≤ k ∧ k < 2 ^ 63 ∧ xs.length * k.toNat ≤ sizeLine then some (.ref S.length, S ++ [.lst (List.replicate k.toNat xs).flatten]) else none
    | _ => none
  | _, _, _ => none
theorem Reps.flat {r : List Addr} {H : Hp} {xs : List W} {ys : List V} (h : Reps K r H xs ys) : ∀ n : Nat, Reps K r H (List.replicate n xs).flatten (List.replicate n ys).flatten
  | 0 => .nil
  | n + 1 => by rw [List.replicate_succ, List.replicate_succ, List.flatten_cons, List.flatten_cons]; exact h.append (Reps.flat h n)
abbrev rMulA : R2 := fun x y H Q => (rI CMulX (fun i j => .int (i * j)) x y H Q) ∨ rRep x y H Q
theorem op_mulA : OpR X (binaryOp .Mult) rMulA := op_mulX.or op_rep
theorem okMul.x {i j : Int} (h : okMul i j) : CMulX i j := by
  rcases h with h | h | h
  · exact .inl (.inl ⟨by omega, by omega⟩)
  · exact .inl (.inr ⟨by omega, by omega⟩)
  · refine .inr ?_
    have h1 := log2_lt h.1 (by decide)
    have h2 := log2_lt h.2 (by decide)
    unfold CMulW
    omega
theorem r_mul : R2W K rMulA mulW := by
  intro r S H x y wx wy w S' Q s rx ry e k
  unfold mulW at e
  split at e
  · split at e
    · rename_i hc
      cases e
      cases rx; cases ry
      exact .inl ⟨_, _, rfl, rfl, hc.x, KR.now k s (.int _)⟩
    · cases e
  · split at e
    · rename_i e1
      split at e
      · rename_i hl
        cases e
        obtain ⟨a, xs, rfl, _, h1, h2⟩ := rx.lstI s e1
        cases ry
        exact .inr ⟨a, _, xs, rfl, rfl, h1, hl.1, hl.2.1, by rw [h2.length]; exact hl.2.2, KR.lst k s (h2.flat _)⟩
      · cases e
    · cases e
  · cases e
/-! ### - of one -/
def negW : W → Sto → Option (W × Sto)
  | .int i, S => some (.int (-i), S)
  | _, _ => none
theorem r_neg : R1W K (rU fun i => .int (-i)) negW := by
  intro r S H x wx w S' Q s rx e k
  unfold negW at e
  split at e
  · cases e
    cases rx
    exact ⟨_, rfl, KR.now k s (.int _)⟩
  · cases e
/-! ### == by data -/
def mapO {α β : Type} (f : α → Option β) : List α → Option (List β)
  | [] => some []
  | x :: xs => (f x).bind fun y => (mapO f xs).bind fun ys => some (y :: ys)
def toD (S : Sto) : Nat → W → Option PyData
  | 0, _ => none
  | _ + 1, .non => some .none
  | _ + 1, .bl b => some (.bool b)
  | _ + 1, .int i => some (.int i)
  | _ + 1, .str x => if PyData.strOk x then some (.str x) else none
  | n + 1, .tup xs => (mapO (toD S n) xs).bind fun ds => some (.tuple ds)
  | n + 1, .fz xs => (mapO (toD S n) xs).bind fun ds => some (.list ds)
  | n + 1, .ref m => match S[m]? with
    | some (.lst xs) => (mapO (toD S n) xs).bind fun ds => some (.list ds)
    | _ => none
  | _ + 1, .ty _ => none
def TD (K : PySem.W.Frag) (r : List Addr) (H : Hp) (n : Nat) (v : V) (d : PyData) : Prop := Dp K H v d ∧ d.canLay0 = true ∧ d.depth ≤ n
theorem mapO_dp {r : List Addr} {H : Hp} {n : Nat} {f : W → Option PyData} (hf : ∀ w v d, Rep K r H w v → f w = some d → TD K r H n v d) : ∀ {ws : List W} {vs : List V} {ds : List PyData}, Reps K r H ws vs → mapO f ws = some ds → DpAll K H vs ds ∧ PyData.canLayAll0 ds = true ∧ PyData.depthAll ds ≤ n
  | [], _, _, h, e => by
    cases h; cases e
    exact ⟨.nil, rfl, Nat.zero_le _⟩
  | w :: ws, _, _, h, e => by
    cases h with
    | cons a b =>
      obtain ⟨d, h1, e⟩ := bindS e
      obtain ⟨ds, h2, e⟩ := bindS e
      cases e
      obtain ⟨q1, q2, q3⟩ := hf _ _ _ a h1
      obtain ⟨p1, p2, p3⟩ := mapO_dp hf b h2
      exact ⟨.cons q1 p1, by rw [PyData.canLayAll0, q2, p2]; rfl, by rw [PyData.depthAll]; omega⟩
theorem toD_ok {r : List Addr} {S : Sto} {H : Hp} (s : Sim K r S H) : ∀ (n : Nat) (w : W) (v : V) (d : PyData), Rep K r H w v → toD S n w = some d → TD K r H n v d
  | 0, _, _, _, _, e => by simp [toD] at e
  | n + 1, .non, _, _, h, e => by cases h; simp [toD] at e; subst e; exact ⟨.non, rfl, by simp [PyData.depth]⟩
  | n + 1, .bl b, _, _, h, e => by cases h; simp [toD] at e; subst e; exact ⟨.bl b, rfl, by simp [PyData.depth]⟩
  | n + 1, .int b, _, _, h, e => by cases h; simp [toD] at e; subst e; exact ⟨.int b, rfl, by simp [PyData.depth]⟩
  | n + 1, .str b, _, _, h, e => by
    cases h
    simp only [toD] at e
    split at e
    · cases e; exact ⟨.str b, by rw [PyData.canLay0]; assumption, by simp [PyData.depth]⟩
    · cases e
  | n + 1, .tup xs, _, _, h, e => by
    obtain ⟨a, ys, rfl, h1, h2⟩ := h.tupI
    simp only [toD] at e
    obtain ⟨ds, e1, e⟩ := bindS e
    cases e
    obtain ⟨p1, p2, p3⟩ := mapO_dp (fun w v d q1 q2 => toD_ok s n w v d q1 q2) h2 e1
    exact ⟨.tup h1 p1, by rw [PyData.canLay0]; exact p2, by rw [PyData.depth]; omega⟩
  | n + 1, .fz xs, _, _, h, e => by
    obtain ⟨a, ys, rfl, h1, h2⟩ := h.fzI
    simp only [toD] at e
    obtain ⟨ds, e1, e⟩ := bindS e
    cases e
    obtain ⟨p1, p2, p3⟩ := mapO_dp (fun w v d q1 q2 => toD_ok s n w v d q1 q2) h2 e1
    exact ⟨.lst h1.sq p1, by rw [PyData.canLay0]; exact p2, by rw [PyData.depth]; omega⟩
  | n + 1, .ref m, _, _, h, e => by
    simp only [toD] at e
    split at e
    · rename_i xs hx
      obtain ⟨a, ys, rfl, _, h1, h2⟩ := h.lstI s hx
      obtain ⟨ds, e1, e⟩ := bindS e
      cases e
      obtain ⟨p1, p2, p3⟩ := mapO_dp (fun w v d q1 q2 => toD_ok s n w v d q1 q2) h2 e1
      exact ⟨.lst (SqL.of h1) p1, by rw [PyData.canLay0]; exact p2, by rw [PyData.depth]; omega⟩
    · cases e
  | n + 1, .ty _, _, _, h, e => by simp [toD] at e
def eqvW (S : Sto) (a b : W) : Option Bool := (toD S 8 a).bind fun d => (toD S 8 b).bind fun e => some (PyData.eqv d e)
def eqW (a b : W) (S : Sto) : Option (W × Sto) := (eqvW S a b).bind fun k => some (.bl k, S)
def neW (a b : W) (S : Sto) : Option (W × Sto) := (eqvW S a b).bind fun k => some (.bl (!k), S)
theorem r_eq : R2W K (rEqD K) eqW := by
  intro r S H x y wx wy w S' Q s rx ry e k
  obtain ⟨b, e1, e⟩ := bindS e
  obtain ⟨d, e2, e1⟩ := bindS e1
  obtain ⟨d', e3, e1⟩ := bindS e1
  cases e; cases e1
  obtain ⟨p1, p2, p3⟩ := toD_ok s 8 _ _ _ rx e2
  obtain ⟨q1, q2, q3⟩ := toD_ok s 8 _ _ _ ry e3
  refine ⟨d, d', p1, q1, ?_, ?_, KR.now k s (.bl _)⟩
  · unfold SeqAt.shaped; rw [p2, decide_eq_true (by omega)]; rfl
  · unfold SeqAt.shaped; rw [q2, decide_eq_true (by omega)]; rfl
theorem r_ne : R2W K (rNeD K) neW := by
  intro r S H x y wx wy w S' Q s rx ry e k
  obtain ⟨b, e1, e⟩ := bindS e
  obtain ⟨d, e2, e1⟩ := bindS e1
  obtain ⟨d', e3, e1⟩ := bindS e1
  cases e; cases e1
  obtain ⟨p1, p2, p3⟩ := toD_ok s 8 _ _ _ rx e2
  obtain ⟨q1, q2, q3⟩ := toD_ok s 8 _ _ _ ry e3
  refine ⟨d, d', p1, q1, ?_, ?_, KR.now k s (.bl _)⟩
  · unfold SeqAt.shaped; rw [p2, decide_eq_true (by omega)]; rfl
  · unfold SeqAt.shaped; rw [q2, decide_eq_true (by omega)]; rfl
/-! ### is None, is True -/
def W.isNon : W → Bool
  | .non => true
  | _ => false
def isNW (a b : W) (S : Sto) : Option (W × Sto) := match b with | .non => some (.bl a.isNon, S) | _ => none
def notNW (a b : W) (S : Sto) : Option (W × Sto) := match b with | .non => some (.bl (!a.isNon), S) | _ => none
theorem Rep.isNon {r : List Addr} {H : Hp} {w : W} {v : V} (h : Rep K r H w v) : decide (v = .non) = w.isNon := by
  cases h <;> simp [W.isNon]
theorem r_isN : R2W K (fun x y H Q => y = .non ∧ Q (.bl (decide (x = .non))) H) isNW := by
  intro r S H x y wx wy w S' Q s rx ry e k
  unfold isNW at e
  split at e
  · cases e
    cases ry
    exact ⟨rfl, by rw [rx.isNon]; exact KR.now k s (.bl _)⟩
  · cases e
theorem r_notN : R2W K (fun x y H Q => y = .non ∧ Q (.bl (!decide (x = .non))) H) notNW := by
  intro r S H x y wx wy w S' Q s rx ry e k
  unfold notNW at e
  split at e
  · cases e
    cases ry
    exact ⟨rfl, by rw [rx.isNon]; exact KR.now k s (.bl _)⟩
  · cases e
def isBW (a b : W) (S : Sto) : Option (W × Sto) := match a, b with | .bl x, .bl y => some (.bl (decide (x = y)), S) | _, _ => none
def notBW (a b : W) (S : Sto) : Option (W × Sto) := match a, b with | .bl x, .bl y => some (.bl (!decide (x = y)), S) | _, _ => none
theorem r_isB : R2W K rIsB isBW := by
  intro r S H x y wx wy w S' Q s rx ry e k
  unfold isBW at e
  split at e
  · cases e
    cases rx; cases ry
    exact ⟨_, _, rfl, rfl, KR.now k s (.bl _)⟩
  · cases e
theorem r_notB : R2W K rNotB notBW := by
  intro r S H x y wx wy w S' Q s rx ry e k
  unfold notBW at e
  split at e
  · cases e
    cases rx; cases ry
    exact ⟨_, _, rfl, rfl, KR.now k s (.bl _)⟩
  · cases e
/-! ### x[i] -/
def seqOf (S : Sto) : W → Option (List W)
  | .tup xs => some xs
  | .fz xs => some xs
  | .ref n => match S[n]? with | some (.lst xs) => some xs | _ => none
  | _ => none
theorem seqOf_ok {r : List Addr} {S : Sto} {H : Hp} {w : W} {v : V} {xs : List W} (s : Sim K r S H) (h : Rep K r H w v) (e : seqOf S w = some xs) : ∃ a ys, v = .ref a ∧ (SqL K H a ys ∨ SqT K H a ys) ∧ Reps K r H xs ys := by
  cases w with
  | tup zs => cases e; obtain ⟨a, ys, rfl, h1, h2⟩ := h.tupI; exact ⟨a, ys, rfl, .inr h1, h2⟩
  | fz zs => cases e; obtain ⟨a, ys, rfl, h1, h2⟩ := h.fzI; exact ⟨a, ys, rfl, .inl h1.sq, h2⟩
  | ref n =>
    simp only [seqOf] at e
    split at e
    · rename_i hx
      cases e
      obtain ⟨a, ys, rfl, _, h1, h2⟩ := h.lstI s hx
      exact ⟨a, ys, rfl, .inl (SqL.of h1), h2⟩
    · cases e
  | _ => cases e
theorem atI_rep {r : List Addr} {H : Hp} {xs : List W} {ys : List V} {i : Int} {w : W} (h : Reps K r H xs ys) (e : atI xs i = some w) : ∃ v, atI ys i = some v ∧ Rep K r H w v := by
  unfold atI at e ⊢
  rw [h.length]
  obtain ⟨j, e1, e2⟩ := bindS e
  obtain ⟨v, h1, h2⟩ := h.get e2
  exact ⟨v, by rw [e1]; exact h1, h2⟩
def ixW (a b : W) (S : Sto) : Option (W × Sto) := match a, b with
  | .str z, .int i => if z.length ≤ sizeLine then (atI z.cps.toList i).bind fun c => some (.str ⟨#[c]⟩, S) else none
  | a, .int i => (seqOf S a).bind fun xs => (atI xs i).bind fun w => some (w, S)
  | _, _ => none
theorem r_ix : R2W K (rIx K) ixW := by
  intro r S H x y wx wy w S' Q s rx ry e k
  unfold ixW at e
  split at e
  · split at e
    · rename_i hl
      obtain ⟨c, e1, e⟩ := bindS e
      cases e
      cases rx; cases ry
      exact .inr (.inr ⟨_, _, c, rfl, rfl, hl, e1, KR.now k s (.str _)⟩)
    · cases e
  · obtain ⟨xs, e1, e⟩ := bindS e
    obtain ⟨u, e2, e⟩ := bindS e
    cases e
    cases ry
    obtain ⟨a, ys, rfl, h1, h2⟩ := seqOf_ok s rx e1
    obtain ⟨v, h3, h4⟩ := atI_rep h2 e2
    rcases h1 with h1 | h1
    · exact .inl ⟨a, ys, _, v, rfl, rfl, h1, h3, KR.now k s h4⟩
    · exact .inr (.inl ⟨a, ys, _, v, rfl, rfl, h1, h3, KR.now k s h4⟩)
  · cases e
end
end Bp

/-! Ev5: statements, targets, loops, a def's body. -/
namespace Bp
open PySem L2
abbrev Ftg := W → En → Sto → Option (En × Sto)
abbrev Ftgs := List W → En → Sto → Option (En × Sto)
structure Items where
  xs : List W
  chk : Sto → Prop
abbrev Fi := En → Sto → Option (Items × Sto)
def tG (K : PySem.W.Frag) (g : Ftg) : TG := fun v σ H Q => ∃ r e S w e' S', At K r e S σ H ∧ Rep K r H w v ∧ g w e S = some (e', S') ∧ ∀ r' σ' H', Pre r r' → Sim K r' S' H' → Kp K H H' → ERep K r' H' e' σ' → Q σ' H'
def tGs (K : PySem.W.Frag) (g : Ftgs) : TGs := fun vs σ H Q => ∃ r e S ws e' S', At K r e S σ H ∧ Reps K r H ws vs ∧ g ws e S = some (e', S') ∧ ∀ r' σ' H', Pre r r' → Sim K r' S' H' → Kp K H H' → ERep K r' H' e' σ' → Q σ' H'
structure ItOk (K : PySem.W.Frag) (r0 : List Addr) (H0 : Hp) (J : It) (I : Items) : Prop where
  stop : ∀ i r S H, Pre r0 r → Kp K H0 H → Sim K r S H → I.chk S → I.xs.length ≤ i → J.stop i H
  go : ∀ i r S H w, Pre r0 r → Kp K H0 H → Sim K r S H → I.chk S → I.xs[i]? = some w → J.go i H
  yld : ∀ i r S H w x H', Pre r0 r → Kp K H0 H → Sim K r S H → I.chk S → I.xs[i]? = some w → J.yld i H x H' → Sim K r S H' ∧ Kp K H H' ∧ Rep K r H' w x
def tI (K : PySem.W.Frag) (f : Fi) : TI := fun σ H R => ∃ r e S I S', At K r e S σ H ∧ f e S = some (I, S') ∧ ∀ r' J H', Pre r r' → Sim K r' S' H' → Kp K H H' → ItOk K r' H' J I → R J H'
def KS (K : PySem.W.Frag) (r : List Addr) (H : Hp) (S' : Sto) (o : Out) (D : Ends) : Prop := ∀ r' H', Pre r r' → Sim K r' S' H' → Kp K H H' → match o with
  | .next e' => ∀ σ', ERep K r' H' e' σ' → D.nx σ' H'
  | .brk e' => ∀ σ', ERep K r' H' e' σ' → D.bk σ' H'
  | .cont e' => ∀ σ', ERep K r' H' e' σ' → D.ct σ' H'
  | .ret w => ∀ v, Rep K r' H' w v → D.rt v H'
theorem KS.pre {K : PySem.W.Frag} {r r1 : List Addr} {H H1 : Hp} {S' : Sto} {o : Out} {D : Ends} (k : KS K r H S' o D) (p : Pre r r1) (h : Kp K H H1) : KS K r1 H1 S' o D := fun r' H' p' s' k' => k r' H' (p.trans p') s' (h.trans k')

/-! ### combinators -/
def sNext : Fs := fun e S => some (.next e, S)
def sBrk : Fs := fun e S => some (.brk e, S)
def sCnt : Fs := fun e S => some (.cont e, S)
def sNever : Fs := fun _ _ => none
def sSeq (f g : Fs) : Fs := fun e S => (f e S).bind fun p => match p.1 with
  | .next e' => g e' p.2
  | o => some (o, p.2)
def sRet (f : Fe) : Fs := fun e S => (f e S).bind fun p => some (.ret p.1, p.2)
def sRetN : Fs := fun _ S => some (.ret .non, S)
def sDrop (f : Fe) : Fs := fun e S => (f e S).bind fun p => some (.next e, p.2)
def sIf (t : Ft) (f g : Fs) : Fs := fun e S => (t e S).bind fun p => if p.1 = true then f e p.2 else g e p.2
def sAsg (f : Fe) (g : Ftg) : Fs := fun e S => (f e S).bind fun p => (g p.1 e p.2).bind fun q => some (.next q.1, q.2)
def sPar (i j : Nat) (f : Fa) : Fs := fun e S => (f e S).bind fun p => match p.1 with
  | [v, w] => some (.next ((e.set i (some v)).set j (some w)), p.2)
  | _ => none
def sPar3 (i j l : Nat) (f : Fa) : Fs := fun e S => (f e S).bind fun p => match p.1 with
  | [u, v, w] => some (.next (((e.set i (some u)).set j (some v)).set l (some w)), p.2)
  | _ => none
def sAug (i : Nat) (f : Fe) (o : W → W → Sto → Option (W × Sto)) : Fs := fun e S => match e[i]? with
  | some (some x) => (f e S).bind fun p => (o x p.1 p.2).bind fun q => some (.next (e.set i (some q.1)), q.2)
  | _ => none
def gN (i : Nat) : Ftg := fun w e S => some (e.set i (some w), S)
def gsNil : Ftgs := fun ws e S => match ws with | [] => some (e, S) | _ => none
def gsCons (g : Ftg) (gs : Ftgs) : Ftgs := fun ws e S => match ws with | w :: ws => (g w e S).bind fun p => gs ws p.1 p.2 | [] => none
def gTupW (n : Nat) (gs : Ftgs) : Ftg := fun w e S => match w with | .tup ws => if ws.length = n then gs ws e S else none | _ => none
def setW (o i v : W) (S : Sto) : Option Sto := match o, i with
  | .ref n, .int k => match S[n]? with
    | some (.lst xs) => (ixN xs.length k).bind fun j => some (S.set n (.lst (xs.set j v)))
    | _ => none
  | _, _ => none
def gSubW (fo fi : Fe) (st : W → W → W → Sto → Option Sto) : Ftg := fun v e S => (fo e S).bind fun p => (fi e p.2).bind fun q => (st p.1 q.1 v q.2).bind fun S' => some (e, S')
def sAugS (fo fi : Fe) (ge : W → W → Sto → Option (W × Sto)) (fe : Fe) (op : W → W → Sto → Option (W × Sto)) (st : W → W → W → Sto → Option Sto) : Fs := fun e S =>
  (fo e S).bind fun p => (fi e p.2).bind fun q => (ge p.1 q.1 q.2).bind fun x => (fe e x.2).bind fun y => (op x.1 y.1 y.2).bind fun z => (st p.1 q.1 z.1 z.2).bind fun S' => some (.next e, S')
def whileF (c : Ft) (b : Fs) : Nat → Fs
  | 0 => fun _ _ => none
  | n + 1 => fun e S => (c e S).bind fun p => if p.1 = true then (b e p.2).bind fun q => match q.1 with
      | .next e' => whileF c b n e' q.2
      | .cont e' => whileF c b n e' q.2
      | .brk e' => some (.next e', q.2)
      | .ret w => some (.ret w, q.2)
    else some (.next e, p.2)
def FU : Nat := 2 ^ 4000
def sWhile (c : Ft) (b : Fs) : Fs := whileF c b FU
open Classical in
noncomputable def forF (g : Ftg) (b : Fs) (chk : Sto → Prop) : List W → Fs
  | [] => fun e S => if chk S then some (.next e, S) else none
  | x :: xs => fun e S => if chk S then (g x e S).bind fun p => (b p.1 p.2).bind fun q => match q.1 with
      | .next e' => forF g b chk xs e' q.2
      | .cont e' => forF g b chk xs e' q.2
      | .brk e' => some (.next e', q.2)
      | .ret w => some (.ret w, q.2)
    else none
noncomputable def sFor (it : Fi) (g : Ftg) (b : Fs) : Fs := fun e S => (it e S).bind fun p => forF g b p.1.chk p.1.xs e p.2

theorem whileF_succ (c : Ft) (b : Fs) (n : Nat) (e : En) (S : Sto) : whileF c b (n + 1) e S = (c e S).bind fun p => if p.1 = true then (b e p.2).bind fun q => match q.1 with
      | .next e' => whileF c b n e' q.2
      | .cont e' => whileF c b n e' q.2
      | .brk e' => some (.next e', q.2)
      | .ret w => some (.ret w, q.2)
    else some (.next e, p.2) := rfl
theorem whileF_mono {c : Ft} {b : Fs} : ∀ (n : Nat) {m : Nat} {e : En} {S : Sto} {r : Out × Sto}, n ≤ m → whileF c b n e S = some r → whileF c b m e S = some r
  | 0, _, _, _, _, _, h => by simp [whileF] at h
  | n + 1, 0, _, _, _, hm, _ => absurd hm (by omega)
  | n + 1, m + 1, e, S, r, hm, h => by
    rw [whileF_succ] at h ⊢
    obtain ⟨p, h1, h⟩ := bindS h
    rw [h1]
    show (if p.1 = true then _ else _) = _
    split at h
    · rename_i hp
      rw [if_pos hp]
      obtain ⟨q, h2, h⟩ := bindS h
      rw [h2]
      obtain ⟨o, S2⟩ := q
      cases o with
      | next e' => exact whileF_mono n (by omega) h
      | cont e' => exact whileF_mono n (by omega) h
      | brk e' => exact h
      | ret w => exact h
    · rename_i hp
      rw [if_neg hp]
      exact h
/-- a while by so many turns -/
theorem sWhile_of {c : Ft} {b : Fs} {n : Nat} {e : En} {S : Sto} {r : Out × Sto} (h : whileF c b n e S = some r) (hn : n ≤ FU) : sWhile c b e S = some r := whileF_mono n hn h

section
variable {X : Cx} {a b c : Expr} {f g h : Fe} {t u : Ft} {s s2 : Fs} {pos : Pos} {es : List Expr} {fa : Fa} {st : Stmt} {rest body : List Stmt} {gt : Ftg} {gts : Ftgs}
theorem ws_nil : PSs X [] (tS X.K sNext) := by
  refine pss_w pss_nil fun D σ H q => ?_
  obtain ⟨r, e, S, w, S', at_, hf, k⟩ := q
  cases hf
  exact k r H Pre.refl at_.sim Kp.refl σ at_.env
theorem ws_cons (h1 : PS X st (tS X.K s)) (h2 : PSs X rest (tS X.K s2)) : PSs X (st :: rest) (tS X.K (sSeq s s2)) := by
  refine pss_w (pss_cons h1 h2) fun D σ H q => ?_
  obtain ⟨r, e, S, w, S', at_, hf, k⟩ := q
  obtain ⟨⟨o, S1⟩, e1, hf⟩ := bindS hf
  refine ⟨r, e, S, o, S1, at_, e1, fun r1 H1 p1 s1 k1 => ?_⟩
  cases o with
  | next e' => exact fun σ' er => ⟨r1, e', S1, w, S', ⟨s1, er⟩, hf, KS.pre k p1 k1⟩
  | brk e' => cases hf; exact k r1 H1 p1 s1 k1
  | cont e' => cases hf; exact k r1 H1 p1 s1 k1
  | ret e' => cases hf; exact k r1 H1 p1 s1 k1
theorem ws_one (h1 : PS X st (tS X.K s)) : PSs X [st] (tS X.K s) := pss_one h1
theorem ws_pass : PS X (.Pass pos) (tS X.K sNext) := by
  refine ps_w ps_pass fun D σ H q => ?_
  obtain ⟨r, e, S, w, S', at_, hf, k⟩ := q
  cases hf
  exact k r H Pre.refl at_.sim Kp.refl σ at_.env
theorem ws_break : PS X (.Break pos) (tS X.K sBrk) := by
  refine ps_w ps_break fun D σ H q => ?_
  obtain ⟨r, e, S, w, S', at_, hf, k⟩ := q
  cases hf
  exact k r H Pre.refl at_.sim Kp.refl σ at_.env
theorem ws_continue : PS X (.Continue pos) (tS X.K sCnt) := by
  refine ps_w ps_continue fun D σ H q => ?_
  obtain ⟨r, e, S, w, S', at_, hf, k⟩ := q
  cases hf
  exact k r H Pre.refl at_.sim Kp.refl σ at_.env
theorem ws_never : PS X st (tS X.K sNever) := ps_w ps_never fun D σ H q => by
  obtain ⟨r, e, S, w, S', at_, hf, k⟩ := q
  cases hf
theorem ws_ret (he : PE X a (tE X.K f)) : PS X (.Return (some a) pos) (tS X.K (sRet f)) := by
  refine ps_w (ps_ret he) fun D σ H q => ?_
  obtain ⟨r, e, S, w, S', at_, hf, k⟩ := q
  obtain ⟨p, h1, hf⟩ := bindS hf
  cases hf
  exact ⟨r, e, S, p.1, p.2, at_, h1, fun r1 v H1 p1 s1 k1 rep => k r1 H1 p1 s1 k1 v rep⟩
theorem ws_retN : PS X (.Return none pos) (tS X.K sRetN) := by
  refine ps_w ps_retN fun D σ H q => ?_
  obtain ⟨r, e, S, w, S', at_, hf, k⟩ := q
  cases hf
  exact k r H Pre.refl at_.sim Kp.refl _ .non
theorem ws_expr (he : PE X a (tE X.K f)) (hs : swapsWith a none pos.line X.env = pure false := by rfl) : PS X (.Expr a pos) (tS X.K (sDrop f)) := by
  refine ps_w (ps_expr he hs) fun D σ H q => ?_
  obtain ⟨r, e, S, w, S', at_, hf, k⟩ := q
  obtain ⟨p, h1, hf⟩ := bindS hf
  cases hf
  exact ⟨r, e, S, p.1, p.2, at_, h1, fun r1 v H1 p1 s1 k1 rep => k r1 H1 p1 s1 k1 σ (at_.env.up p1 k1)⟩
theorem ws_if {xs ys : List Stmt} (hc : PT X c (tT X.K t)) (h1 : PSs X xs (tS X.K s)) (h2 : PSs X ys (tS X.K s2)) : PS X (.If c xs ys pos) (tS X.K (sIf t s s2)) := by
  refine ps_w (ps_if hc h1 h2) fun D σ H q => ?_
  obtain ⟨r, e, S, w, S', at_, hf, k⟩ := q
  obtain ⟨⟨b, S1⟩, e1, hf⟩ := bindS hf
  refine ⟨r, e, S, b, S1, at_, e1, fun r1 H1 p1 s1 k1 => ?_⟩
  cases b with
  | true => rw [if_pos rfl] at hf ⊢; exact ⟨r1, e, S1, w, S', at_.up p1 s1 k1, hf, KS.pre k p1 k1⟩
  | false => rw [if_neg Bool.false_ne_true] at hf ⊢; exact ⟨r1, e, S1, w, S', at_.up p1 s1 k1, hf, KS.pre k p1 k1⟩
/-! targets -/
theorem wg_name {i : Nat} {x : Str} (hN : X.N.Nodup) (hi : X.N[i]? = some x := by rfl) (hx : Loc X.env.scope x := by first | exact .inl rfl | exact .inr rfl) (hf : X.fn x = true ∨ X.env.scope.names.lookup x = some .local := by first | exact .inl rfl | exact .inr rfl | assumption) : PG X (.Name x pos) (tG X.K (gN i)) := by
  have h := pg_name (pos := pos) hN hi hx hf
  refine ⟨fun pins s σ H v u Q I rv q => h.run pins s σ H v u Q I rv ?_⟩
  obtain ⟨r, e, S, w, e', S', at_, rep, hf, k⟩ := q
  cases hf
  exact k r _ H Pre.refl at_.sim Kp.refl (at_.env.set rep i)
theorem wgs_nil : PGs X [] (tGs X.K gsNil) := by
  have h := pgs_nil (X := X)
  refine ⟨fun pins s σ H v u Q I rv q => h.run pins s σ H v u Q I rv ?_⟩
  obtain ⟨r, e, S, w, e', S', at_, rep, hf, k⟩ := q
  unfold gsNil at hf
  split at hf
  · cases hf
    cases rep
    exact ⟨rfl, k r σ H Pre.refl at_.sim Kp.refl at_.env⟩
  · cases hf
theorem wgs_cons (h1 : PG X a (tG X.K gt)) (h2 : PGs X es (tGs X.K gts)) (hs : (assignEach (a :: es) X.env).map (·.2) = assign a X.env :: (assignEach es X.env).map (·.2) := by rfl) : PGs X (a :: es) (tGs X.K (gsCons gt gts)) := by
  have h := pgs_cons h1 h2 hs
  refine ⟨fun pins s σ H v u Q I rv q => h.run pins s σ H v u Q I rv ?_⟩
  obtain ⟨r, e, S, w, e', S', at_, rep, hf, k⟩ := q
  unfold gsCons at hf
  split at hf
  · obtain ⟨p, h1, hf⟩ := bindS hf
    cases rep with
    | cons ra rb =>
      refine ⟨_, _, rfl, r, e, S, _, p.1, p.2, at_, ra, h1, fun r1 σ1 H1 p1 s1 k1 er => ⟨r1, p.1, p.2, _, e', S', ⟨s1, er⟩, rb.up p1 k1, hf, fun r2 σ2 H2 p2 s2 k2 er2 => k r2 σ2 H2 (p1.trans p2) s2 (k1.trans k2) er2⟩⟩
  · cases hf
theorem wg_tup {k n : Nat} (hc : X.calm = true) (h : PGs X es (tGs X.K gts)) (hn : (assignEach es X.env).length = n := by rfl) (hst : (assignEach es X.env).findIdx? (·.1) = none := by rfl) : PG X (.Tuple es k pos) (tG X.K (gTupW n gts)) := by
  have h := pg_tup (k := k) (pos := pos) hc h hn hst
  refine ⟨fun pins s σ H v u Q I rv q => h.run pins s σ H v u Q I rv ?_⟩
  obtain ⟨r, e, S, w, e', S', at_, rep, hf, k⟩ := q
  unfold gTupW at hf
  split at hf
  · split at hf
    · rename_i hl
      obtain ⟨a, ys, rfl, h1, h2⟩ := rep.tupI
      exact ⟨a, ys, rfl, h1, by rw [h2.length]; exact hl, r, e, S, _, e', S', at_, h2, hf, k⟩
    · cases hf
  · cases hf
/-- o[i] = v by values -/
def RsW (K : PySem.W.Frag) (R : TSet) (o : W → W → W → Sto → Option Sto) : Prop := ∀ r S H x y z wx wy wz S' (Q : Hp → Prop), Sim K r S H → Rep K r H wx x → Rep K r H wy y → Rep K r H wz z → o wx wy wz S = some S' → (∀ r' H', Pre r r' → Sim K r' S' H' → Kp K H H' → Q H') → R x y z H Q
theorem r_setL {K : PySem.W.Frag} : RsW K rSetL setW := by
  intro r S H x y z wx wy wz S' Q s rx ry rz e k
  unfold setW at e
  split at e
  · split at e
    · rename_i e1
      obtain ⟨j, e2, e⟩ := bindS e
      cases e
      obtain ⟨a, ys, rfl, hr, h1, h2⟩ := rx.lstI s e1
      cases ry
      have m := Kp.mut (K := K) (o := .lst (ys.set j z)) (s.mut hr)
      exact ⟨a, ys, _, j, rfl, rfl, h1, by rw [h2.length]; exact e2, k r _ Pre.refl (s.set hr ⟨_, upd_same, (h2.set rz j).up Pre.refl m⟩) m⟩
    · cases e
  · cases e
theorem wg_sub {Rs : TSet} {os : W → W → W → Sto → Option Sto} (ho : PE X a (tE X.K f)) (hi : PE X b (tE X.K g)) (hs : PSet X Rs) (hr : RsW X.K Rs os)
    (ha : ∀ v, assign (.Subscript a b pos) X.env v = (do
      let ov ← holding [v] (eval a X.env)
      let iv ← holding [v, ov] (eval b X.env)
      standAt pos
      holding [v, ov, iv] (setItem ov iv v)
      release [v, ov, iv] []) := by intro _; rfl) : PG X (.Subscript a b pos) (tG X.K (gSubW f g os)) := by
  have h := pg_sub ho hi hs ha
  refine ⟨fun pins s σ H v u Q I rv q => h.run pins s σ H v u Q I rv ?_⟩
  obtain ⟨r, e, S, w, e', S', at_, rep, hf, k⟩ := q
  obtain ⟨p, h1, hf⟩ := bindS hf
  obtain ⟨p2, h2, hf⟩ := bindS hf
  obtain ⟨S2, h3, hf⟩ := bindS hf
  cases hf
  refine ⟨r, e, S, p.1, p.2, at_, h1, fun r1 v1 H1 pr1 s1 k1 rep1 => ⟨r1, e, p.2, p2.1, p2.2, at_.up pr1 s1 k1, h2, fun r2 v2 H2 pr2 s2 k2 rep2 => ?_⟩⟩
  exact hr r2 p2.2 H2 v1 v2 v p.1 p2.1 w S' _ s2 (rep1.up pr2 k2) rep2 (rep.up (pr1.trans pr2) (k1.trans k2)) h3 fun r3 H3 p3 s3 k3 => k r3 σ H3 ((pr1.trans pr2).trans p3) s3 ((k1.trans k2).trans k3) (at_.env.up ((pr1.trans pr2).trans p3) ((k1.trans k2).trans k3))
theorem ws_asg (he : PE X a (tE X.K f)) (hg : PG X b (tG X.K gt)) (hs : swapsWithSole [b] a pos.line X.env = pure false := by rfl) (hw : swappedStores [b] a X.env = pure none := by rfl)
    (h1 : (assignEach [b] X.env).map (·.2) = [assign b X.env] := by rfl) : PS X (.Assign [b] a pos) (tS X.K (sAsg f gt)) := by
  refine ps_w (ps_asg he hg hs hw h1) fun D σ H q => ?_
  obtain ⟨r, e, S, w, S', at_, hf, k⟩ := q
  obtain ⟨p, h1, hf⟩ := bindS hf
  obtain ⟨p2, h2, hf⟩ := bindS hf
  cases hf
  exact ⟨r, e, S, p.1, p.2, at_, h1, fun r1 v1 H1 pr1 s1 k1 rep1 => ⟨r1, e, p.2, p.1, p2.1, p2.2, at_.up pr1 s1 k1, rep1, h2, fun r2 σ2 H2 p2 s2 k2 er => k r2 H2 (pr1.trans p2) s2 (k1.trans k2) σ2 er⟩⟩
theorem ws_set {i : Nat} {x : Str} {pos' : Pos} (hN : X.N.Nodup) (he : PE X a (tE X.K f)) (hi : X.N[i]? = some x := by rfl) (hx : Loc X.env.scope x := by first | exact .inl rfl | exact .inr rfl) (hs : swapsWith a (some (.Name x pos')) pos.line X.env = pure false := by rfl)
    (hf : X.fn x = true ∨ X.env.scope.names.lookup x = some .local := by first | exact .inl rfl | exact .inr rfl | assumption) : PS X (.Assign [.Name x pos'] a pos) (tS X.K (sAsg f (gN i))) := by
  refine ps_w (ps_set hN hi hx he hs hf) fun D σ H q => ?_
  obtain ⟨r, e, S, w, S', at_, hf, k⟩ := q
  obtain ⟨p, h1, hf⟩ := bindS hf
  cases hf
  exact ⟨r, e, S, p.1, p.2, at_, h1, fun r1 v1 H1 pr1 s1 k1 rep1 => k r1 H1 pr1 s1 k1 _ ((at_.env.up pr1 k1).set rep1 i)⟩
theorem ws_par {i j : Nat} {x y : Str} {px py pt : Pos} {kt k2 pt2} (hc : X.calm = true) (hN : X.N.Nodup) (ha : PA X [a, b] (tA X.K fa)) (hi : X.N[i]? = some x := by rfl) (hj : X.N[j]? = some y := by rfl) (hij : i ≠ j := by decide)
    (hx : X.env.scope.names.lookup x = some .local := by rfl) (hy : X.env.scope.names.lookup y = some .local := by rfl)
    (hw : swappedStores [.Tuple [.Name x px, .Name y py] kt pt] (.Tuple [a, b] k2 pt2) X.env = pure (some [x, y]) := by rfl)
    (hs : swapsWithSole [.Tuple [.Name x px, .Name y py] kt pt] (.Tuple [a, b] k2 pt2) pos.line X.env = pure false := by rfl) :
    PS X (.Assign [.Tuple [.Name x px, .Name y py] kt pt] (.Tuple [a, b] k2 pt2) pos) (tS X.K (sPar i j fa)) := by
  refine ps_w (ps_par hc hN hi hj hij hx hy ha hw hs) fun D σ H q => ?_
  obtain ⟨r, e, S, w, S', at_, hf, k⟩ := q
  obtain ⟨p, h1, hf⟩ := bindS hf
  split at hf
  · rename_i v w' e1
    cases hf
    refine ⟨r, e, S, p.1, p.2, at_, h1, fun r1 vs H1 pr1 s1 k1 rep1 => ?_⟩
    rw [e1] at rep1
    cases rep1 with
    | cons ra rb =>
      cases rb with
      | cons rb rc =>
        cases rc
        exact ⟨_, _, rfl, k r1 H1 pr1 s1 k1 _ (((at_.env.up pr1 k1).set ra i).set rb j)⟩
  · cases hf
theorem ws_par3 {i j l : Nat} {x y z : Str} {px py pz pt : Pos} {kt k2 pt2} (hc : X.calm = true) (hN : X.N.Nodup) (ha : PA X [a, b, c] (tA X.K fa)) (hi : X.N[i]? = some x := by rfl) (hj : X.N[j]? = some y := by rfl) (hl : X.N[l]? = some z := by rfl) (hij : i ≠ j := by decide) (hil : i ≠ l := by decide) (hjl : j ≠ l := by decide)
    (hx : X.env.scope.names.lookup x = some .local := by rfl) (hy : X.env.scope.names.lookup y = some .local := by rfl) (hz : X.env.scope.names.lookup z = some .local := by rfl)
    (hw : swappedStores [.Tuple [.Name x px, .Name y py, .Name z pz] kt pt] (.Tuple [a, b, c] k2 pt2) X.env = pure (some [x, y, z]) := by rfl)
    (hs : swapsWithSole [.Tuple [.Name x px, .Name y py, .Name z pz] kt pt] (.Tuple [a, b, c] k2 pt2) pos.line X.env = pure false := by rfl) :
    PS X (.Assign [.Tuple [.Name x px, .Name y py, .Name z pz] kt pt] (.Tuple [a, b, c] k2 pt2) pos) (tS X.K (sPar3 i j l fa)) := by
  refine ps_w (ps_par3 hc hN hi hj hl hij hil hjl hx hy hz ha hw hs) fun D σ H q => ?_
  obtain ⟨r, e, S, w, S', at_, hf, k⟩ := q
  obtain ⟨p, h1, hf⟩ := bindS hf
  split at hf
  · rename_i v w' w2 e1
    cases hf
    refine ⟨r, e, S, p.1, p.2, at_, h1, fun r1 vs H1 pr1 s1 k1 rep1 => ?_⟩
    rw [e1] at rep1
    cases rep1 with
    | cons ra rb =>
      cases rb with
      | cons rb rc =>
        cases rc with
        | cons rc rd =>
          cases rd
          exact ⟨_, _, _, rfl, k r1 H1 pr1 s1 k1 _ ((((at_.env.up pr1 k1).set ra i).set rb j).set rc l)⟩
  · cases hf
theorem ws_aug {i : Nat} {x : Str} {op : Operator} {R : TIp} {o : W → W → Sto → Option (W × Sto)} {pos' : Pos} (hN : X.N.Nodup) (he : PE X a (tE X.K f)) (ho : PIp X op R) (hr : R2W X.K R o) (hi : X.N[i]? = some x := by rfl) (hx : Loc X.env.scope x := by first | exact .inl rfl | exact .inr rfl)
    (hf : X.fn x = true ∨ X.env.scope.names.lookup x = some .local := by first | exact .inl rfl | exact .inr rfl | assumption) : PS X (.AugAssign (.Name x pos') op a pos) (tS X.K (sAug i f o)) := by
  refine ps_w (ps_aug hN hi hx he ho hf) fun D σ H q => ?_
  obtain ⟨r, e, S, w, S', at_, hf, k⟩ := q
  unfold sAug at hf
  split at hf
  · rename_i x0 e0
    obtain ⟨p, h1, hf⟩ := bindS hf
    obtain ⟨p2, h2, hf⟩ := bindS hf
    cases hf
    obtain ⟨v, q1, q2⟩ := at_.env.2 i x0 e0
    exact ⟨v, q1, r, e, S, p.1, p.2, at_, h1, fun r1 v1 H1 pr1 s1 k1 rep1 => hr r1 p.2 H1 v v1 x0 p.1 p2.1 p2.2 _ s1 (q2.up pr1 k1) rep1 h2 fun r2 v2 H2 pr2 s2 k2 rep2 => k r2 H2 (pr1.trans pr2) s2 (k1.trans k2) _ ((at_.env.up (pr1.trans pr2) (k1.trans k2)).set rep2 i)⟩
  · cases hf
theorem ws_augS {op : Operator} {Rg : R2} {Rp : TIp} {Rs : TSet} {og op' : W → W → Sto → Option (W × Sto)} {os : W → W → W → Sto → Option Sto} {tpos : Pos} (ho : PE X a (tE X.K f)) (hi : PE X b (tE X.K g)) (hg : PGet X Rg) (hgr : R2W X.K Rg og) (he : PE X c (tE X.K h)) (hp : PIp X op Rp) (hpr : R2W X.K Rp op')
    (hs : PSet X Rs) (hsr : RsW X.K Rs os) (ha : ∀ ov iv new, augStore b ov iv new = (do holding [new, ov, iv] (setItem ov iv new); release [new, ov, iv] []; pure .next) := by intros; rfl) :
    PS X (.AugAssign (.Subscript a b tpos) op c pos) (tS X.K (sAugS f g og h op' os)) := by
  refine ps_w (ps_augS ho hi hg he hp hs ha) fun D σ H q => ?_
  obtain ⟨r, e, S, w, S', at_, hf, k⟩ := q
  obtain ⟨p, h1, hf⟩ := bindS hf
  obtain ⟨p2, h2, hf⟩ := bindS hf
  obtain ⟨p3, h3, hf⟩ := bindS hf
  obtain ⟨p4, h4, hf⟩ := bindS hf
  obtain ⟨p5, h5, hf⟩ := bindS hf
  obtain ⟨S6, h6, hf⟩ := bindS hf
  cases hf
  refine ⟨r, e, S, p.1, p.2, at_, h1, fun r1 v1 H1 pr1 s1 k1 rep1 => ⟨r1, e, p.2, p2.1, p2.2, at_.up pr1 s1 k1, h2, fun r2 v2 H2 pr2 s2 k2 rep2 => ?_⟩⟩
  refine hgr r2 p2.2 H2 v1 v2 p.1 p2.1 p3.1 p3.2 _ s2 (rep1.up pr2 k2) rep2 h3 fun r3 v3 H3 pr3 s3 k3 rep3 => ?_
  have pa := (pr1.trans pr2).trans pr3
  have ka := (k1.trans k2).trans k3
  refine ⟨r3, e, p3.2, p4.1, p4.2, at_.up pa s3 ka, h4, fun r4 v4 H4 pr4 s4 k4 rep4 => ?_⟩
  refine hpr r4 p4.2 H4 v3 v4 p3.1 p4.1 p5.1 p5.2 _ s4 (rep3.up pr4 k4) rep4 h5 fun r5 v5 H5 pr5 s5 k5 rep5 => ?_
  refine hsr r5 p5.2 H5 v1 v2 v5 p.1 p2.1 p5.1 S' _ s5 (rep1.up (((pr2.trans pr3).trans pr4).trans pr5) (((k2.trans k3).trans k4).trans k5)) (rep2.up ((pr3.trans pr4).trans pr5) ((k3.trans k4).trans k5)) rep5 h6 fun r6 H6 pr6 s6 k6 => ?_
  exact k r6 H6 (((pa.trans pr4).trans pr5).trans pr6) s6 (((ka.trans k4).trans k5).trans k6) σ (at_.env.up (((pa.trans pr4).trans pr5).trans pr6) (((ka.trans k4).trans k5).trans k6))
/-! loops -/
theorem ws_while (hp : PassesOwn (model X.prog X.w) X.A X.env X.xe) (hc : PT X c (tT X.K t)) (hb : PSs X body (tS X.K s)) : PS X (.While c body [] pos) (tS X.K (sWhile t s)) := by
  refine ps_w (ps_while hp hc hb) fun D σ H q => ?_
  obtain ⟨r, e, S, o, S', at_, hf, k⟩ := q
  refine ⟨fun m σ1 H1 => ∃ r1 e1 S1, At X.K r1 e1 S1 σ1 H1 ∧ whileF t s m e1 S1 = some (o, S') ∧ Pre r r1 ∧ Kp X.K H H1, ⟨FU, r, e, S, at_, hf, Pre.refl, Kp.refl⟩, ?_⟩
  rintro m σ1 H1 ⟨r1, e1, S1, at1, hf1, pr1, k1⟩
  cases m with
  | zero => simp [whileF] at hf1
  | succ m =>
    rw [whileF_succ] at hf1
    obtain ⟨⟨b, S2⟩, h2, hf1⟩ := bindS hf1
    refine ⟨r1, e1, S1, b, S2, at1, h2, fun r2 H2 pr2 s2 k2 => ?_⟩
    have p12 := pr1.trans pr2
    have k12 := k1.trans k2
    cases b with
    | false =>
      rw [if_neg Bool.false_ne_true] at hf1
      dsimp only
      rw [if_neg Bool.false_ne_true]
      cases hf1
      exact k r2 H2 p12 s2 k12 σ1 (at1.env.up pr2 k2)
    | true =>
      rw [if_pos rfl] at hf1
      dsimp only
      rw [if_pos rfl]
      obtain ⟨⟨o3, S3⟩, h3, hf1⟩ := bindS hf1
      refine ⟨fun σ3 H3 => ∃ r3 e3, At X.K r3 e3 S3 σ3 H3 ∧ whileF t s m e3 S3 = some (o, S') ∧ Pre r r3 ∧ Kp X.K H H3, fun σ3 H3 ⟨r3, e3, at3, hf3, pr3, k3⟩ => ⟨m, Nat.lt_succ_self _, r3, e3, S3, at3, hf3, pr3, k3⟩, ?_⟩
      refine ⟨r2, e1, S2, o3, S3, at1.up pr2 s2 k2, h3, fun r3 H3 pr3 s3 k3 => ?_⟩
      have p13 := p12.trans pr3
      have k13 := k12.trans k3
      cases o3 with
      | next e3 => exact fun σ3 er => ⟨r3, e3, ⟨s3, er⟩, hf1, p13, k13⟩
      | cont e3 => exact fun σ3 er => ⟨r3, e3, ⟨s3, er⟩, hf1, p13, k13⟩
      | brk e3 => cases hf1; exact k r3 H3 p13 s3 k13
      | ret w => cases hf1; exact k r3 H3 p13 s3 k13
open Classical in
theorem forF_nil (g : Ftg) (b : Fs) (chk : Sto → Prop) (e : En) (S : Sto) : forF g b chk [] e S = if chk S then some (.next e, S) else none := rfl
open Classical in
theorem forF_cons (g : Ftg) (b : Fs) (chk : Sto → Prop) (x : W) (xs : List W) (e : En) (S : Sto) : forF g b chk (x :: xs) e S = if chk S then (g x e S).bind fun p => (b p.1 p.2).bind fun q => match q.1 with
      | .next e' => forF g b chk xs e' q.2
      | .cont e' => forF g b chk xs e' q.2
      | .brk e' => some (.next e', q.2)
      | .ret w => some (.ret w, q.2)
    else none := rfl
theorem ws_for {fi : Fi} (hp : PassesOwn (model X.prog X.w) X.A X.env X.xe) (hc : X.calm = true) (hi : PI X b a (tI X.K fi)) (hg : PG X b (tG X.K gt)) (hb : PSs X body (tS X.K s))
    (hs : ∀ x, foldedSetIterable a X.env x = pure x := by intro _; rfl) : PS X (.For b a body [] pos) (tS X.K (sFor fi gt s)) := by
  refine ps_w (ps_for hp hc hi hg hb hs) fun D σ H q => ?_
  obtain ⟨r, e, S, o, S', at_, hf, k⟩ := q
  obtain ⟨⟨I, S0⟩, h0, hf⟩ := bindS hf
  refine ⟨r, e, S, I, S0, at_, h0, fun r0 J H0 pr0 s0 k0 ok => ?_⟩
  refine ⟨fun i m σ1 H1 => m = I.xs.length - i ∧ i ≤ I.xs.length ∧ ∃ r1 e1 S1, At X.K r1 e1 S1 σ1 H1 ∧ forF gt s I.chk (I.xs.drop i) e1 S1 = some (o, S') ∧ Pre r0 r1 ∧ Kp X.K H0 H1, ⟨I.xs.length, by simp, Nat.zero_le _, r0, e, S0, at_.up pr0 s0 k0, by simpa using hf, Pre.refl, Kp.refl⟩, ?_⟩
  rintro i m σ1 H1 ⟨rfl, hi, r1, e1, S1, at1, hf1, pr1, k1⟩
  by_cases hlt : i < I.xs.length
  · rw [List.drop_eq_getElem_cons hlt, forF_cons] at hf1
    split at hf1
    · rename_i hchk
      have hx : I.xs[i]? = some I.xs[i] := by simp [hlt]
      obtain ⟨⟨e2, S2⟩, h2, hf1⟩ := bindS hf1
      obtain ⟨⟨o3, S3⟩, h3, hf1⟩ := bindS hf1
      refine .inr ⟨ok.go i r1 S1 H1 _ pr1 k1 at1.sim hchk hx, fun σ3 H3 => ∃ r3 e3, At X.K r3 e3 S3 σ3 H3 ∧ forF gt s I.chk (I.xs.drop (i + 1)) e3 S3 = some (o, S') ∧ Pre r0 r3 ∧ Kp X.K H0 H3, fun σ3 H3 ⟨r3, e3, at3, hf3, pr3, k3⟩ => ⟨_, by omega, rfl, hlt, r3, e3, S3, at3, hf3, pr3, k3⟩, fun x H2 y => ?_⟩
      obtain ⟨s2, k2, rep2⟩ := ok.yld i r1 S1 H1 _ x H2 pr1 k1 at1.sim hchk hx y
      refine ⟨r1, e1, S1, _, e2, S2, ⟨s2, at1.env.up Pre.refl k2⟩, rep2, h2, fun r3 σ3 H3 pr3 s3 k3 er3 => ?_⟩
      refine ⟨r3, e2, S2, o3, S3, ⟨s3, er3⟩, h3, fun r4 H4 pr4 s4 k4 => ?_⟩
      have pA := (pr1.trans pr3).trans pr4
      have kA := ((k1.trans k2).trans k3).trans k4
      cases o3 with
      | next e3 => exact fun σ4 er => ⟨r4, e3, ⟨s4, er⟩, hf1, pA, kA⟩
      | cont e3 => exact fun σ4 er => ⟨r4, e3, ⟨s4, er⟩, hf1, pA, kA⟩
      | brk e3 => cases hf1; exact k r4 H4 (pr0.trans pA) s4 (k0.trans kA)
      | ret w => cases hf1; exact k r4 H4 (pr0.trans pA) s4 (k0.trans kA)
    · cases hf1
  · rw [List.drop_eq_nil_of_le (by omega), forF_nil] at hf1
    split at hf1
    · rename_i hchk
      cases hf1
      exact .inl ⟨ok.stop i r1 _ H1 pr1 k1 at1.sim hchk (by omega), k r1 H1 (pr0.trans pr1) at1.sim (k0.trans k1) σ1 at1.env⟩
    · cases hf1
end
/-! ### a def -/
/-- the slots at a def's entry -/
def en (n : Nat) (ws : List W) : En := ws.map some ++ List.replicate (n - ws.length) none
def fnB (n : Nat) (b : Fs) : Fn := fun ws S => (b (en n ws) S).bind fun p => match p.1 with
  | .next _ => some (.non, p.2)
  | .ret w => some (w, p.2)
  | _ => none
theorem en_rep {K : PySem.W.Frag} {r : List Addr} {H : Hp} {ws : List W} {vs : List V} (N : List Str) (h : Reps K r H ws vs) : ERep K r H (en N.length ws) (L2.start N vs) := by
  refine ⟨by simp [en, L2.start, h.length], fun i w q => ?_⟩
  unfold en at q
  unfold L2.start
  by_cases hi : i < ws.length
  · rw [List.getElem?_append_left (by simpa using hi)] at q
    rw [List.getElem?_map] at q
    cases e : ws[i]? with
    | none => rw [e] at q; cases q
    | some u =>
      rw [e] at q
      cases q
      obtain ⟨v, h1, h2⟩ := h.get e
      exact ⟨v, by rw [List.getElem?_append_left (by simp [h.length]; exact hi), List.getElem?_map, h1]; rfl, h2⟩
  · rw [List.getElem?_append_right (by simpa using hi)] at q
    have := List.mem_of_getElem? q
    simp at this
/-- the body's reading at the entry -/
theorem fn_read {K : PySem.W.Frag} {vs : List V} {H : Hp} {Q : VK} {E : XK} {N : List Str} {b : Fs} (h : spF K (fnB N.length b) vs H Q E) : tS K b { nx := fun _ H' => Q .non H', rt := Q } (L2.start N vs) H := by
  obtain ⟨r, ws, S, w, S', s, rep, hf, k⟩ := h
  obtain ⟨⟨o, S1⟩, h1, hf⟩ := bindS hf
  refine ⟨r, en N.length ws, S, o, S1, ⟨s, en_rep N rep⟩, h1, fun r1 H1 p1 s1 k1 => ?_⟩
  cases o with
  | next e => cases hf; exact fun σ' _ => k r1 _ H1 p1 s1 k1 .non
  | ret w => cases hf; exact fun v rv => k r1 _ H1 p1 s1 k1 rv
  | brk e => cases hf
  | cont e => cases hf
end Bp

/-! Ev6: what is walked; comprehensions; built-ins and methods. -/
namespace Bp
set_option autoImplicit false
open PySem L2
/-! ### what is walked -/
def iSeq (f : Fe) : Fi := fun e S => (f e S).bind fun p => match p.1 with
  | .tup xs => some (⟨xs, fun _ => True⟩, p.2)
  | .fz xs => some (⟨xs, fun _ => True⟩, p.2)
  | .str x => some (⟨x.cps.toList.map fun c => .str ⟨#[c]⟩, fun _ => True⟩, p.2)
  | .ref n => match p.2[n]? with
    | some (.lst xs) => some (⟨xs, fun S => S[n]? = some (.lst xs)⟩, p.2)
    | _ => none
  | _ => none
def intsW (lo : Int) (n : Nat) : List W := (List.range n).map fun i => .int (lo + (i : Nat))
def iRange1 (f : Fa) : Fi := fun e S => (f e S).bind fun p => match p.1 with
  | [.int j] => if -(2 ^ 62) ≤ j ∧ j < 2 ^ 62 then some (⟨intsW 0 j.toNat, fun _ => True⟩, p.2) else none
  | _ => none
def iRange2 (f : Fa) : Fi := fun e S => (f e S).bind fun p => match p.1 with
  | [.int i, .int j] => if -(2 ^ 62) ≤ i ∧ i < 2 ^ 62 ∧ -(2 ^ 62) ≤ j ∧ j < 2 ^ 62 then some (⟨intsW i (j - i).toNat, fun _ => True⟩, p.2) else none
  | _ => none
/-- what a list is, and what says that it still stands -/
def lstAt (S : Sto) : W → Option (List W × (Sto → Prop))
  | .fz xs => some (xs, fun _ => True)
  | .ref n => match S[n]? with
    | some (.lst xs) => some (xs, fun S => S[n]? = some (.lst xs))
    | _ => none
  | _ => none
def enumL (i : Nat) : List W → List W
  | [] => []
  | x :: xs => .tup [.int (i : Nat), x] :: enumL (i + 1) xs
def iEnumW (f : Fa) : Fi := fun e S => (f e S).bind fun p => match p.1 with
  | [w] => (lstAt p.2 w).bind fun q => some (⟨enumL 0 q.1, q.2⟩, p.2)
  | _ => none
def zipL : List W → List W → List W
  | x :: xs, y :: ys => .tup [x, y] :: zipL xs ys
  | _, _ => []
def iZipW (f : Fa) : Fi := fun e S => (f e S).bind fun p => match p.1 with
  | [.tup xs, .tup ys] => some (⟨zipL xs ys, fun _ => True⟩, p.2)
  | [v, w] => (lstAt p.2 v).bind fun q => (lstAt p.2 w).bind fun q' => some (⟨zipL q.1 q'.1, fun S => q.2 S ∧ q'.2 S⟩, p.2)
  | _ => none
theorem enumL_get : ∀ {xs : List W} {k i : Nat} {w : W}, (enumL k xs)[i]? = some w → ∃ x, xs[i]? = some x ∧ w = .tup [.int ((k + i : Nat)), x]
  | [], _, _, _, h => by simp [enumL] at h
  | x :: xs, k, 0, w, h => by simp [enumL] at h; exact ⟨x, rfl, h.symm⟩
  | x :: xs, k, i + 1, w, h => by
    simp only [enumL, List.getElem?_cons_succ] at h
    obtain ⟨y, h1, h2⟩ := enumL_get h
    exact ⟨y, h1, by rw [h2]; congr 4; omega⟩
theorem enumL_length : ∀ (xs : List W) (k : Nat), (enumL k xs).length = xs.length
  | [], _ => rfl
  | x :: xs, k => by simp [enumL, enumL_length xs]
theorem zipL_get : ∀ {xs ys : List W} {i : Nat} {w : W}, (zipL xs ys)[i]? = some w → ∃ x y, xs[i]? = some x ∧ ys[i]? = some y ∧ w = .tup [x, y]
  | x :: xs, y :: ys, 0, w, h => by simp [zipL] at h; exact ⟨x, y, rfl, rfl, h.symm⟩
  | x :: xs, y :: ys, i + 1, w, h => by
    simp only [zipL, List.getElem?_cons_succ] at h ⊢
    exact zipL_get h
  | [], _, _, _, h => by simp [zipL] at h
  | _ :: _, [], _, _, h => by simp [zipL] at h
theorem zipL_length : ∀ (xs ys : List W), (zipL xs ys).length = min xs.length ys.length
  | x :: xs, y :: ys => by simp [zipL, zipL_length xs ys]
  | [], _ => by simp [zipL]
  | _ :: _, [] => by simp [zipL]
section
variable {K : PySem.W.Frag} {r0 : List Addr} {H0 : Hp}
/-- the list stands where it stood -/
def Stands (K : PySem.W.Frag) (r0 : List Addr) (H0 : Hp) (a : Addr) (xs : List W) (c : Sto → Prop) : Prop := ∀ r S H, Pre r0 r → Kp K H0 H → Sim K r S H → c S → ∃ ys, SqL K H a ys ∧ Reps K r H xs ys
theorem lstAt_ok {S0 : Sto} {w : W} {v : V} {xs : List W} {c : Sto → Prop} (h : Rep K r0 H0 w v) (e : lstAt S0 w = some (xs, c)) : ∃ a, v = .ref a ∧ Stands K r0 H0 a xs c := by
  cases w with
  | fz zs =>
    cases e
    obtain ⟨a, ys, rfl, h1, h2⟩ := h.fzI
    exact ⟨a, rfl, fun r S H p k s _ => ⟨ys, (k.f _ _ h1).sq, h2.up p k⟩⟩
  | ref n =>
    simp only [lstAt] at e
    split at e
    · cases e
      cases h with
      | ref hn =>
        refine ⟨_, rfl, fun r S H p k s hc => ?_⟩
        obtain ⟨ys, h1, h2⟩ := s.obj _ _ _ (p _ _ hn) hc
        exact ⟨ys, SqL.of h1, h2⟩
    · cases e
  | _ => cases e
/-- two readings of one list -/
theorem itl_ok {a : Addr} {xs : List W} {c : Sto → Prop} (h : Stands K r0 H0 a xs c) : ItOk K r0 H0 (Itl K a) ⟨xs, c⟩ where
  stop := fun i r S H p k s hc hi => by
    obtain ⟨ys, h1, h2⟩ := h r S H p k s hc
    exact ⟨ys, h1, by rw [h2.length]; exact hi⟩
  go := fun i r S H w p k s hc hi => by
    obtain ⟨ys, h1, h2⟩ := h r S H p k s hc
    obtain ⟨v, h3, _⟩ := h2.get hi
    exact ⟨ys, v, h1, h3⟩
  yld := fun i r S H w x H' p k s hc hi y => by
    obtain ⟨rfl, y⟩ := y
    obtain ⟨ys, h1, h2⟩ := h r S _ p k s hc
    obtain ⟨v, h3, h4⟩ := h2.get hi
    have := y ys h1
    rw [h3] at this
    cases this
    exact ⟨s, Kp.refl, h4⟩
theorem itt_ok {a : Addr} {xs : List W} {ys : List V} (h1 : H0 a = some (.tup ys)) (h2 : Reps K r0 H0 xs ys) : ItOk K r0 H0 (Itt K a) ⟨xs, fun _ => True⟩ where
  stop := fun i r S H p k s hc hi => ⟨ys, SqT.of (k.t _ _ h1), by rw [h2.length]; exact hi⟩
  go := fun i r S H w p k s hc hi => by
    obtain ⟨v, h3, _⟩ := h2.get hi
    exact ⟨ys, v, SqT.of (k.t _ _ h1), h3⟩
  yld := fun i r S H w x H' p k s hc hi y => by
    obtain ⟨rfl, y⟩ := y
    obtain ⟨v, h3, h4⟩ := h2.get hi
    have := y ys (SqT.of (k.t _ _ h1))
    rw [h3] at this
    cases this
    exact ⟨s, Kp.refl, h4.up p k⟩
theorem itr_ok {lo : Int} {n : Nat} : ItOk K r0 H0 (Itr lo n) ⟨intsW lo n, fun _ => True⟩ where
  stop := fun i r S H p k s hc hi => by
    have : (intsW lo n).length ≤ i := hi
    simp [intsW] at this
    exact this
  go := fun i r S H w p k s hc hi => by
    have := (List.getElem?_eq_some_iff.mp hi).1
    simp [intsW] at this
    exact this
  yld := fun i r S H w x H' p k s hc hi y => by
    obtain ⟨rfl, rfl⟩ := y
    have hi : (intsW lo n)[i]? = some w := hi
    have h1 := (List.getElem?_eq_some_iff.mp hi).1
    simp [intsW] at h1
    simp [intsW, List.getElem?_map, List.getElem?_range h1] at hi
    subst hi
    exact ⟨s, Kp.refl, .int _⟩
theorem its_ok {x : Str} : ItOk K r0 H0 (Its x) ⟨x.cps.toList.map fun c => .str ⟨#[c]⟩, fun _ => True⟩ where
  stop := fun i r S H p k s hc hi => by
    have : (x.cps.toList.map fun c => W.str ⟨#[c]⟩).length ≤ i := hi
    simp at this
    exact this
  go := fun i r S H w p k s hc hi => by
    have := (List.getElem?_eq_some_iff.mp hi).1
    simp at this
    exact this
  yld := fun i r S H w v H' p k s hc hi y => by
    obtain ⟨rfl, c, h1, rfl⟩ := y
    have hi : (x.cps.toList.map fun c => W.str ⟨#[c]⟩)[i]? = some w := hi
    rw [List.getElem?_map, Array.getElem?_toList, h1] at hi
    cases hi
    exact ⟨s, Kp.refl, .str _⟩
theorem ite_ok {a : Addr} {xs : List W} {c : Sto → Prop} (h : Stands K r0 H0 a xs c) : ItOk K r0 H0 (Ite K a) ⟨enumL 0 xs, c⟩ where
  stop := fun i r S H p k s hc hi => by
    obtain ⟨ys, h1, h2⟩ := h r S H p k s hc
    have hi : (enumL 0 xs).length ≤ i := hi
    rw [enumL_length] at hi
    exact ⟨ys, h1, by rw [h2.length]; exact hi⟩
  go := fun i r S H w p k s hc hi => by
    obtain ⟨ys, h1, h2⟩ := h r S H p k s hc
    obtain ⟨u, hi, _⟩ := enumL_get hi
    obtain ⟨v, h3, _⟩ := h2.get hi
    exact ⟨ys, v, h1, h3⟩
  yld := fun i r S H w x H' p k s hc hi y => by
    obtain ⟨T, u, rfl, hT, rfl, y⟩ := y
    obtain ⟨ys, h1, h2⟩ := h r S _ p k s hc
    obtain ⟨u', hi', rfl⟩ := enumL_get hi
    obtain ⟨v, h3, h4⟩ := h2.get hi'
    have := y ys h1
    rw [h3] at this
    cases this
    have kn := Kp.new (K := K) (o := .tup [.int (i : Nat), u]) hT
    refine ⟨s.laid hT, kn, .tup upd_same (.cons ?_ (.cons (h4.up Pre.refl kn) .nil))⟩
    rw [Nat.zero_add]
    exact .int _
theorem itz_ok {a b : Addr} {xs ys : List W} {c d : Sto → Prop} (h : Stands K r0 H0 a xs c) (g : Stands K r0 H0 b ys d) : ItOk K r0 H0 (Itz K a b) ⟨zipL xs ys, fun S => c S ∧ d S⟩ where
  stop := fun i r S H p k s hc hi => by
    obtain ⟨us, h1, h2⟩ := h r S H p k s hc.1
    obtain ⟨vs, g1, g2⟩ := g r S H p k s hc.2
    have hi : (zipL xs ys).length ≤ i := hi
    rw [zipL_length] at hi
    exact ⟨us, vs, h1, g1, by rw [h2.length, g2.length]; omega⟩
  go := fun i r S H w p k s hc hi => by
    obtain ⟨us, h1, h2⟩ := h r S H p k s hc.1
    obtain ⟨vs, g1, g2⟩ := g r S H p k s hc.2
    obtain ⟨x, y, e1, e2, _⟩ := zipL_get hi
    obtain ⟨u, h3, _⟩ := h2.get e1
    obtain ⟨v, g3, _⟩ := g2.get e2
    exact ⟨us, vs, u, v, h1, g1, h3, g3⟩
  yld := fun i r S H w x H' p k s hc hi y => by
    obtain ⟨T, u, v, rfl, hT, rfl, y1, y2⟩ := y
    obtain ⟨us, h1, h2⟩ := h r S _ p k s hc.1
    obtain ⟨vs, g1, g2⟩ := g r S _ p k s hc.2
    obtain ⟨x, y, e1, e2, rfl⟩ := zipL_get hi
    obtain ⟨u', h3, h4⟩ := h2.get e1
    obtain ⟨v', g3, g4⟩ := g2.get e2
    have q1 := y1 us h1
    rw [h3] at q1
    cases q1
    have q2 := y2 vs g1
    rw [g3] at q2
    cases q2
    have kn := Kp.new (K := K) (o := .tup [u, v]) hT
    exact ⟨s.laid hT, kn, .tup upd_same (.cons (h4.up Pre.refl kn) (.cons (g4.up Pre.refl kn) .nil))⟩
theorem itzT_ok {a b : Addr} {xs ys : List W} {us vs : List V} (h1 : H0 a = some (.tup us)) (h2 : Reps K r0 H0 xs us) (g1 : H0 b = some (.tup vs)) (g2 : Reps K r0 H0 ys vs) : ItOk K r0 H0 (RZ.ItzT K a b) ⟨zipL xs ys, fun _ => True⟩ where
  stop := fun i r S H p k s hc hi => by
    have hi : (zipL xs ys).length ≤ i := hi
    rw [zipL_length] at hi
    exact ⟨us, vs, SqT.of (k.t _ _ h1), SqT.of (k.t _ _ g1), by rw [h2.length, g2.length]; omega⟩
  go := fun i r S H w p k s hc hi => by
    obtain ⟨x, y, e1, e2, _⟩ := zipL_get hi
    obtain ⟨u, h3, _⟩ := h2.get e1
    obtain ⟨v, g3, _⟩ := g2.get e2
    exact ⟨us, vs, u, v, SqT.of (k.t _ _ h1), SqT.of (k.t _ _ g1), h3, g3⟩
  yld := fun i r S H w x H' p k s hc hi y => by
    obtain ⟨T, u, v, rfl, hT, rfl, y1, y2⟩ := y
    obtain ⟨x, y, e1, e2, rfl⟩ := zipL_get hi
    obtain ⟨u', h3, h4⟩ := h2.get e1
    obtain ⟨v', g3, g4⟩ := g2.get e2
    have q1 := y1 us (SqT.of (k.t _ _ h1))
    rw [h3] at q1
    cases q1
    have q2 := y2 vs (SqT.of (k.t _ _ g1))
    rw [g3] at q2
    cases q2
    have kn := Kp.new (K := K) (o := .tup [u, v]) hT
    exact ⟨s.laid hT, kn, .tup upd_same (.cons (h4.up p (k.trans kn)) (.cons (g4.up p (k.trans kn)) .nil))⟩
end
section
variable {X : Cx} {a b c : Expr} {f g h : Fe} {t u : Ft} {fa : Fa} {es : List Expr} {tg : Expr} {p pos : Pos}
theorem pi_w {wi wi' : TI} (h : PI X tg a wi) (hw : ∀ σ H R, wi' σ H R → wi σ H R) : PI X tg a wi' := ⟨fun pins s σ H R I q => h.run pins s σ H R I (hw σ H R q)⟩
theorem pi_or {wi wi' : TI} (h : PI X tg a wi) (h' : PI X tg a wi') : PI X tg a (fun σ H R => wi σ H R ∨ wi' σ H R) := ⟨fun pins s σ H R I q => q.elim (h.run pins s σ H R I) (h'.run pins s σ H R I)⟩
theorem wi_seq (ha : PE X a (tE X.K f)) : PI X tg a (tI X.K (iSeq f)) := by
  refine pi_w (pi_or (pi_list ha) (pi_or (pi_tup ha) (pi_str ha))) fun σ H R q => ?_
  obtain ⟨r, e, S, I, S', at_, hf, k⟩ := q
  obtain ⟨⟨w, S1⟩, h1, hf⟩ := bindS hf
  cases w with
  | tup xs =>
    cases hf
    refine .inr (.inl ⟨r, e, S, _, _, at_, h1, fun r1 v H1 p1 s1 k1 rep => ?_⟩)
    obtain ⟨a, ys, rfl, q1, q2⟩ := rep.tupH
    exact ⟨a, rfl, ⟨ys, SqT.of q1⟩, k r1 _ H1 p1 s1 k1 (itt_ok q1 q2)⟩
  | fz xs =>
    cases hf
    refine .inl ⟨r, e, S, _, _, at_, h1, fun r1 v H1 p1 s1 k1 rep => ?_⟩
    obtain ⟨a, rfl, q1⟩ := lstAt_ok (S0 := []) rep rfl
    obtain ⟨ys, q2, _⟩ := q1 r1 _ H1 Pre.refl Kp.refl s1 trivial
    exact ⟨a, rfl, ⟨ys, q2⟩, k r1 _ H1 p1 s1 k1 (itl_ok q1)⟩
  | str x =>
    cases hf
    refine .inr (.inr ⟨r, e, S, _, _, at_, h1, fun r1 v H1 p1 s1 k1 rep => ?_⟩)
    cases rep
    exact ⟨x, rfl, k r1 _ H1 p1 s1 k1 its_ok⟩
  | ref n =>
    dsimp only at hf
    split at hf
    · rename_i xs hx
      cases hf
      refine .inl ⟨r, e, S, _, _, at_, h1, fun r1 v H1 p1 s1 k1 rep => ?_⟩
      obtain ⟨a, rfl, q1⟩ := lstAt_ok (xs := xs) (c := fun S => S[n]? = some (.lst xs)) rep (by simp only [lstAt]; rw [hx])
      obtain ⟨ys, q2, _⟩ := q1 r1 _ H1 Pre.refl Kp.refl s1 hx
      exact ⟨a, rfl, ⟨ys, q2⟩, k r1 _ H1 p1 s1 k1 (itl_ok q1)⟩
    · cases hf
  | _ => cases hf
theorem wi_range1 (hg : Gl X "range") (hm : X.mg "range" = none) (ha : PA X [a] (tA X.K fa)) (hs : starEach [a] X.env = [(false, eval a X.env)] := by rfl) : PI X tg (.Call (.Name "range" p) [a] [] pos) (tI X.K (iRange1 fa)) := by
  refine pi_w (pi_range1 hg hm ha hs) fun σ H R q => ?_
  obtain ⟨r, e, S, I, S', at_, hf, k⟩ := q
  obtain ⟨⟨ws, S1⟩, h1, hf⟩ := bindS hf
  refine ⟨r, e, S, ws, S1, at_, h1, fun r1 vs H1 p1 s1 k1 rep => ?_⟩
  dsimp only at hf
  split at hf
  · split at hf
    · rename_i hb
      cases hf
      cases rep with
      | cons ra rb =>
        cases rb
        cases ra
        exact ⟨_, rfl, hb.1, hb.2, k r1 _ H1 p1 s1 k1 itr_ok⟩
    · cases hf
  · cases hf
theorem wi_range2 (hg : Gl X "range") (hm : X.mg "range" = none) (ha : PA X [a, b] (tA X.K fa)) (hs : starEach [a, b] X.env = [(false, eval a X.env), (false, eval b X.env)] := by rfl) (hs2 : starEach [b] X.env = [(false, eval b X.env)] := by rfl) :
    PI X tg (.Call (.Name "range" p) [a, b] [] pos) (tI X.K (iRange2 fa)) := by
  refine pi_w (pi_range2 hg hm ha hs hs2) fun σ H R q => ?_
  obtain ⟨r, e, S, I, S', at_, hf, k⟩ := q
  obtain ⟨⟨ws, S1⟩, h1, hf⟩ := bindS hf
  refine ⟨r, e, S, ws, S1, at_, h1, fun r1 vs H1 p1 s1 k1 rep => ?_⟩
  dsimp only at hf
  split at hf
  · split at hf
    · rename_i hb
      cases hf
      cases rep with
      | cons ra rb =>
        cases rb with
        | cons rb rc =>
          cases rc
          cases ra
          cases rb
          exact ⟨_, _, rfl, hb, k r1 _ H1 p1 s1 k1 itr_ok⟩
    · cases hf
  · cases hf
theorem lstAt_now {S : Sto} {w : W} {xs : List W} {c : Sto → Prop} (h : lstAt S w = some (xs, c)) : c S := by
  unfold lstAt at h
  split at h
  · cases h; trivial
  · split at h
    · cases h; assumption
    · cases h
  · cases h
theorem wi_enum {tpos : Pos} {elts : List Expr} {kk : Nat} (hg : Gl X "enumerate") (hm : X.mg "enumerate" = none) (ha : PA X [a] (tA X.K fa)) (hs : starEach [a] X.env = [(false, eval a X.env)] := by rfl) : PI X (.Tuple elts kk tpos) (.Call (.Name "enumerate" p) [a] [] pos) (tI X.K (iEnumW fa)) := by
  refine pi_w (pi_enum hg hm ha hs) fun σ H R q => ?_
  obtain ⟨r, e, S, I, S', at_, hf, k⟩ := q
  obtain ⟨⟨ws, S1⟩, h1, hf⟩ := bindS hf
  refine ⟨r, e, S, ws, S1, at_, h1, fun r1 vs H1 p1 s1 k1 rep => ?_⟩
  dsimp only at hf
  split at hf
  · obtain ⟨⟨xs, c⟩, h2, hf⟩ := bindS hf
    cases hf
    cases rep with
    | cons ra rb =>
      cases rb
      obtain ⟨a, rfl, q1⟩ := lstAt_ok ra h2
      obtain ⟨ys, q2, _⟩ := q1 r1 _ H1 Pre.refl Kp.refl s1 (lstAt_now h2)
      exact ⟨a, ys, rfl, q2, k r1 _ H1 p1 s1 k1 (ite_ok q1)⟩
  · cases hf
theorem wi_zip {tpos : Pos} {elts : List Expr} {kk : Nat} (hg : Gl X "zip") (hm : X.mg "zip" = none) (ha : PA X [a, b] (tA X.K fa)) (hs : starEach [a, b] X.env = (false, eval a X.env) :: starEach [b] X.env := by rfl) (hpl : (backTo pos (starEach [b] X.env)).any (·.1) = false := by rfl) :
    PI X (.Tuple elts kk tpos) (.Call (.Name "zip" p) [a, b] [] pos) (tI X.K (iZipW fa)) := by
  refine pi_w (RZ.pi_zipA hg hm ha hs hpl) fun σ H R q => ?_
  obtain ⟨r, e, S, I, S', at_, hf, k⟩ := q
  obtain ⟨⟨ws, S1⟩, h1, hf⟩ := bindS hf
  refine ⟨r, e, S, ws, S1, at_, h1, fun r1 vs H1 p1 s1 k1 rep => ?_⟩
  dsimp only at hf
  split at hf
  · cases hf
    cases rep with
    | cons ra rb =>
      cases rb with
      | cons rb rc =>
        cases rc
        obtain ⟨a, us, rfl, a1, a2⟩ := ra.tupH
        obtain ⟨b, vs, rfl, b1, b2⟩ := rb.tupH
        exact ⟨a, b, us, vs, rfl, .inr ⟨SqT.of a1, SqT.of b1, k r1 _ H1 p1 s1 k1 (itzT_ok a1 a2 b1 b2)⟩⟩
  · obtain ⟨⟨xs, c⟩, h2, hf⟩ := bindS hf
    obtain ⟨⟨ys, d⟩, h3, hf⟩ := bindS hf
    cases hf
    cases rep with
    | cons ra rb =>
      cases rb with
      | cons rb rc =>
        cases rc
        obtain ⟨a, rfl, q1⟩ := lstAt_ok ra h2
        obtain ⟨b, rfl, q2⟩ := lstAt_ok rb h3
        obtain ⟨us, q3, _⟩ := q1 r1 _ H1 Pre.refl Kp.refl s1 (lstAt_now h2)
        obtain ⟨vs, q4, _⟩ := q2 r1 _ H1 Pre.refl Kp.refl s1 (lstAt_now h3)
        exact ⟨a, b, us, vs, rfl, .inl ⟨q3, q4, k r1 _ H1 p1 s1 k1 (itz_ok q1 q2)⟩⟩
  · cases hf
end
/-! ### comprehensions -/
def wipeW (e : En) : List Nat → En
  | [] => e
  | v :: vs => (wipeW e vs).set v none
open Classical in
/-- the items made one after another, the new list at n -/
noncomputable def lcF (g : Ftg) (t : Ft) (f : Fe) (chk : Sto → Prop) (n : Nat) (e : En) : List W → Sto → Option Sto
  | [], S => if chk S then some S else none
  | x :: xs, S => if chk S then (g x e S).bind fun p => (t p.1 p.2).bind fun q => if q.1 = true then (f p.1 q.2).bind fun y => match y.2[n]? with
      | some (.lst acc) => if acc.length < sizeLine then lcF g t f chk n e xs (y.2.set n (.lst (acc ++ [y.1]))) else none
      | _ => none
      else lcF g t f chk n e xs q.2
    else none
noncomputable def eLc (it : Fi) (g : Ftg) (t : Ft) (f : Fe) (vs : List Nat) : Fe := fun e S => (it e S).bind fun p => (lcF g t f p.1.chk p.2.length (wipeW e vs) p.1.xs (p.2 ++ [.lst []])).bind fun S' => some (.ref p.2.length, S')
def tYesW : Ft := fun _ S => some (true, S)
theorem wipeW_length (e : En) : ∀ vs : List Nat, (wipeW e vs).length = e.length
  | [] => rfl
  | v :: vs => by unfold wipeW; rw [List.length_set, wipeW_length e vs]
theorem wipeW_some {e : En} {i : Nat} {x : W} : ∀ {vs : List Nat}, (wipeW e vs)[i]? = some (some x) → e[i]? = some (some x) ∧ i ∉ vs
  | [], h => ⟨h, by simp⟩
  | v :: vs, h => by
    unfold wipeW at h
    by_cases hi : v = i
    · subst hi
      by_cases hv : v < (wipeW e vs).length
      · rw [List.getElem?_set_self hv] at h; cases h
      · rw [List.getElem?_eq_none (by simpa using hv)] at h; cases h
    · rw [List.getElem?_set_ne hi] at h
      obtain ⟨h1, h2⟩ := wipeW_some h
      exact ⟨h1, by simp only [List.mem_cons, not_or]; exact ⟨fun e => hi e.symm, h2⟩⟩
theorem wipe_rep {K : PySem.W.Frag} {r : List Addr} {H : Hp} {e : En} {σ : L2.St} (h : ERep K r H e σ) (vs : List Nat) : ERep K r H (wipeW e vs) (wipe σ vs) := by
  refine ⟨by rw [wipeW_length, wipe_length]; exact h.1, fun i w q => ?_⟩
  obtain ⟨h1, h2⟩ := wipeW_some q
  obtain ⟨v, h3, h4⟩ := h.2 i w h1
  exact ⟨v, by rw [wipe_out h2]; exact h3, h4⟩
open Classical in
theorem lcF_nil (g : Ftg) (t : Ft) (f : Fe) (chk : Sto → Prop) (n : Nat) (e : En) (S : Sto) : lcF g t f chk n e [] S = if chk S then some S else none := rfl
open Classical in
theorem lcF_cons (g : Ftg) (t : Ft) (f : Fe) (chk : Sto → Prop) (n : Nat) (e : En) (x : W) (xs : List W) (S : Sto) : lcF g t f chk n e (x :: xs) S = if chk S then (g x e S).bind fun p => (t p.1 p.2).bind fun q => if q.1 = true then (f p.1 q.2).bind fun y => match y.2[n]? with
      | some (.lst acc) => if acc.length < sizeLine then lcF g t f chk n e xs (y.2.set n (.lst (acc ++ [y.1]))) else none
      | _ => none
      else lcF g t f chk n e xs q.2
    else none := rfl
/-- a target that stores into these slots alone -/
def OwnG (g : TG) (vs : List Nat) : Prop := ∀ v σ H (Q : L2.St → Hp → Prop), g v σ H Q → g v σ H fun σ2 H2 => wipe σ2 vs = wipe σ vs ∧ Q σ2 H2
section
variable {X : Cx} {a : Expr} {f : Fe} {t : Ft} {fi : Fi} {gt : Ftg} {tg elt : Expr} {vs : List Nat}
theorem r_lc {J : It} {I : Items} {r r0 : List Addr} {e : En} {S S0 S' : Sto} {σ : L2.St} {H0 : Hp} {Qd : Hp → Prop} {D : Addr} {g : TG}
    (hg : ∀ v σ H Q, tG X.K gt v σ H Q → g v σ H fun σ2 H2 => wipe σ2 vs = wipe σ vs ∧ Q σ2 H2) (hw : wipe (wipe σ vs) vs = wipe σ vs) (at_ : At X.K r0 e S0 σ H0) (ok : ItOk X.K r0 H0 J I) (hD : H0 D = none) (hf : lcF gt t f I.chk S0.length (wipeW e vs) I.xs (S0 ++ [.lst []]) = some S')
    (k : ∀ r' H', Pre r0 r' → r'[S0.length]? = some D → Sim X.K r' S' H' → Kp X.K H0 H' → Qd H') :
    ∃ W : Nat → Nat → Hp → Prop, (∃ m, W 0 m (upd H0 D (.lst []))) ∧ ∀ i m H, W i m H →
      (J.stop i H ∧ Qd H) ∨ (J.go i H ∧ ∃ Nx : Hp → Prop, (∀ H', Nx H' → ∃ m', m' < m ∧ W (i + 1) m' H') ∧ ∀ x H', J.yld i H x H' → g x (wipe σ vs) H' fun σ2 H2 => wipe σ2 vs = wipe σ vs ∧ tT X.K t σ2 H2 fun b H3 =>
        if b = true then tE X.K f σ2 H3 fun y H4 => ∃ acc, H4 D = some (.lst acc) ∧ acc.length < sizeLine ∧ Nx (upd H4 D (.lst (acc ++ [y]))) else Nx H3) := by
  have s0 : Sim X.K (r0 ++ [D]) (S0 ++ [.lst []]) (upd H0 D (.lst [])) := at_.sim.new hD ⟨[], upd_same, .nil⟩
  refine ⟨fun i m H => m = I.xs.length - i ∧ i ≤ I.xs.length ∧ ∃ r1 S1, Pre (r0 ++ [D]) r1 ∧ Kp X.K H0 H ∧ Sim X.K r1 S1 H ∧ lcF gt t f I.chk S0.length (wipeW e vs) (I.xs.drop i) S1 = some S', ⟨_, rfl, Nat.zero_le _, r0 ++ [D], _, Pre.refl, Kp.new hD, s0, by simpa using hf⟩, ?_⟩
  rintro i m H ⟨rfl, hi, r1, S1, p1, k1, s1, hf1⟩
  have p01 : Pre r0 r1 := Pre.app.trans p1
  have hDr : r1[S0.length]? = some D := p1 _ _ (Pre.last at_.sim)
  by_cases hlt : i < I.xs.length
  · rw [List.drop_eq_getElem_cons hlt, lcF_cons] at hf1
    split at hf1
    · rename_i hchk
      have hx : I.xs[i]? = some I.xs[i] := by simp [hlt]
      obtain ⟨⟨e2, S2⟩, h2, hf1⟩ := bindS hf1
      obtain ⟨⟨b, S3⟩, h3, hf1⟩ := bindS hf1
      refine .inr ⟨ok.go i r1 S1 H _ p01 k1 s1 hchk hx, fun H5 => ∃ r5 S5, Pre (r0 ++ [D]) r5 ∧ Kp X.K H0 H5 ∧ Sim X.K r5 S5 H5 ∧ lcF gt t f I.chk S0.length (wipeW e vs) (I.xs.drop (i + 1)) S5 = some S', fun H' z => ⟨_, by omega, rfl, hlt, z⟩, fun x H2 y => ?_⟩
      obtain ⟨s2, k2, rep2⟩ := ok.yld i r1 S1 H _ x H2 p01 k1 s1 hchk hx y
      have env2 : ERep X.K r1 H2 (wipeW e vs) (wipe σ vs) := wipe_rep (at_.env.up p01 (k1.trans k2)) vs
      have hq := hg x (wipe σ vs) H2 (fun σ2 H3 => tT X.K t σ2 H3 fun b H3 =>
        if b = true then tE X.K f σ2 H3 fun y H4 => ∃ acc, H4 D = some (.lst acc) ∧ acc.length < sizeLine ∧ (∃ r5 S5, Pre (r0 ++ [D]) r5 ∧ Kp X.K H0 (upd H4 D (.lst (acc ++ [y]))) ∧ Sim X.K r5 S5 (upd H4 D (.lst (acc ++ [y]))) ∧ lcF gt t f I.chk S0.length (wipeW e vs) (I.xs.drop (i + 1)) S5 = some S') else (∃ r5 S5, Pre (r0 ++ [D]) r5 ∧ Kp X.K H0 H3 ∧ Sim X.K r5 S5 H3 ∧ lcF gt t f I.chk S0.length (wipeW e vs) (I.xs.drop (i + 1)) S5 = some S')) ?_
      · rw [hw] at hq
        exact hq
      refine ⟨r1, wipeW e vs, S1, _, e2, S2, ⟨s2, env2⟩, rep2, h2, fun r3 σ3 H3 pr3 s3 k3 er3 => ?_⟩
      refine ⟨r3, e2, S2, b, S3, ⟨s3, er3⟩, h3, fun r4 H4 pr4 s4 k4 => ?_⟩
      have pA := (p1.trans pr3).trans pr4
      have kA := ((k1.trans k2).trans k3).trans k4
      cases b with
      | false =>
        rw [if_neg Bool.false_ne_true] at hf1
        dsimp only
        rw [if_neg Bool.false_ne_true]
        exact ⟨r4, S3, pA, kA, s4, hf1⟩
      | true =>
        rw [if_pos rfl] at hf1
        dsimp only
        rw [if_pos rfl]
        obtain ⟨⟨y, S5⟩, h5, hf1⟩ := bindS hf1
        refine ⟨r4, e2, S3, y, S5, ⟨s4, er3.up pr4 k4⟩, h5, fun r5 v5 H5 pr5 s5 k5 rep5 => ?_⟩
        dsimp only at hf1
        split at hf1
        · rename_i acc hacc
          split at hf1
          · rename_i hl
            have hDr5 : r5[S0.length]? = some D := pr5 _ _ (pr4 _ _ (pr3 _ _ hDr))
            obtain ⟨ys, q1, q2⟩ := s5.obj _ _ _ hDr5 hacc
            have m := Kp.mut (K := X.K) (o := .lst (ys ++ [v5])) (s5.mut hDr5)
            refine ⟨ys, q1, by rw [q2.length]; exact hl, r5, _, pA.trans pr5, (kA.trans k5).trans m, s5.set (o := .lst (acc ++ [y])) hDr5 ⟨_, upd_same, (q2.append (Reps.one rep5)).up Pre.refl m⟩, hf1⟩
          · cases hf1
        · cases hf1
    · cases hf1
  · rw [List.drop_eq_nil_of_le (by omega), lcF_nil] at hf1
    split at hf1
    · rename_i hchk
      cases hf1
      exact .inl ⟨ok.stop i r1 _ H p01 k1 s1 hchk (by omega), k r1 H p01 hDr s1 k1⟩
    · cases hf1
theorem wts_nil : PTs X [] (tT X.K tYesW) := by
  have h := pts_nil (X := X)
  refine ⟨fun pins s σ H Q I q => h.run pins s σ H Q I ?_⟩
  obtain ⟨r, e, S, b, S', at_, hf, k⟩ := q
  cases hf
  exact k r H Pre.refl at_.sim Kp.refl
theorem wts_one {c : Expr} (h : PT X c (tT X.K t)) : PTs X [c] (tT X.K t) := pts_one h
/-- the comprehension's reading, by its target -/
theorem r_elc {g : TG} (hg : ∀ v σ H Q, tG X.K gt v σ H Q → g v σ H fun σ2 H2 => wipe σ2 vs = wipe σ vs ∧ Q σ2 H2) (hw : ∀ σ, wipe (wipe σ vs) vs = wipe σ vs) {σ : L2.St} {H : Hp} {Q : VK} (q : tE X.K (eLc fi gt t f vs) σ H Q) :
    tLc (tI X.K fi) g (tT X.K t) (tE X.K f) vs σ H Q := by
  obtain ⟨r, e, S, w, S', at_, hf, k⟩ := q
  obtain ⟨⟨I, S0⟩, h0, hf⟩ := bindS hf
  obtain ⟨S2, h2, hf⟩ := bindS hf
  cases hf
  refine ⟨r, e, S, I, S0, at_, h0, fun r0 J H0 p0 s0 k0 ok D hD => ?_⟩
  exact r_lc (r := r) (S := S) (r0 := r0) hg (hw σ) (at_.up p0 s0 k0) ok hD h2 fun r' H' p' hd s' k' => k r' _ H' (p0.trans p') s' (k0.trans k') (.ref hd)
theorem own1 {i : Nat} : ∀ v σ H Q, tG X.K (gN i) v σ H Q → gName i v σ H fun σ2 H2 => wipe σ2 [i] = wipe σ [i] ∧ Q σ2 H2 := by
  intro v σ H Q q
  obtain ⟨r, e, S, w, e', S', at_, rep, hf, k⟩ := q
  cases hf
  exact ⟨by simp [wipe], k r _ H Pre.refl at_.sim Kp.refl (at_.env.set rep i)⟩
theorem own1w {i : Nat} (σ : L2.St) : wipe (wipe σ [i]) [i] = wipe σ [i] := by simp [wipe]
theorem own2 {i j : Nat} : ∀ v σ H Q, tG X.K (gTupW 2 (gsCons (gN i) (gsCons (gN j) gsNil))) v σ H Q → gTup X.K 2 (gCons (gName i) (gCons (gName j) gNil)) v σ H fun σ2 H2 => wipe σ2 [i, j] = wipe σ [i, j] ∧ Q σ2 H2 := by
  intro v σ H Q q
  obtain ⟨r, e, S, w, e', S', at_, rep, hf, k⟩ := q
  unfold gTupW at hf
  split at hf
  · split at hf
    · rename_i ws hl
      obtain ⟨a, ys, rfl, h1, h2⟩ := rep.tupI
      match ws, hl, h2, hf with
      | [x, y], _, h2, hf =>
        cases h2 with
        | cons ra rb =>
          cases rb with
          | cons rb rc =>
            cases rc
            cases hf
            refine ⟨a, _, rfl, h1, rfl, _, _, rfl, _, _, rfl, rfl, ?_, k r _ H Pre.refl at_.sim Kp.refl ((at_.env.set ra i).set rb j)⟩
            simp only [wipe, List.set_set]
            by_cases hij : i = j
            · subst hij; simp
            · rw [List.set_comm _ _ hij, List.set_set]
    · cases hf
  · cases hf
theorem own2w {i j : Nat} (σ : L2.St) : wipe (wipe σ [i, j]) [i, j] = wipe σ [i, j] := by
  simp only [wipe]
  by_cases hij : i = j
  · subst hij; simp
  · rw [List.set_comm (i := i) (j := j) _ _ hij, List.set_set, List.set_set]
variable {iter : Expr} {ifs : List Expr} {scope : Scope} {own : List (Str × Nat)} {pos spos : Pos}
theorem w_lc1 {i : Nat} {x : Str} {px : Pos} (hc : X.calm = true) (hN : X.N.Nodup) (hi : PI X (.Name x px) iter (tI X.K fi)) (ok : BlkOk X.N X.env.scope scope [(x, i)])
    (ht : ∀ (s : Shared) (H : Hp) (C : Addr) (cl : List (Str × Addr)) (fp : List Addr), PTs (X.blk s H scope (compEnvC scope cl C X.env) fp) ifs (tT X.K t))
    (he : ∀ (s : Shared) (H : Hp) (C : Addr) (cl : List (Str × Addr)) (fp : List Addr), PE (X.blk s H scope (compEnvC scope cl C X.env) fp) elt (tE X.K f))
    (hg : ∀ (s : Shared) (H : Hp) (C : Addr) (cl : List (Str × Addr)) (fp : List Addr), PG (X.blk s H scope (compEnvC scope cl C X.env) fp) (.Name x px) (gName i)) (hs : ∀ x, foldedSetIterable iter X.env x = pure x := by intro _; rfl) :
    PE X (.ListComp elt [⟨.Name x px, iter, ifs, 0⟩] scope pos) (tE X.K (eLc fi (gN i) t f [i])) :=
  pe_w (pe_lc hc hN hi ok hg ht he hs) fun _ _ _ q => r_elc own1 own1w q
theorem w_lc2 {i j : Nat} {x y : Str} {px py pt : Pos} {kk : Nat} (hc : X.calm = true) (hN : X.N.Nodup) (hi : PI X (.Tuple [.Name x px, .Name y py] kk pt) iter (tI X.K fi)) (ok : BlkOk X.N X.env.scope scope [(x, i), (y, j)])
    (ht : ∀ (s : Shared) (H : Hp) (C : Addr) (cl : List (Str × Addr)) (fp : List Addr), PTs (X.blk s H scope (compEnvC scope cl C X.env) fp) ifs (tT X.K t))
    (he : ∀ (s : Shared) (H : Hp) (C : Addr) (cl : List (Str × Addr)) (fp : List Addr), PE (X.blk s H scope (compEnvC scope cl C X.env) fp) elt (tE X.K f))
    (hg : ∀ (s : Shared) (H : Hp) (C : Addr) (cl : List (Str × Addr)) (fp : List Addr), PG (X.blk s H scope (compEnvC scope cl C X.env) fp) (.Tuple [.Name x px, .Name y py] kk pt) (gTup X.K 2 (gCons (gName i) (gCons (gName j) gNil)))) (hs : ∀ x, foldedSetIterable iter X.env x = pure x := by intro _; rfl) :
    PE X (.ListComp elt [⟨.Tuple [.Name x px, .Name y py] kk pt, iter, ifs, 0⟩] scope pos) (tE X.K (eLc fi (gTupW 2 (gsCons (gN i) (gsCons (gN j) gsNil))) t f [i, j])) :=
  pe_w (pe_lc hc hN hi ok hg ht he hs) fun _ _ _ q => r_elc own2 own2w q
theorem ws_setLc1 {i k : Nat} {x y : Str} {px py : Pos} (hc : X.calm = true) (hN : X.N.Nodup) (hyl : X.env.scope.names.lookup y = some .local) (hsw : swapsWith (.ListComp elt [⟨.Name x px, iter, ifs, 0⟩] scope pos) (some (.Name y py)) spos.line X.env = pure true)
    (hi : PI X (.Name x px) iter (tI X.K fi)) (ok : BlkOk X.N X.env.scope scope [(x, i)])
    (ht : ∀ (s : Shared) (H : Hp) (C : Addr) (cl : List (Str × Addr)) (fp : List Addr), PTs (X.blk s H scope (compEnvC scope cl C X.env) fp) ifs (tT X.K t))
    (he : ∀ (s : Shared) (H : Hp) (C : Addr) (cl : List (Str × Addr)) (fp : List Addr), PE (X.blk s H scope (compEnvC scope cl C X.env) fp) elt (tE X.K f))
    (hg : ∀ (s : Shared) (H : Hp) (C : Addr) (cl : List (Str × Addr)) (fp : List Addr), PG (X.blk s H scope (compEnvC scope cl C X.env) fp) (.Name x px) (gName i)) (hy : X.N[k]? = some y := by rfl) (hs : ∀ x, foldedSetIterable iter X.env x = pure x := by intro _; rfl) :
    PS X (.Assign [.Name y py] (.ListComp elt [⟨.Name x px, iter, ifs, 0⟩] scope pos) spos) (tS X.K (sAsg (eLc fi (gN i) t f [i]) (gN k))) := by
  refine ps_w (ps_setLc hc hN hy hyl hsw hi ok hg ht he hs) fun D σ H q => ?_
  refine r_elc own1 own1w ?_
  obtain ⟨r, e, S, w, S', at_, hf, kk⟩ := q
  obtain ⟨p, h1, hf⟩ := bindS hf
  cases hf
  exact ⟨r, e, S, p.1, p.2, at_, h1, fun r1 v1 H1 pr1 s1 k1 rep1 => kk r1 H1 pr1 s1 k1 _ ((at_.env.up pr1 k1).set rep1 k)⟩
theorem ws_setLc2 {i j k : Nat} {x x2 y : Str} {px px2 pt py : Pos} {kt : Nat} (hc : X.calm = true) (hN : X.N.Nodup) (hyl : X.env.scope.names.lookup y = some .local) (hsw : swapsWith (.ListComp elt [⟨.Tuple [.Name x px, .Name x2 px2] kt pt, iter, ifs, 0⟩] scope pos) (some (.Name y py)) spos.line X.env = pure true)
    (hi : PI X (.Tuple [.Name x px, .Name x2 px2] kt pt) iter (tI X.K fi)) (ok : BlkOk X.N X.env.scope scope [(x, i), (x2, j)])
    (ht : ∀ (s : Shared) (H : Hp) (C : Addr) (cl : List (Str × Addr)) (fp : List Addr), PTs (X.blk s H scope (compEnvC scope cl C X.env) fp) ifs (tT X.K t))
    (he : ∀ (s : Shared) (H : Hp) (C : Addr) (cl : List (Str × Addr)) (fp : List Addr), PE (X.blk s H scope (compEnvC scope cl C X.env) fp) elt (tE X.K f))
    (hg : ∀ (s : Shared) (H : Hp) (C : Addr) (cl : List (Str × Addr)) (fp : List Addr), PG (X.blk s H scope (compEnvC scope cl C X.env) fp) (.Tuple [.Name x px, .Name x2 px2] kt pt) (gTup X.K 2 (gCons (gName i) (gCons (gName j) gNil)))) (hy : X.N[k]? = some y := by rfl) (hs : ∀ x, foldedSetIterable iter X.env x = pure x := by intro _; rfl) :
    PS X (.Assign [.Name y py] (.ListComp elt [⟨.Tuple [.Name x px, .Name x2 px2] kt pt, iter, ifs, 0⟩] scope pos) spos) (tS X.K (sAsg (eLc fi (gTupW 2 (gsCons (gN i) (gsCons (gN j) gsNil))) t f [i, j]) (gN k))) := by
  refine ps_w (ps_setLc hc hN hy hyl hsw hi ok hg ht he hs) fun D σ H q => ?_
  refine r_elc own2 own2w ?_
  obtain ⟨r, e, S, w, S', at_, hf, kk⟩ := q
  obtain ⟨p, h1, hf⟩ := bindS hf
  cases hf
  exact ⟨r, e, S, p.1, p.2, at_, h1, fun r1 v1 H1 pr1 s1 k1 rep1 => kk r1 H1 pr1 s1 k1 _ ((at_.env.up pr1 k1).set rep1 k)⟩
end
end Bp

/-! Ev7: built-ins, methods, slices. -/
namespace Bp
set_option autoImplicit false
open PySem L2
section
variable {X : Cx} {K : PySem.W.Frag}
/-! ### len, abs, min -/
def lenW : List W → Sto → Option (W × Sto)
  | [.str x], S => if x.length ≤ sizeLine then some (.int (x.length : Nat), S) else none
  | [w], S => (seqOf S w).bind fun xs => some (.int (xs.length : Nat), S)
  | _, _ => none
theorem r_len : RnW K (fun xs H Q => ∃ x n, xs = [x] ∧ LenV K x H n ∧ Q (.int (n : Nat)) H) lenW := by
  intro r S H xs ws w S' Q s rx e k
  unfold lenW at e
  split at e
  · split at e
    · rename_i hl
      cases e
      cases rx with
      | cons ra rb =>
        cases rb
        cases ra
        exact ⟨_, _, rfl, ⟨hl, rfl⟩, KR.now k s (.int _)⟩
    · cases e
  · obtain ⟨ys, e1, e⟩ := bindS e
    cases e
    cases rx with
    | cons ra rb =>
      cases rb
      obtain ⟨a, zs, rfl, h1, h2⟩ := seqOf_ok s ra e1
      refine ⟨_, zs.length, rfl, ?_, by rw [h2.length]; exact KR.now k s (.int _)⟩
      rcases h1 with h1 | h1
      · exact .inl ⟨zs, h1, rfl⟩
      · exact .inr ⟨zs, h1, rfl⟩
  · cases e
def absW : List W → Sto → Option (W × Sto)
  | [.int i], S => some (.int (if i < 0 then -i else i), S)
  | _, _ => none
theorem r_abs : RnW K (fun xs H Q => ∃ i, xs = [.int i] ∧ Q (.int (if i < 0 then -i else i)) H) absW := by
  intro r S H xs ws w S' Q s rx e k
  unfold absW at e
  split at e
  · cases e
    cases rx with
    | cons ra rb =>
      cases rb
      cases ra
      exact ⟨_, rfl, KR.now k s (.int _)⟩
  · cases e
def minW : List W → Sto → Option (W × Sto)
  | [.int i, .int j], S => some (.int (if j < i then j else i), S)
  | _, _ => none
theorem r_min : RnW K (fun xs H Q => ∃ i j, xs = [.int i, .int j] ∧ Q (.int (if j < i then j else i)) H) minW := by
  intro r S H xs ws w S' Q s rx e k
  unfold minW at e
  split at e
  · cases e
    cases rx with
    | cons ra rb =>
      cases rb with
      | cons rb rc =>
        cases rc
        cases ra
        cases rb
        exact ⟨_, _, rfl, KR.now k s (.int _)⟩
  · cases e
/-! ### isinstance -/
def tyName (S : Sto) : W → Option String
  | .non => some "NoneType"
  | .bl _ => some "bool"
  | .int _ => some "int"
  | .str _ => some "str"
  | .tup _ => some "tuple"
  | .fz _ => some "list"
  | .ref n => match S[n]? with | some (.lst _) => some "list" | _ => none
  | .ty _ => none
theorem tyName_ok {r : List Addr} {S : Sto} {H : Hp} {w : W} {v : V} {T : String} (s : Sim K r S H) (h : Rep K r H w v) (e : tyName S w = some T) : TyX K H v (.type T) := by
  cases w with
  | non => cases e; cases h; exact .base .non
  | bl b => cases e; cases h; exact .base (.bl b)
  | int b => cases e; cases h; exact .base (.int b)
  | str b => cases e; cases h; exact .base (.str b)
  | tup b =>
    cases e
    obtain ⟨a, ys, rfl, h1, h2⟩ := h.tupI
    rcases h1 with (h1 | ⟨o, h1⟩) | ⟨o, its, n, h1, h2, _⟩
    · exact .base (.tup h1)
    · exact .fTuple h1
    · exact .kTuple h1 h2
  | fz b =>
    cases e
    obtain ⟨a, ys, rfl, h1, h2⟩ := h.fzI
    rcases h1 with ⟨o, h1⟩ | ⟨o, its, n, h1, h2, _⟩
    · exact .base (.frz h1)
    · exact .kList h1 h2
  | ref n =>
    simp only [tyName] at e
    split at e
    · rename_i hx
      cases e
      obtain ⟨a, ys, rfl, _, h1, h2⟩ := h.lstI s hx
      exact .base (.lst h1)
    · cases e
  | ty n => cases e
def isiT : String → String → Option Bool
  | "int", "int" => some true
  | "bool", "int" => some true
  | "NoneType", "int" => some false
  | "str", "int" => some false
  | "tuple", "int" => some false
  | "list", "int" => some false
  | "bool", "bool" => some true
  | "int", "bool" => some false
  | "tuple", "tuple" => some true
  | "NoneType", "tuple" => some false
  | "int", "tuple" => some false
  | "bool", "tuple" => some false
  | "str", "tuple" => some false
  | "list", "tuple" => some false
  | "str", "str" => some true
  | "NoneType", "str" => some false
  | "int", "str" => some false
  | "list", "str" => some false
  | "tuple", "str" => some false
  | "bool", "str" => some false
  | _, _ => none
theorem isiT_ok {a b : String} {r : Bool} (h : isiT a b = some r) : kitB a b = some r := by
  unfold isiT at h
  split at h <;> first | (cases h; decide +kernel) | cases h
def isiW : List W → Sto → Option (W × Sto)
  | [w, .ty T], S => (tyName S w).bind fun n => (isiT n T).bind fun b => some (.bl b, S)
  | _, _ => none
theorem r_isi : RnW K (rIsi K) isiW := by
  intro r S H xs ws w S' Q s rx e k
  unfold isiW at e
  split at e
  · obtain ⟨n, e1, e⟩ := bindS e
    obtain ⟨b, e2, e⟩ := bindS e
    cases e
    cases rx with
    | cons ra rb =>
      cases rb with
      | cons rb rc =>
        cases rc
        cases rb
        exact ⟨_, _, _, _, b, rfl, .ty _, tyName_ok s ra e1, kit_ty (isiT_ok e2), KR.now k s (.bl _)⟩
  · cases e
/-! ### in -/
def flatW : W → Bool
  | .non => true
  | .bl _ => true
  | .int _ => true
  | .str _ => true
  | _ => false
def eqF : W → W → Bool
  | .non, .non => true
  | .bl a, .bl b => a == b
  | .int a, .int b => a == b
  | .bl a, .int b => (if a then 1 else 0) == b
  | .int a, .bl b => a == (if b then 1 else 0)
  | .str a, .str b => a == b
  | _, _ => false
theorem flat_rep {r : List Addr} {H : Hp} {w : W} {v : V} (h : Rep K r H w v) (f : flatW w = true) : flatV v = true := by
  cases h <;> simp [flatW] at f <;> rfl
theorem eqF_rep {r : List Addr} {H : Hp} {w u : W} {v x : V} (h : Rep K r H w v) (g : Rep K r H u x) (f : flatW w = true) (f' : flatW u = true) : eqV v x = eqF w u := by
  cases h <;> simp [flatW] at f <;> cases g <;> simp [flatW] at f' <;> rfl
theorem any_rep {r : List Addr} {H : Hp} {u : W} {x : V} (g : Rep K r H u x) (f' : flatW u = true) : ∀ {ws : List W} {vs : List V}, Reps K r H ws vs → ws.all flatW = true → inV x vs = (ws.any fun w => eqF w u) ∧ vs.all flatV = true
  | [], _, h, _ => by cases h; exact ⟨rfl, rfl⟩
  | w :: ws, _, h, f => by
    cases h with
    | cons a b =>
      simp only [List.all_cons, Bool.and_eq_true] at f
      obtain ⟨q1, q2⟩ := any_rep g f' b f.2
      have q1 : List.any _ _ = _ := q1
      refine ⟨?_, by rw [List.all_cons, flat_rep a f.1, q2]; rfl⟩
      show List.any _ _ = _
      rw [List.any_cons, List.any_cons, q1, eqF_rep a g f.1 f']
def hasW (S : Sto) (a b : W) : Option Bool := match a, b with
  | .str x, .str y => some (!(Builtin.Str.occurrences y x 0 y.length 1).isEmpty)
  | a, .tup ys => if flatW a = true ∧ ys.all flatW = true then some (ys.any fun w => eqF w a) else none
  | a, .ref n => match S[n]? with
    | some (.lst ys) => (toD S 8 a).bind fun d => (mapO (toD S 7) ys).bind fun ds => some (ds.any fun z => PyData.eqv z d)
    | _ => none
  | _, _ => none
def inW (a b : W) (S : Sto) : Option (W × Sto) := (hasW S a b).bind fun k => some (.bl k, S)
def notInW (a b : W) (S : Sto) : Option (W × Sto) := (hasW S a b).bind fun k => some (.bl (!k), S)
abbrev rInA (K : PySem.W.Frag) : R2 := fun x y H Q => (∃ i j, x = .str i ∧ y = .str j ∧ Q (.bl (!(Builtin.Str.occurrences j i 0 j.length 1).isEmpty)) H) ∨ rIn K false x y H Q ∨ rInD K x y H Q
abbrev rNotInA (K : PySem.W.Frag) : R2 := fun x y H Q => (∃ i j, x = .str i ∧ y = .str j ∧ Q (.bl (!(!(Builtin.Str.occurrences j i 0 j.length 1).isEmpty))) H) ∨ rIn K true x y H Q ∨ rNotInD K x y H Q
theorem op_inA (hu : X.A.units + 65 < cLine) : OpR X (compareOp .In) (rInA X.K) := op_in_str.or (op_in_seq.or (op_inD hu))
theorem op_notInA (hu : X.A.units + 65 < cLine) : OpR X (compareOp .NotIn) (rNotInA X.K) := op_notin_str.or (op_notIn_seq.or (op_notInD hu))
theorem has_ok {r : List Addr} {S : Sto} {H : Hp} {x y : V} {wx wy : W} {b : Bool} (s : Sim K r S H) (rx : Rep K r H wx x) (ry : Rep K r H wy y) (e : hasW S wx wy = some b) :
    (∃ i j, x = .str i ∧ y = .str j ∧ b = !(Builtin.Str.occurrences j i 0 j.length 1).isEmpty) ∨ (∃ p xs, y = .ref p ∧ (SqL K H p xs ∨ SqT K H p xs) ∧ flatV x = true ∧ xs.all flatV = true ∧ b = inV x xs) ∨
      (∃ d ds, Dp K H x d ∧ Dp K H y (.list ds) ∧ SeqAt.shaped d = true ∧ SeqAt.shaped (.list ds) = true ∧ b = ds.any fun z => PyData.eqv z d) := by
  unfold hasW at e
  split at e
  · cases e
    cases rx; cases ry
    exact .inl ⟨_, _, rfl, rfl, rfl⟩
  · split at e
    · rename_i hf
      cases e
      obtain ⟨a, ys, rfl, h1, h2⟩ := ry.tupI
      obtain ⟨q1, q2⟩ := any_rep rx hf.1 h2 hf.2
      exact .inr (.inl ⟨a, ys, rfl, .inr h1, flat_rep rx hf.1, q2, q1.symm⟩)
    · cases e
  · split at e
    · rename_i hx
      obtain ⟨d, e1, e⟩ := bindS e
      obtain ⟨ds, e2, e⟩ := bindS e
      cases e
      obtain ⟨p1, p2, p3⟩ := toD_ok s 8 _ _ _ rx e1
      obtain ⟨q1, q2, q3⟩ := toD_ok s 8 _ _ (.list ds) ry (by simp only [toD]; rw [hx]; simp only; rw [e2]; rfl)
      refine .inr (.inr ⟨d, ds, p1, q1, ?_, ?_, rfl⟩)
      · unfold SeqAt.shaped; rw [p2, decide_eq_true (by omega)]; rfl
      · unfold SeqAt.shaped; rw [q2, decide_eq_true (by omega)]; rfl
    · cases e
  · cases e
theorem r_in : R2W K (rInA K) inW := by
  intro r S H x y wx wy w S' Q s rx ry e k
  obtain ⟨b, e1, e⟩ := bindS e
  cases e
  have q := KR.now k s (.bl b)
  rcases has_ok s rx ry e1 with ⟨i, j, h1, h2, rfl⟩ | ⟨p, xs, h1, h2, h3, h4, rfl⟩ | ⟨d, ds, h1, h2, h3, h4, rfl⟩
  · exact .inl ⟨i, j, h1, h2, q⟩
  · exact .inr (.inl ⟨p, xs, h1, h2, h3, h4, q⟩)
  · exact .inr (.inr ⟨d, ds, h1, h2, h3, h4, q⟩)
theorem r_notIn : R2W K (rNotInA K) notInW := by
  intro r S H x y wx wy w S' Q s rx ry e k
  obtain ⟨b, e1, e⟩ := bindS e
  cases e
  have q := KR.now k s (.bl (!b))
  rcases has_ok s rx ry e1 with ⟨i, j, h1, h2, rfl⟩ | ⟨p, xs, h1, h2, h3, h4, rfl⟩ | ⟨d, ds, h1, h2, h3, h4, rfl⟩
  · exact .inl ⟨i, j, h1, h2, q⟩
  · exact .inr (.inl ⟨p, xs, h1, h2, h3, h4, q⟩)
  · exact .inr (.inr ⟨d, ds, h1, h2, h3, h4, q⟩)
/-! ### list(), tuple(), sum, all, any -/
def listW : List W → Sto → Option (W × Sto)
  | [w], S => (seqOf S w).bind fun xs => some (.ref S.length, S ++ [.lst xs])
  | _, _ => none
theorem r_list : RnW K (fun xs H Q => ∃ p ys, xs = [.ref p] ∧ (SqL K H p ys ∨ SqT K H p ys) ∧ ∀ l, H l = none → Q (.ref l) (upd H l (.lst ys))) listW := by
  intro r S H xs ws w S' Q s rx e k
  unfold listW at e
  split at e
  · obtain ⟨ys, e1, e⟩ := bindS e
    cases e
    cases rx with
    | cons ra rb =>
      cases rb
      obtain ⟨a, zs, rfl, h1, h2⟩ := seqOf_ok s ra e1
      exact ⟨a, zs, rfl, h1, KR.lst k s h2⟩
  · cases e
def tupleW : List W → Sto → Option (W × Sto)
  | [.tup xs], S => some (.tup xs, S)
  | [.ref n], S => match S[n]? with | some (.lst xs) => some (.tup xs, S) | _ => none
  | _, _ => none
theorem r_tuple : RnW K (fun xs H Q => ∃ p ys, xs = [.ref p] ∧ ((SqL K H p ys ∧ ∀ l, H l = none → Q (.ref l) (upd H l (.tup ys))) ∨ (SqT K H p ys ∧ Q (.ref p) H))) tupleW := by
  intro r S H xs ws w S' Q s rx e k
  unfold tupleW at e
  split at e
  · cases e
    cases rx with
    | cons ra rb =>
      cases rb
      obtain ⟨a, zs, rfl, h1, h2⟩ := ra.tupI
      exact ⟨a, zs, rfl, .inr ⟨h1, KR.now k s ra⟩⟩
  · split at e
    · rename_i hx
      cases e
      cases rx with
      | cons ra rb =>
        cases rb
        obtain ⟨a, ys, rfl, _, h1, h2⟩ := ra.lstI s hx
        exact ⟨a, ys, rfl, .inl ⟨SqL.of h1, KR.tup k s h2⟩⟩
    · cases e
  · cases e
def intsOf : List W → Option (List Int)
  | [] => some []
  | .int i :: ws => (intsOf ws).bind fun is => some (i :: is)
  | _ => none
def bsOf : List W → Option (List Bool)
  | [] => some []
  | .bl i :: ws => (bsOf ws).bind fun is => some (i :: is)
  | _ => none
theorem intsOf_rep {r : List Addr} {H : Hp} : ∀ {ws : List W} {vs : List V} {is : List Int}, Reps K r H ws vs → intsOf ws = some is → vs = is.map V.int
  | [], _, _, h, e => by cases h; cases e; rfl
  | w :: ws, _, _, h, e => by
    cases h with
    | cons a b =>
      cases w <;> simp only [intsOf] at e <;> try (cases e)
      obtain ⟨js, e1, e⟩ := bindS e
      cases e
      cases a
      rw [intsOf_rep b e1]; rfl
theorem bsOf_rep {r : List Addr} {H : Hp} : ∀ {ws : List W} {vs : List V} {is : List Bool}, Reps K r H ws vs → bsOf ws = some is → vs = is.map V.bl
  | [], _, _, h, e => by cases h; cases e; rfl
  | w :: ws, _, _, h, e => by
    cases h with
    | cons a b =>
      cases w <;> simp only [bsOf] at e <;> try (cases e)
      obtain ⟨js, e1, e⟩ := bindS e
      cases e
      cases a
      rw [bsOf_rep b e1]; rfl
def lstOf (S : Sto) : W → Option (List W)
  | .fz xs => some xs
  | .ref n => match S[n]? with | some (.lst xs) => some xs | _ => none
  | _ => none
theorem lstOf_ok {r : List Addr} {S : Sto} {H : Hp} {w : W} {v : V} {xs : List W} (s : Sim K r S H) (h : Rep K r H w v) (e : lstOf S w = some xs) : ∃ a ys, v = .ref a ∧ SqL K H a ys ∧ Reps K r H xs ys := by
  cases w with
  | fz zs => cases e; obtain ⟨a, ys, rfl, h1, h2⟩ := h.fzI; exact ⟨a, ys, rfl, h1.sq, h2⟩
  | ref n =>
    simp only [lstOf] at e
    split at e
    · rename_i hx
      cases e
      obtain ⟨a, ys, rfl, _, h1, h2⟩ := h.lstI s hx
      exact ⟨a, ys, rfl, SqL.of h1, h2⟩
    · cases e
  | _ => cases e
def sumW : List W → Sto → Option (W × Sto)
  | [w], S => (lstOf S w).bind fun xs => (intsOf xs).bind fun is => some (.int is.sum, S)
  | _, _ => none
theorem r_sum : RnW K (rSum K) sumW := by
  intro r S H xs ws w S' Q s rx e k
  unfold sumW at e
  split at e
  · obtain ⟨ys, e1, e⟩ := bindS e
    obtain ⟨is, e2, e⟩ := bindS e
    cases e
    cases rx with
    | cons ra rb =>
      cases rb
      obtain ⟨a, zs, rfl, h1, h2⟩ := lstOf_ok s ra e1
      rw [intsOf_rep h2 e2] at h1
      exact ⟨a, is, rfl, h1, KR.now k s (.int _)⟩
  · cases e
def allW : List W → Sto → Option (W × Sto)
  | [w], S => (lstOf S w).bind fun xs => (bsOf xs).bind fun is => some (.bl (is.all id), S)
  | _, _ => none
def anyW : List W → Sto → Option (W × Sto)
  | [w], S => (lstOf S w).bind fun xs => (bsOf xs).bind fun is => some (.bl (is.any id), S)
  | _, _ => none
theorem r_all : RnW K (rAll K) allW := by
  intro r S H xs ws w S' Q s rx e k
  unfold allW at e
  split at e
  · obtain ⟨ys, e1, e⟩ := bindS e
    obtain ⟨is, e2, e⟩ := bindS e
    cases e
    cases rx with
    | cons ra rb =>
      cases rb
      obtain ⟨a, zs, rfl, h1, h2⟩ := lstOf_ok s ra e1
      rw [bsOf_rep h2 e2] at h1
      exact ⟨a, is, rfl, h1, KR.now k s (.bl _)⟩
  · cases e
theorem r_any : RnW K (rAny K) anyW := by
  intro r S H xs ws w S' Q s rx e k
  unfold anyW at e
  split at e
  · obtain ⟨ys, e1, e⟩ := bindS e
    obtain ⟨is, e2, e⟩ := bindS e
    cases e
    cases rx with
    | cons ra rb =>
      cases rb
      obtain ⟨a, zs, rfl, h1, h2⟩ := lstOf_ok s ra e1
      rw [bsOf_rep h2 e2] at h1
      exact ⟨a, is, rfl, h1, KR.now k s (.bl _)⟩
  · cases e
/-! ### methods -/
/-- a method of a list -/
def eMethL (o : W → List W → Sto → Option (W × Sto)) (g : Fe) (f : Fa) : Fe := fun e S => (g e S).bind fun q => (lstOf q.2 q.1).bind fun _ => (f e q.2).bind fun p => o q.1 p.1 p.2
def eMethL0 (o : W → List W → Sto → Option (W × Sto)) (g : Fe) : Fe := fun e S => (g e S).bind fun q => (lstOf q.2 q.1).bind fun _ => o q.1 [] q.2
theorem tyV_lst {H : Hp} {a : Addr} {ys : List V} (h : SqL K H a ys) : tyV K "list" (.ref a) H := .inl ⟨rfl, ys, h⟩
variable {a : Expr} {es : List Expr} {o : Expr} {f : Fe} {fa : Fa} {name : Str} {id : String} {Rm : V → List V → Hp → VK → Prop} {om : W → List W → Sto → Option (W × Sto)} {apos cpos : Pos}
theorem w_methL (pa : PlainAttrs "list") (slot : Slot "list" name id) (hty : typeOf (.builtin id) = pure (.type "method_descriptor")) (hm : MtR X id Rm) (hr : RmW X.K Rm om) (ho : PE X o (tE X.K f)) (ha : PA X (a :: es) (tA X.K fa))
    (hbase : attributeBase o name X.env (eval o X.env) = eval o X.env := by rfl)
    (hfew : ((backTo cpos (starEach (a :: es) X.env)).all (fun x => !x.1) && (backToKw cpos (keywordEach [] X.env)).all (fun x => x.1.isSome)
      && decide ((a :: es).length + ([] : List Keyword).length + (if ([] : List Keyword).isEmpty then 0 else 1) < 30)) = true := by rfl)
    (hline : (apos.endLine == cpos.line) = true := by rfl) (hs : starEach (a :: es) X.env = (false, eval a X.env) :: starEach es X.env := by rfl) (hplain : (backTo cpos (starEach es X.env)).any (·.1) = false := by rfl) :
    PE X (.Call (.Attribute o name apos) (a :: es) [] cpos) (tE X.K (eMethL om f fa)) := by
  refine pe_w (pe_bm pa slot hty hm ho ha hbase hfew hline hs hplain) fun σ H Q q => ?_
  obtain ⟨r, e, S, w, S', at_, hf, k⟩ := q
  obtain ⟨p, h1, hf⟩ := bindS hf
  obtain ⟨zs, h2, hf⟩ := bindS hf
  obtain ⟨p2, h3, hf⟩ := bindS hf
  refine ⟨r, e, S, p.1, p.2, at_, h1, fun r1 v1 H1 pr1 s1 k1 rep1 => ?_⟩
  obtain ⟨a, ys, rfl, q1, q2⟩ := lstOf_ok s1 rep1 h2
  refine ⟨tyV_lst q1, r1, e, p.2, p2.1, p2.2, at_.up pr1 s1 k1, h3, fun r2 v2 H2 pr2 s2 k2 rep2 => ?_⟩
  exact hr r2 p2.2 H2 _ v2 p.1 p2.1 w S' Q s2 (rep1.up pr2 k2) rep2 hf (KR.pre k (pr1.trans pr2) (k1.trans k2))
theorem w_methL0 (pa : PlainAttrs "list") (slot : Slot "list" name id) (hty : typeOf (.builtin id) = pure (.type "method_descriptor")) (hm : MtR X id Rm) (hr : RmW X.K Rm om) (ho : PE X o (tE X.K f))
    (hbase : attributeBase o name X.env (eval o X.env) = eval o X.env := by rfl) (hline : (apos.endLine == cpos.line) = true := by rfl) : PE X (.Call (.Attribute o name apos) [] [] cpos) (tE X.K (eMethL0 om f)) := by
  refine pe_w (pe_bm0 pa slot hty hm ho hbase hline) fun σ H Q q => ?_
  obtain ⟨r, e, S, w, S', at_, hf, k⟩ := q
  obtain ⟨p, h1, hf⟩ := bindS hf
  obtain ⟨zs, h2, hf⟩ := bindS hf
  refine ⟨r, e, S, p.1, p.2, at_, h1, fun r1 v1 H1 pr1 s1 k1 rep1 => ?_⟩
  obtain ⟨a, ys, rfl, q1, q2⟩ := lstOf_ok s1 rep1 h2
  exact ⟨tyV_lst q1, hr r1 p.2 H1 _ [] p.1 [] w S' Q s1 rep1 .nil hf (KR.pre k pr1 k1)⟩
def appendW : W → List W → Sto → Option (W × Sto)
  | .ref n, [v], S => match S[n]? with
    | some (.lst xs) => if xs.length < sizeLine then some (.non, S.set n (.lst (xs ++ [v]))) else none
    | _ => none
  | _, _, _ => none
theorem r_append : RmW K rAppend appendW := by
  intro r S H x xs wx ws w S' Q s rx rxs e k
  unfold appendW at e
  split at e
  · split at e
    · rename_i hx
      split at e
      · rename_i hl
        cases e
        obtain ⟨a, ys, rfl, hr, h1, h2⟩ := rx.lstI s hx
        cases rxs with
        | cons ra rb =>
          cases rb
          exact ⟨a, ys, _, rfl, rfl, h1, by rw [h2.length]; exact hl, KR.set k s hr (h2.append (Reps.one ra)) .non⟩
      · cases e
    · cases e
  · cases e
def extendW : W → List W → Sto → Option (W × Sto)
  | .ref n, [.ref m], S => match S[n]?, S[m]? with
    | some (.lst xs), some (.lst ys) => if xs.length + ys.length ≤ sizeLine then some (.non, S.set n (.lst (xs ++ ys))) else none
    | _, _ => none
  | _, _, _ => none
theorem r_extend : RmW K rExtend extendW := by
  intro r S H x xs wx ws w S' Q s rx rxs e k
  unfold extendW at e
  split at e
  · split at e
    · rename_i hx hy
      split at e
      · rename_i hl
        cases e
        obtain ⟨a, ys, rfl, hr, h1, h2⟩ := rx.lstI s hx
        cases rxs with
        | cons ra rb =>
          cases rb
          obtain ⟨b, zs, rfl, _, h3, h4⟩ := ra.lstI s hy
          exact ⟨a, b, ys, zs, rfl, rfl, h1, h3, by rw [h2.length, h4.length]; exact hl, KR.set k s hr (h2.append h4) .non⟩
      · cases e
    · cases e
  · cases e
end
end Bp

/-! Ev8: slices; a def of the text and its promise. -/
namespace Bp
set_option autoImplicit false
open PySem L2
section
variable {X : Cx} {K : PySem.W.Frag} {a b : Expr} {f g : Fe} {pos p2 : Pos}
abbrev Fo := En → Sto → Option (Option Int × Sto)
def tOw (K : PySem.W.Frag) (f : Fo) : TO := fun σ H Q => ∃ r e S b S', At K r e S σ H ∧ f e S = some (b, S') ∧ ∀ r' H', Pre r r' → Sim K r' S' H' → Kp K H H' → Q b H'
def oNone : Fo := fun _ S => some (none, S)
def oSome (f : Fe) : Fo := fun e S => (f e S).bind fun p => match p.1 with | .int i => some (some i, p.2) | _ => none
theorem wo_none : PO X none (tOw X.K oNone) := by
  have h := po_none (X := X)
  refine ⟨fun pins s σ H Q I q => h.run pins s σ H Q I ?_⟩
  obtain ⟨r, e, S, b, S', at_, hf, k⟩ := q
  cases hf
  exact k r H Pre.refl at_.sim Kp.refl
theorem wo_some (ha : PE X a (tE X.K f)) : PO X (some a) (tOw X.K (oSome f)) := by
  have h := po_some ha
  refine ⟨fun pins s σ H Q I q => h.run pins s σ H Q I ?_⟩
  obtain ⟨r, e, S, b, S', at_, hf, k⟩ := q
  obtain ⟨p, h1, hf⟩ := bindS hf
  refine ⟨r, e, S, p.1, p.2, at_, h1, fun r1 v1 H1 pr1 s1 k1 rep1 => ?_⟩
  split at hf
  · rename_i i hi
    cases hf
    rw [hi] at rep1
    cases rep1
    exact ⟨_, rfl, k r1 H1 pr1 s1 k1⟩
  · cases hf
def cutL {α : Type} (xs : List α) (lo hi : Option Int) : List α := (xs.drop (HT.sIx xs.length 0 lo)).take (HT.sIx xs.length xs.length hi - HT.sIx xs.length 0 lo)
def sliceW (w : W) (lo hi : Option Int) (S : Sto) : Option (W × Sto) := match w with
  | .str z => if z.length ≤ sizeLine then some (.str (cutS z lo hi), S) else none
  | .tup xs => if HT.sIx xs.length 0 lo = 0 ∧ HT.sIx xs.length xs.length hi = xs.length then none else some (.tup (cutL xs lo hi), S)
  | .fz xs => some (.ref S.length, S ++ [.lst (cutL xs lo hi)])
  | .ref n => match S[n]? with
    | some (.lst xs) => some (.ref S.length, S ++ [.lst (cutL xs lo hi)])
    | _ => none
  | _ => none
def eSlice (f : Fe) (lo hi : Fo) : Fe := fun e S => (f e S).bind fun p => (lo e p.2).bind fun l => (hi e l.2).bind fun h => sliceW p.1 l.1 h.1 h.2
theorem cut_rep {r : List Addr} {H : Hp} {xs : List W} {ys : List V} (h : Reps K r H xs ys) (lo hi : Option Int) : Reps K r H (cutL xs lo hi) (cutV ys lo hi) := by
  unfold cutL cutV
  rw [h.length]
  exact (h.drop _).take _
abbrev rSlA (K : PySem.W.Frag) : V → Option Int → Option Int → Hp → VK → Prop := fun x lo hi H Q => rSlL K x lo hi H Q ∨ rSlT K x lo hi H Q ∨ rSlS x lo hi H Q
theorem sl_all : SlR X (rSlA X.K) := sl_list.or (sl_tup.or sl_str)
theorem r_slice {r : List Addr} {S S' : Sto} {H : Hp} {w wx : W} {x : V} {lo hi : Option Int} {Q : VK} (s : Sim K r S H) (rx : Rep K r H wx x) (e : sliceW wx lo hi S = some (w, S')) (k : KR K r H S' w Q) : rSlA K x lo hi H Q := by
  cases wx with
  | str z =>
    simp only [sliceW] at e
    split at e
    · rename_i hl
      cases e
      cases rx
      exact .inr (.inr ⟨z, rfl, hl, KR.now k s (.str _)⟩)
    · cases e
  | tup xs =>
    simp only [sliceW] at e
    split at e
    · cases e
    · rename_i hn
      cases e
      obtain ⟨a, ys, rfl, h1, h2⟩ := rx.tupI
      exact .inr (.inl ⟨a, ys, rfl, h1, by rw [h2.length]; exact hn, KR.tup k s (cut_rep h2 lo hi)⟩)
  | fz xs =>
    simp only [sliceW] at e
    cases e
    obtain ⟨a, ys, rfl, h1, h2⟩ := rx.fzI
    exact .inl ⟨a, ys, rfl, h1.sq, KR.lst k s (cut_rep h2 lo hi)⟩
  | ref n =>
    simp only [sliceW] at e
    split at e
    · rename_i hx
      cases e
      obtain ⟨a, ys, rfl, _, h1, h2⟩ := rx.lstI s hx
      exact .inl ⟨a, ys, rfl, SqL.of h1, KR.lst k s (cut_rep h2 lo hi)⟩
    · cases e
  | _ => cases e
theorem w_slice {lo hi : Option Expr} {fl fh : Fo} (he : PE X a (tE X.K f)) (hl : PO X lo (tOw X.K fl)) (hu : PO X hi (tOw X.K fh)) : PE X (.Subscript a (.Slice lo hi none p2) pos) (tE X.K (eSlice f fl fh)) := by
  refine pe_w (pe_slice sl_all he hl hu) fun σ H Q q => ?_
  obtain ⟨r, e, S, w, S', at_, hf, k⟩ := q
  obtain ⟨p, h1, hf⟩ := bindS hf
  obtain ⟨l, h2, hf⟩ := bindS hf
  obtain ⟨h, h3, hf⟩ := bindS hf
  refine ⟨r, e, S, p.1, p.2, at_, h1, fun r1 v1 H1 pr1 s1 k1 rep1 => ⟨r1, e, p.2, l.1, l.2, at_.up pr1 s1 k1, h2, fun r2 H2 pr2 s2 k2 => ⟨r2, e, l.2, h.1, h.2, at_.up (pr1.trans pr2) s2 (k1.trans k2), h3, fun r3 H3 pr3 s3 k3 => ?_⟩⟩⟩
  exact r_slice s3 (rep1.up (pr2.trans pr3) (k2.trans k3)) hf (KR.pre k ((pr1.trans pr2).trans pr3) ((k1.trans k2).trans k3))
end
/-! ### a list's item, for x[i] op= e -/
def rIx0 (K : PySem.W.Frag) : R2 := fun x y H Q => ∃ p xs i v, x = .ref p ∧ y = .int i ∧ SqL K H p xs ∧ 0 ≤ i ∧ i < 2 ^ 63 ∧ xs[i.toNat]? = some v ∧ Q v H
theorem get_list {X : Cx} : PGet X (rIx0 X.K) := by
  intro pins s σ H o i ov iv Q I ro ri h
  obtain ⟨p, xs, k, v, rfl, rfl, hq, h0, h1, ha, q⟩ := h
  obtain ⟨t, rfl⟩ := ri
  cases ro
  obtain ⟨its, rv, pl, hz⟩ := I.list hq
  obtain ⟨u, hu, ru⟩ := rv.get ha
  exact wpAny_getItem_list pl.isList h0 h1 (by simpa using hu) ⟨v, H, I, ru, q⟩
def ix0W (a b : W) (S : Sto) : Option (W × Sto) := match b with
  | .int i => if 0 ≤ i ∧ i < 2 ^ 63 then (lstOf S a).bind fun xs => xs[i.toNat]?.bind fun w => some (w, S) else none
  | _ => none
theorem r_ix0 {K : PySem.W.Frag} : R2W K (rIx0 K) ix0W := by
  intro r S H x y wx wy w S' Q s rx ry e k
  unfold ix0W at e
  split at e
  · split at e
    · rename_i hb
      obtain ⟨xs, e1, e⟩ := bindS e
      obtain ⟨u, e2, e⟩ := bindS e
      cases e
      cases ry
      obtain ⟨a, ys, rfl, h1, h2⟩ := lstOf_ok s rx e1
      obtain ⟨v, h3, h4⟩ := h2.get e2
      exact ⟨a, ys, _, v, rfl, rfl, h1, hb.1, hb.2, h3, KR.now k s h4⟩
    · cases e
  · cases e
theorem r_ipadd {K : PySem.W.Frag} : R2W K (ipI fun i j => i + j) (iop0 fun i j => .int (i + j)) := by
  intro r S H x y wx wy w S' Q s rx ry e k
  unfold iop0 at e
  split at e
  · cases e
    cases rx; cases ry
    exact ⟨_, _, rfl, rfl, KR.now k s (.int _)⟩
  · cases e
/-! ### what was made within a def and is not reached is forgotten -/
mutual
def below (n : Nat) : W → Bool
  | .ref m => decide (m < n)
  | .tup xs => belows n xs
  | .fz xs => belows n xs
  | .non => true
  | .bl _ => true
  | .int _ => true
  | .str _ => true
  | .ty _ => true
def belows (n : Nat) : List W → Bool
  | [] => true
  | x :: xs => below n x && belows n xs
end
section
variable {K : PySem.W.Frag} {r r1 : List Addr} {H H1 : Hp} {S Y : Sto}
mutual
theorem Rep.shrink (hp : Pre r r1) : ∀ (w : W) (v : V), below r.length w = true → Rep K r1 H1 w v → Rep K r H1 w v
  | .non, _, _, h => by cases h; exact .non
  | .bl b, _, _, h => by cases h; exact .bl b
  | .int b, _, _, h => by cases h; exact .int b
  | .str b, _, _, h => by cases h; exact .str b
  | .ty b, _, _, h => by cases h; exact .ty b
  | .tup xs, _, hb, h => by
    cases h with
    | tup a b => exact .tup a (Reps.shrink hp xs _ (by simpa [below] using hb) b)
  | .fz xs, _, hb, h => by
    cases h with
    | fz a b => exact .fz a (Reps.shrink hp xs _ (by simpa [below] using hb) b)
  | .ref n, _, hb, h => by
    cases h with
    | ref a =>
      simp [below] at hb
      have q := hp n r[n] (by simp [hb])
      rw [a] at q
      cases q
      exact .ref (by simp [hb])
theorem Reps.shrink (hp : Pre r r1) : ∀ (ws : List W) (vs : List V), belows r.length ws = true → Reps K r1 H1 ws vs → Reps K r H1 ws vs
  | [], _, _, h => by cases h; exact .nil
  | w :: ws, _, hb, h => by
    simp [belows] at hb
    cases h with
    | cons a b => exact .cons (Rep.shrink hp w _ hb.1 a) (Reps.shrink hp ws _ hb.2 b)
end
mutual
theorem Rep.isBelow : ∀ (w : W) (v : V), Rep K r H w v → Bp.below r.length w = true
  | .non, _, _ => by simp [Bp.below]
  | .bl b, _, _ => by simp [Bp.below]
  | .int b, _, _ => by simp [Bp.below]
  | .str b, _, _ => by simp [Bp.below]
  | .ty b, _, _ => by simp [Bp.below]
  | .tup xs, _, h => by
    cases h with
    | tup a b => simp only [Bp.below]; exact Reps.isBelow xs _ b
  | .fz xs, _, h => by
    cases h with
    | fz a b => simp only [Bp.below]; exact Reps.isBelow xs _ b
  | .ref n, _, h => by
    cases h with
    | ref a => simp [Bp.below]; exact (List.getElem?_eq_some_iff.mp a).1
theorem Reps.isBelow : ∀ (ws : List W) (vs : List V), Reps K r H ws vs → belows r.length ws = true
  | [], _, _ => by simp [belows]
  | w :: ws, _, h => by
    cases h with
    | cons a b => simp [belows, Rep.isBelow w _ a, Reps.isBelow ws _ b]
end
theorem KReps.shrink {κ : Type} {H0 : Hp} (hp : Pre r r1) : ∀ {ws : List (κ × W)} {vs us : List (κ × V)}, KReps K r H0 ws us → KReps K r1 H1 ws vs → KReps K r H1 ws vs
  | _, _, _, .nil, .nil => .nil
  | _, _, _, .cons a b, .cons c d => .cons (Rep.shrink hp _ _ (Rep.isBelow _ _ a) c) (KReps.shrink hp b d)
theorem ORep.shrink {a : Addr} {o : O} (h : ORep K r H a o) (g : ORep K r1 H1 a o) (hp : Pre r r1) : ORep K r H1 a o := by
  cases o with
  | lst xs => obtain ⟨ys, _, q⟩ := h; obtain ⟨zs, e, q'⟩ := g; exact ⟨zs, e, Reps.shrink hp _ _ (Reps.isBelow _ _ q) q'⟩
  | dT xs => obtain ⟨ys, _, q⟩ := h; obtain ⟨zs, e, q'⟩ := g; exact ⟨zs, e, KReps.shrink hp q q'⟩
  | dK xs => obtain ⟨ys, _, q⟩ := h; obtain ⟨zs, e, q'⟩ := g; exact ⟨zs, e, KReps.shrink hp q q'⟩
  | ins C xs => obtain ⟨dx, ys, _, q⟩ := h; obtain ⟨dx', zs, e, q'⟩ := g; exact ⟨dx', zs, e, KReps.shrink hp q q'⟩
  | nd ks => exact g
theorem Sim.shrink (s : Sim K r S H) (s1 : Sim K r1 (S ++ Y) H1) (hp : Pre r r1) : Sim K r S H1 :=
  ⟨s.len, s.nd, fun i a o e1 e2 => (s.obj i a o e1 e2).shrink (s1.obj i a o (hp _ _ e1) (by rw [List.getElem?_append_left (List.getElem?_eq_some_iff.mp e2).1]; exact e2)) hp⟩
end
def belowK {κ : Type} (n : Nat) (kvs : List (κ × W)) : Bool := kvs.all fun p => below n p.2
def belowO (n : Nat) : O → Bool
  | .lst xs => belows n xs
  | .dT kvs => belowK n kvs
  | .dK kvs => belowK n kvs
  | .ins _ fs => belowK n fs
  | .nd _ => true
theorem KReps.cut {κ : Type} {K : PySem.W.Frag} {r r1 : List Addr} {H1 : Hp} (hp : Pre r r1) : ∀ {ws : List (κ × W)} {vs : List (κ × V)}, belowK r.length ws = true → KReps K r1 H1 ws vs → KReps K r H1 ws vs
  | _, _, _, .nil => .nil
  | _, _, hb, .cons c d => by
    simp only [belowK, List.all_cons, Bool.and_eq_true] at hb
    exact .cons (Rep.shrink hp _ _ hb.1 c) (KReps.cut hp hb.2 d)
theorem ORep.cut {K : PySem.W.Frag} {r r1 : List Addr} {H1 : Hp} {a : Addr} {o : O} (hb : belowO r.length o = true) (g : ORep K r1 H1 a o) (hp : Pre r r1) : ORep K r H1 a o := by
  cases o with
  | lst xs => obtain ⟨zs, e, q'⟩ := g; exact ⟨zs, e, Reps.shrink hp _ _ hb q'⟩
  | dT xs => obtain ⟨zs, e, q'⟩ := g; exact ⟨zs, e, KReps.cut hp hb q'⟩
  | dK xs => obtain ⟨zs, e, q'⟩ := g; exact ⟨zs, e, KReps.cut hp hb q'⟩
  | ins C xs => obtain ⟨dx', zs, e, q'⟩ := g; exact ⟨dx', zs, e, KReps.cut hp hb q'⟩
  | nd ks => exact g
/-- what a def's raw end comes to -/
inductive Gc (S : Sto) : W × Sto → W × Sto → Prop
  | same (p : W × Sto) : Gc S p p
  | val (w : W) (Y : Sto) (h : below S.length w = true) : Gc S (w, S ++ Y) (w, S)
  | upd (w : W) (S1 Y : Sto) (hl : S1.length = S.length) (hw : below S.length w = true) (hS : ∀ (i : Nat) o, S1[i]? = some o → belowO S.length o = true ∨ S[i]? = some o) : Gc S (w, S1 ++ Y) (w, S1)
  | lst (m : Nat) (Y : Sto) (xs : List W) (hm : S.length ≤ m) (hx : (S ++ Y)[m]? = some (.lst xs)) (h : belows S.length xs = true) : Gc S (.ref m, S ++ Y) (.ref S.length, S ++ [.lst xs])
theorem gc_kr {K : PySem.W.Frag} {r : List Addr} {H : Hp} {S : Sto} {Q : VK} (s : Sim K r S H) : ∀ {raw res : W × Sto}, Gc S raw res → KR K r H res.2 res.1 Q → KR K r H raw.2 raw.1 Q
  | _, _, .same p, k => k
  | _, _, .val w Y h, k => fun r1 v H1 p1 s1 k1 rep => by
    have := s.len
    exact k r v H1 Pre.refl (s.shrink s1 p1) k1 (Rep.shrink p1 _ _ (by rw [this]; exact h) rep)
  | _, _, .upd w S1 Y hl hw hS, k => fun r1 v H1 p1 s1 k1 rep => by
    have hr := s.len
    refine k r v H1 Pre.refl ⟨by rw [hr, hl], s.nd, fun i a o e1 e2 => ?_⟩ k1 (Rep.shrink p1 _ _ (by rw [hr]; exact hw) rep)
    have g := s1.obj i a o (p1 _ _ e1) (by rw [List.getElem?_append_left (List.getElem?_eq_some_iff.mp e2).1]; exact e2)
    rcases hS i o e2 with q | q
    · exact ORep.cut (by rw [hr]; exact q) g p1
    · exact (s.obj i a o e1 q).shrink g p1
  | _, _, .lst m Y xs hm hx h, k => fun r1 v H1 p1 s1 k1 rep => by
    have hl := s.len
    cases rep with
    | ref hr =>
      rename_i a
      obtain ⟨ys, e1, e2⟩ := s1.obj _ _ _ hr hx
      have ss := s.shrink s1 p1
      have out : ∀ i : Nat, r[i]? ≠ some a := fun i e => by
        have q := s1.nd i m a (p1 _ _ e) hr
        have := (List.getElem?_eq_some_iff.mp e).1
        omega
      have h2 : Reps K r H1 xs ys := Reps.shrink p1 _ _ (by rw [hl]; exact h) e2
      refine k (r ++ [a]) (.ref a) H1 Pre.app ⟨by simp [hl], fun i j b q1 q2 => ?_, fun i b o q1 q2 => ?_⟩ k1 (.ref (by rw [← hl]; simp))
      · rw [List.getElem?_append] at q1 q2
        split at q1 <;> split at q2
        · exact s.nd i j b q1 q2
        · have z := List.mem_of_getElem? q2
          simp at z; subst z; exact absurd q1 (out i)
        · have z := List.mem_of_getElem? q1
          simp at z; subst z; exact absurd q2 (out j)
        · have z1 := (List.getElem?_eq_some_iff.mp q1).1
          have z2 := (List.getElem?_eq_some_iff.mp q2).1
          simp at z1 z2
          omega
      · by_cases hi : i < r.length
        · rw [List.getElem?_append_left hi] at q1
          rw [List.getElem?_append_left (by rw [← hl]; exact hi)] at q2
          exact (ss.obj i b o q1 q2).up Pre.app Kp.refl rfl
        · rw [List.getElem?_append_right (by omega)] at q1
          rw [List.getElem?_append_right (by rw [← hl]; omega)] at q2
          have z1 := List.mem_of_getElem? q1
          have z2 := List.mem_of_getElem? q2
          simp at z1 z2
          subst z1; subst z2
          exact ⟨ys, e1, h2.up Pre.app Kp.refl⟩
/-- G tells what the raw body comes to -/
def Tells (n : Nat) (b : Fs) (G : Fn) : Prop := ∀ ws S r, G ws S = some r → ∃ raw, fnB n b ws S = some raw ∧ Gc S raw r
theorem tells_read {K : PySem.W.Frag} {vs : List V} {H : Hp} {Q : VK} {E : XK} {N : List Str} {b : Fs} {G : Fn} (t : Tells N.length b G) (h : spF K G vs H Q E) : tS K b { nx := fun _ H' => Q .non H', rt := Q } (L2.start N vs) H := by
  obtain ⟨r, ws, S, w, S', s, rep, hf, k⟩ := h
  obtain ⟨⟨w1, S1⟩, h1, h2⟩ := t ws S _ hf
  exact fn_read (E := E) ⟨r, ws, S, w1, S1, s, rep, h1, gc_kr s h2 k⟩
/-! ### a def -/
abbrev FnP (K : PySem.W.Frag) (x : Str) (st : Stmt) (f : Addr) (fd : FuncData) : Prop := FunD K x x (defArgs st) (defBody st) (defScope st) [] [] f fd
theorem fn_ok {P : Program} {w : World} {K : PySem.W.Frag} {mg : Str → Option Value} {base : Heap} {f : Addr} {fd : FuncData} {x : Str} {st : Stmt} {N ps : List Str} {k : Nat} {b : Fs} {G : Fn} (F : FnP K x st f fd) (Sc : FnScope N ps (defScope st)) (t : Tells N.length b G) (hG : ∀ ws S r, G ws S = some r → ws.length = ps.length)
    (hb : ∀ (cdv : Value) (A : Around) (outer : List Env) (s : Shared) (H : Hp) (E : XK), Room k (A.deeper (PyProof.Rows.envOfC x (defScope st) s.heap.objs.size f cdv)) → PSs (cxOf CX0 P w K mg base N x (defScope st) f cdv A outer s H E).nox (defBody st) (tS K b)) :
    FnOk P w K mg base CX0 (k + 1) f fd ps (spF K G) := by
  refine F.ok Sc (fun vs H Q E h => ?_) (fun cdv A outer s H vs Q E hr h => ⟨tS K b, PSs.nox (hb cdv A outer s H E hr), tells_read (E := E) t h⟩)
  obtain ⟨r, ws, S, w, S', _, rep, hf, _⟩ := h
  rw [rep.length]
  exact hG _ _ _ hf
/-- a def at hand: where it stands, what it promises -/
def Cal (P : Program) (w : World) (K : PySem.W.Frag) (mg : Str → Option Value) (base : Heap) (k : Nat) (x : Str) (ps : List Str) (G : Fn) : Prop :=
  ∃ f fd, FnOk P w K mg base CX0 k f fd ps (spF K G) ∧ mg x = some (.ref f) ∧ PySem.W.keepIn K (.ref f) = true ∧ Binds K fd ps []
theorem w_callC {X : Cx} {a : Expr} {es : List Expr} {fa : Fa} {p pos : Pos} {k : Nat} {x : Str} {ps : List Str} {G : Fn} (C : Cal X.prog X.w X.K X.mg X.base k x ps G) (hr : Room k X.A) (hg : Gl X x)
    (ha : PA X (a :: es) (tA X.K fa)) (hdb : (x == ("__debug__" : Str)) = false := by decide) (he : starEach (a :: es) X.env = (false, eval a X.env) :: starEach es X.env := by rfl) (hpl : (backTo pos (starEach es X.env)).any (·.1) = false := by rfl) :
    PE X (.Call (.Name x p) (a :: es) [] pos) (tE X.K (eCall G fa)) := by
  obtain ⟨f, fd, h1, h2, h3, h4⟩ := C
  exact w_call h1 hr hg h2 h3 h4 ha hdb he hpl
theorem u65 {k : Nat} {A : Around} (r : Room k A) : A.units + 65 < cLine := by have := r.un; omega
end Bp

/-! Ev9: x += e for ints and texts. -/
namespace Bp
set_option autoImplicit false
open PySem L2
abbrev rIpA : TIp := fun x y H Q => (ipI (fun i j => i + j) x y H Q) ∨ (∃ i j, x = .str i ∧ y = .str j ∧ i.length + j.length ≤ sizeLine ∧ Q (.str (i ++ j)) H)
theorem ip_addA {X : Cx} : PIp X .Add rIpA := by
  intro pins s σ H x y v u Q I r1 r2 h
  rcases h with h | h
  · exact ip_add pins s σ H x y v u Q I r1 r2 h
  · exact iop_add_str pins s σ H x y v u Q I r1 r2 h
def augW : W → W → Sto → Option (W × Sto)
  | .int i, .int j, S => some (.int (i + j), S)
  | .str x, .str y, S => if x.length + y.length ≤ sizeLine then some (.str (x ++ y), S) else none
  | _, _, _ => none
theorem r_aug {K : PySem.W.Frag} : R2W K rIpA augW := by
  intro r S H x y wx wy w S' Q s rx ry e k
  unfold augW at e
  split at e
  · cases e
    cases rx; cases ry
    exact .inl ⟨_, _, rfl, rfl, KR.now k s (.int _)⟩
  · split at e
    · rename_i hl
      cases e
      cases rx; cases ry
      exact .inr ⟨_, _, rfl, rfl, hl, KR.now k s (.str _)⟩
    · cases e
  · cases e
end Bp

/-! Bas: small words used by several texts. -/
namespace Bp
set_option autoImplicit false
open PySem L2
theorem intsW_succ (lo : Int) (n : Nat) : intsW lo (n + 1) = .int lo :: intsW (lo + 1) n := by
  unfold intsW
  rw [List.range_succ_eq_map, List.map_cons, List.map_map]
  congr 1
  · simp
  · apply List.map_congr_left
    intro i _
    simp only [Function.comp]
    congr 1
    have : ((Nat.succ i : Nat) : Int) = (i : Int) + 1 := by omega
    omega
theorem intsW_zero (lo : Int) : intsW lo 0 = [] := rfl
theorem range2_of {fa : Fa} {e : En} {S S' : Sto} {i j : Int} (h : fa e S = some ([.int i, .int j], S')) (z : -(2 ^ 62) ≤ i ∧ i < 2 ^ 62 ∧ -(2 ^ 62) ≤ j ∧ j < 2 ^ 62) : iRange2 fa e S = some (⟨intsW i (j - i).toNat, fun _ => True⟩, S') := by
  unfold iRange2
  rw [h]
  exact if_pos z
theorem range1_of {fa : Fa} {e : En} {S S' : Sto} {j : Int} (h : fa e S = some ([.int j], S')) (z : -(2 ^ 62) ≤ j ∧ j < 2 ^ 62) : iRange1 fa e S = some (⟨intsW 0 j.toNat, fun _ => True⟩, S') := by
  unfold iRange1
  rw [h]
  exact if_pos z
theorem seq_next {s t : Fs} {e e' : En} {S S' : Sto} (h : s e S = some (.next e', S')) : sSeq s t e S = t e' S' := by simp only [sSeq, h, Option.bind_some]
theorem seq_trans {s t : Fs} {e e' : En} {S S' : Sto} {R : Option (Out × Sto)} (h : s e S = some (.next e', S')) (k : t e' S' = R) : sSeq s t e S = R := by rw [seq_next h]; exact k
theorem fnB_ret {n : Nat} {b : Fs} {ws : List W} {S S' : Sto} {w : W} (h : b (en n ws) S = some (.ret w, S')) : fnB n b ws S = some (w, S') := by simp only [fnB, h, Option.bind_some]
/-- the last item -/
theorem ix_last {S : Sto} {n : Nat} {xs : List W} {v : W} (h : S[n]? = some (.lst (xs ++ [v]))) : ixW (.ref n) (.int (-1)) S = some (v, S) := by
  simp only [ixW, seqOf, h, Option.bind_some, atI_last]
theorem bNeg : -(1 : Int) = -1 := rfl
theorem str_app_e (z : Str) : (z ++ ("" : Str)) = z := by
  show Str.append _ _ = _
  unfold Str.append
  cases z
  simp [Str.ofString]
  rfl
theorem str_e (z : Str) : (("" : Str) ++ z) = z := by
  show Str.append _ _ = _
  unfold Str.append
  cases z
  simp [Str.ofString]
  rfl
end Bp

/-! Pg1: the program's small defs: what they are worth. -/
namespace Bp
set_option autoImplicit false
open PySem L2
/-! ### the words of the evaluation -/
theorem isi_int_int (i : Int) (S : Sto) : isiW [.int i, .ty "int"] S = some (.bl true, S) := rfl
theorem isi_int_bool (i : Int) (S : Sto) : isiW [.int i, .ty "bool"] S = some (.bl false, S) := rfl
theorem isi_bl_int (i : Bool) (S : Sto) : isiW [.bl i, .ty "int"] S = some (.bl true, S) := rfl
theorem isi_bl_bool (i : Bool) (S : Sto) : isiW [.bl i, .ty "bool"] S = some (.bl true, S) := rfl
theorem isi_non_int (S : Sto) : isiW [.non, .ty "int"] S = some (.bl false, S) := rfl
theorem isi_str_int (x : Str) (S : Sto) : isiW [.str x, .ty "int"] S = some (.bl false, S) := rfl
theorem isi_tup_int (x : List W) (S : Sto) : isiW [.tup x, .ty "int"] S = some (.bl false, S) := rfl
theorem isi_tup_tup (x : List W) (S : Sto) : isiW [.tup x, .ty "tuple"] S = some (.bl true, S) := rfl
theorem sz_le {n : Nat} (h : n ≤ 10000) : n ≤ sizeLine := Nat.le_trans h (by decide)
theorem eq_int (i j : Int) (S : Sto) : eqW (.int i) (.int j) S = some (.bl (decide (i = j)), S) := by
  have : (i == j) = decide (i = j) := by by_cases h : i = j <;> simp [h]
  simp [eqW, eqvW, toD, PyData.eqv, this]
theorem ne_int (i j : Int) (S : Sto) : neW (.int i) (.int j) S = some (.bl (!decide (i = j)), S) := by
  have : (i == j) = decide (i = j) := by by_cases h : i = j <;> simp [h]
  simp [neW, eqvW, toD, PyData.eqv, this]
theorem tup_le {α : Type} {xs : List α} {f g : Option α} : True := trivial
@[reducible] def fr (p : Int × Int) : W := .tup [.int p.1, .int p.2]
theorem eq_fr (p q : Int × Int) (S : Sto) : eqW (fr p) (fr q) S = some (.bl (decide (p = q)), S) := by
  have : (p.1 == q.1 && p.2 == q.2) = decide (p = q) := by
    obtain ⟨a, b⟩ := p; obtain ⟨c, d⟩ := q
    by_cases h1 : a = c <;> by_cases h2 : b = d <;> simp [h1, h2]
  simp [eqW, eqvW, toD, mapO, PyData.eqv, PyData.eqvAll, this]
theorem ne_fr (p q : Int × Int) (S : Sto) : neW (fr p) (fr q) S = some (.bl (!decide (p = q)), S) := by
  have : (p.1 == q.1 && p.2 == q.2) = decide (p = q) := by
    obtain ⟨a, b⟩ := p; obtain ⟨c, d⟩ := q
    by_cases h1 : a = c <;> by_cases h2 : b = d <;> simp [h1, h2]
  simp [neW, eqvW, toD, mapO, PyData.eqv, PyData.eqvAll, this]
theorem ix_p0 (a b : W) (S : Sto) : ixW (.tup [a, b]) (.int 0) S = some (a, S) := rfl
theorem ix_p1 (a b : W) (S : Sto) : ixW (.tup [a, b]) (.int 1) S = some (b, S) := rfl
theorem ix_r0 (a b c d e f : W) (S : Sto) : ixW (.tup [a, b, c, d, e, f]) (.int 0) S = some (a, S) := rfl
theorem ix_r1 (a b c d e f : W) (S : Sto) : ixW (.tup [a, b, c, d, e, f]) (.int 1) S = some (b, S) := rfl
theorem ix_r2 (a b c d e f : W) (S : Sto) : ixW (.tup [a, b, c, d, e, f]) (.int 2) S = some (c, S) := rfl
theorem ix_r3 (a b c d e f : W) (S : Sto) : ixW (.tup [a, b, c, d, e, f]) (.int 3) S = some (d, S) := rfl
theorem ix_r4 (a b c d e f : W) (S : Sto) : ixW (.tup [a, b, c, d, e, f]) (.int 4) S = some (e, S) := rfl
theorem ix_r5 (a b c d e f : W) (S : Sto) : ixW (.tup [a, b, c, d, e, f]) (.int 5) S = some (f, S) := rfl
theorem len_p (a b : W) (S : Sto) : lenW [.tup [a, b]] S = some (.int 2, S) := rfl
theorem len_6 (a b c d e f : W) (S : Sto) : lenW [.tup [a, b, c, d, e, f]] S = some (.int 6, S) := rfl
theorem len_l1 (S : Sto) (xs : List W) : lenW [.fz xs] S = some (.int (xs.length : Nat), S) := rfl
theorem len_lst {S : Sto} {n : Nat} {xs : List W} (h : S[n]? = some (.lst xs)) : lenW [.ref n] S = some (.int (xs.length : Nat), S) := by
  simp only [lenW, seqOf, h, Option.bind_some]
theorem ix_lst {S : Sto} {n : Nat} {xs : List W} {k : Nat} {w : W} (h : S[n]? = some (.lst xs)) (hk : xs[k]? = some w) : ixW (.ref n) (.int (k : Nat)) S = some (w, S) := by
  simp only [ixW, seqOf, h, Option.bind_some, atI_nat hk]
theorem ix_tupn {S : Sto} {xs : List W} {k : Nat} {w : W} (hk : xs[k]? = some w) : ixW (.tup xs) (.int (k : Nat)) S = some (w, S) := by
  simp only [ixW, seqOf, Option.bind_some, atI_nat hk]
theorem s1 : (1 : Nat) ≤ sizeLine := sz_le (by decide)
theorem s2 : (2 : Nat) ≤ sizeLine := sz_le (by decide)
theorem s3 : (3 : Nat) ≤ sizeLine := sz_le (by decide)
theorem s4 : (4 : Nat) ≤ sizeLine := sz_le (by decide)
theorem s6 : (6 : Nat) ≤ sizeLine := sz_le (by decide)
theorem s0 : (0 : Nat) ≤ sizeLine := sz_le (by decide)
theorem eTup2 {f g : Fe} {e : En} {S S1 S2 : Sto} {v w : W} (h1 : f e S = some (v, S1)) (h2 : g e S1 = some (w, S2)) : eTup (aCons f (aCons g aNil)) e S = some (.tup [v, w], S2) := by
  simp [eTup, aCons, aNil, h1, h2, s2]
/-! ### is_count, is_run, need_run, need_time -/
/-- is_count(value, least, most); slots 0:value 1:least 2:most -/
noncomputable def b_is_count : Fs := sRet (eAnd (eCall isiW (aCons (eVar 0) (aCons (eC (.ty "int")) (aNil)))) (eAnd (eNot (eCall isiW (aCons (eVar 0) (aCons (eC (.ty "bool")) (aNil))))) (eChain leW leW (eVar 1) (eVar 0) (eVar 2))))
def G_is_count : Fn
  | [.int i, .int lo, .int hi], S => some (.bl (decide (lo ≤ i ∧ i ≤ hi)), S)
  | [.bl _, .int _, .int _], S => some (.bl false, S)
  | [.non, .int _, .int _], S => some (.bl false, S)
  | [.str _, .int _, .int _], S => some (.bl false, S)
  | [.tup _, .int _, .int _], S => some (.bl false, S)
  | _, _ => none
theorem t_is_count : Tells 3 b_is_count G_is_count := by
  intro ws S r h
  refine ⟨r, ?_, .same _⟩
  unfold b_is_count
  unfold G_is_count at h
  split at h <;> cases h
  · rename_i i lo hi
    simp only [fnB, en, List.map_cons, List.map_nil, List.length_cons, List.length_nil, List.replicate_succ, List.replicate_zero, List.cons_append, List.nil_append, List.append_nil, List.getElem?_cons_zero, List.getElem?_cons_succ, List.set_cons_zero, List.set_cons_succ,  Nat.zero_add, Nat.reduceAdd, Nat.reduceSub, Nat.sub_self, Nat.reduceEqDiff,  eVar, eC, eOp, eUn, aNil, aCons, eTup, eLst, eCall, eIf, eAnd, eOr, eNot, tVal, tAndW, tOrW, tNotW, eChain, sNext, sBrk, sCnt, sNever, sSeq, sRet, sRetN, sDrop, sIf, sAsg, sPar, sPar3, gN, gsNil, gsCons, gTupW, Option.bind_some, Option.bind_none,  s0, s1, s2, s3, s4, s6, subW, ltW, leW, gtW, geW, iop0, iop, modW, fdivW, powW, addW, mulW, negW, isi_int_int, isi_int_bool, isi_bl_int, isi_bl_bool, isi_non_int, isi_str_int, isi_tup_int, isi_tup_tup, eq_int, ne_int, len_p, len_6, len_l1, decide_true, decide_false, Int.reduceEq, Int.reduceNeg, absW, minW, ix_p0, ix_p1, ix_r0, ix_r1, ix_r2, ix_r3, ix_r4, ix_r5, if_true, if_false, ite_true, ite_false, Bool.not_true, Bool.not_false, Bool.false_eq_true, reduceIte, ↓reduceIte]
    by_cases h1 : lo ≤ i <;> by_cases h2 : i ≤ hi <;> simp [h1, h2]
  all_goals simp only [fnB, en, List.map_cons, List.map_nil, List.length_cons, List.length_nil, List.replicate_succ, List.replicate_zero, List.cons_append, List.nil_append, List.append_nil, List.getElem?_cons_zero, List.getElem?_cons_succ, List.set_cons_zero, List.set_cons_succ,  Nat.zero_add, Nat.reduceAdd, Nat.reduceSub, Nat.sub_self, Nat.reduceEqDiff,  eVar, eC, eOp, eUn, aNil, aCons, eTup, eLst, eCall, eIf, eAnd, eOr, eNot, tVal, tAndW, tOrW, tNotW, eChain, sNext, sBrk, sCnt, sNever, sSeq, sRet, sRetN, sDrop, sIf, sAsg, sPar, sPar3, gN, gsNil, gsCons, gTupW, Option.bind_some, Option.bind_none,  s0, s1, s2, s3, s4, s6, subW, ltW, leW, gtW, geW, iop0, iop, modW, fdivW, powW, addW, mulW, negW, isi_int_int, isi_int_bool, isi_bl_int, isi_bl_bool, isi_non_int, isi_str_int, isi_tup_int, isi_tup_tup, eq_int, ne_int, len_p, len_6, len_l1, decide_true, decide_false, Int.reduceEq, Int.reduceNeg, absW, minW, ix_p0, ix_p1, ix_r0, ix_r1, ix_r2, ix_r3, ix_r4, ix_r5, if_true, if_false, ite_true, ite_false, Bool.not_true, Bool.not_false, Bool.false_eq_true, reduceIte, ↓reduceIte]
theorem l_is_count : ∀ ws S r, G_is_count ws S = some r → ws.length = 3 := by
  intro ws S r h
  unfold G_is_count at h
  split at h <;> first | rfl | cases h
/-- a run -/
@[reducible] def runW (w h x y a b : Int) : W := .tup [.int w, .int h, .int x, .int y, .int a, .int b]
def okRun (w h x y a b : Int) : Prop := (1 ≤ w ∧ w ≤ 12) ∧ (1 ≤ h ∧ h ≤ 12) ∧ (0 ≤ x ∧ x ≤ w) ∧ (0 ≤ y ∧ y ≤ h) ∧ (-6 ≤ a ∧ a ≤ 6) ∧ (-6 ≤ b ∧ b ≤ 6) ∧ ¬ (a = 0 ∧ b = 0)
instance (w h x y a b : Int) : Decidable (okRun w h x y a b) := inferInstanceAs (Decidable (_ ∧ _))
/-- is_run(value); slots 0:value 1:w 2:h 3:x 4:y 5:a 6:b -/
noncomputable def b_is_run : Fs := sSeq (sIf (tOrW (tNotW (tVal (eCall isiW (aCons (eVar 0) (aCons (eC (.ty "tuple")) (aNil)))))) (tVal (eOp neW (eCall lenW (aCons (eVar 0) (aNil))) (eC (.int 6))))) (sRet (eC (.bl false))) (sNext)) (sSeq (sAsg (eVar 0) (gTupW 6 (gsCons (gN 1) (gsCons (gN 2) (gsCons (gN 3) (gsCons (gN 4) (gsCons (gN 5) (gsCons (gN 6) (gsNil))))))))) (sSeq (sIf (tOrW (tNotW (tVal (eCall G_is_count (aCons (eVar 1) (aCons (eC (.int 1)) (aCons (eC (.int 12)) (aNil))))))) (tOrW (tNotW (tVal (eCall G_is_count (aCons (eVar 2) (aCons (eC (.int 1)) (aCons (eC (.int 12)) (aNil))))))) (tOrW (tNotW (tVal (eCall G_is_count (aCons (eVar 3) (aCons (eC (.int 0)) (aCons (eVar 1) (aNil))))))) (tNotW (tVal (eCall G_is_count (aCons (eVar 4) (aCons (eC (.int 0)) (aCons (eVar 2) (aNil)))))))))) (sRet (eC (.bl false))) (sNext)) (sRet (eAnd (eCall G_is_count (aCons (eVar 5) (aCons (eUn negW (eC (.int 6))) (aCons (eC (.int 6)) (aNil))))) (eAnd (eCall G_is_count (aCons (eVar 6) (aCons (eUn negW (eC (.int 6))) (aCons (eC (.int 6)) (aNil))))) (eOp neW (eTup (aCons (eVar 5) (aCons (eVar 6) (aNil)))) (eTup (aCons (eC (.int 0)) (aCons (eC (.int 0)) (aNil))))))))))
def G_is_run : Fn
  | [.tup [.int w, .int h, .int x, .int y, .int a, .int b]], S => some (.bl (decide (okRun w h x y a b)), S)
  | _, _ => none
theorem ne_pair (a b c d : Int) (S : Sto) : neW (.tup [.int a, .int b]) (.tup [.int c, .int d]) S = some (.bl (!decide (a = c ∧ b = d)), S) := by
  have h := ne_fr (a, b) (c, d) S
  simp only [Prod.mk.injEq] at h
  exact h
theorem t_is_run : Tells 7 b_is_run G_is_run := by
  intro ws S r h
  refine ⟨r, ?_, .same _⟩
  unfold b_is_run
  unfold G_is_run at h
  split at h <;> cases h
  rename_i w h x y a b
  by_cases h1 : 1 ≤ w ∧ w ≤ 12
  case neg => simp only [okRun, h1, false_and, decide_false]; simp only [fnB, en, List.map_cons, List.map_nil, List.length_cons, List.length_nil, List.replicate_succ, List.replicate_zero, List.cons_append, List.nil_append, List.append_nil, List.getElem?_cons_zero, List.getElem?_cons_succ, List.set_cons_zero, List.set_cons_succ,  Nat.zero_add, Nat.reduceAdd, Nat.reduceSub, Nat.sub_self, Nat.reduceEqDiff,  eVar, eC, eOp, eUn, aNil, aCons, eTup, eLst, eCall, eIf, eAnd, eOr, eNot, tVal, tAndW, tOrW, tNotW, eChain, sNext, sBrk, sCnt, sNever, sSeq, sRet, sRetN, sDrop, sIf, sAsg, sPar, sPar3, gN, gsNil, gsCons, gTupW, Option.bind_some, Option.bind_none,  s0, s1, s2, s3, s4, s6, subW, ltW, leW, gtW, geW, iop0, iop, modW, fdivW, powW, addW, mulW, negW, isi_int_int, isi_int_bool, isi_bl_int, isi_bl_bool, isi_non_int, isi_str_int, isi_tup_int, isi_tup_tup, eq_int, ne_int, len_p, len_6, len_l1, decide_true, decide_false, Int.reduceEq, Int.reduceNeg, absW, minW, ix_p0, ix_p1, ix_r0, ix_r1, ix_r2, ix_r3, ix_r4, ix_r5, if_true, if_false, ite_true, ite_false, Bool.not_true, Bool.not_false, Bool.false_eq_true, reduceIte, ↓reduceIte]; simp [G_is_count, h1]
  by_cases h2 : 1 ≤ h ∧ h ≤ 12
  case neg => simp only [okRun, h1, h2, false_and, and_false, decide_false]; simp only [fnB, en, List.map_cons, List.map_nil, List.length_cons, List.length_nil, List.replicate_succ, List.replicate_zero, List.cons_append, List.nil_append, List.append_nil, List.getElem?_cons_zero, List.getElem?_cons_succ, List.set_cons_zero, List.set_cons_succ,  Nat.zero_add, Nat.reduceAdd, Nat.reduceSub, Nat.sub_self, Nat.reduceEqDiff,  eVar, eC, eOp, eUn, aNil, aCons, eTup, eLst, eCall, eIf, eAnd, eOr, eNot, tVal, tAndW, tOrW, tNotW, eChain, sNext, sBrk, sCnt, sNever, sSeq, sRet, sRetN, sDrop, sIf, sAsg, sPar, sPar3, gN, gsNil, gsCons, gTupW, Option.bind_some, Option.bind_none,  s0, s1, s2, s3, s4, s6, subW, ltW, leW, gtW, geW, iop0, iop, modW, fdivW, powW, addW, mulW, negW, isi_int_int, isi_int_bool, isi_bl_int, isi_bl_bool, isi_non_int, isi_str_int, isi_tup_int, isi_tup_tup, eq_int, ne_int, len_p, len_6, len_l1, decide_true, decide_false, Int.reduceEq, Int.reduceNeg, absW, minW, ix_p0, ix_p1, ix_r0, ix_r1, ix_r2, ix_r3, ix_r4, ix_r5, if_true, if_false, ite_true, ite_false, Bool.not_true, Bool.not_false, Bool.false_eq_true, reduceIte, ↓reduceIte]; simp [G_is_count, h1, h2]
  by_cases h3 : 0 ≤ x ∧ x ≤ w
  case neg => simp only [okRun, h1, h2, h3, false_and, and_false, decide_false]; simp only [fnB, en, List.map_cons, List.map_nil, List.length_cons, List.length_nil, List.replicate_succ, List.replicate_zero, List.cons_append, List.nil_append, List.append_nil, List.getElem?_cons_zero, List.getElem?_cons_succ, List.set_cons_zero, List.set_cons_succ,  Nat.zero_add, Nat.reduceAdd, Nat.reduceSub, Nat.sub_self, Nat.reduceEqDiff,  eVar, eC, eOp, eUn, aNil, aCons, eTup, eLst, eCall, eIf, eAnd, eOr, eNot, tVal, tAndW, tOrW, tNotW, eChain, sNext, sBrk, sCnt, sNever, sSeq, sRet, sRetN, sDrop, sIf, sAsg, sPar, sPar3, gN, gsNil, gsCons, gTupW, Option.bind_some, Option.bind_none,  s0, s1, s2, s3, s4, s6, subW, ltW, leW, gtW, geW, iop0, iop, modW, fdivW, powW, addW, mulW, negW, isi_int_int, isi_int_bool, isi_bl_int, isi_bl_bool, isi_non_int, isi_str_int, isi_tup_int, isi_tup_tup, eq_int, ne_int, len_p, len_6, len_l1, decide_true, decide_false, Int.reduceEq, Int.reduceNeg, absW, minW, ix_p0, ix_p1, ix_r0, ix_r1, ix_r2, ix_r3, ix_r4, ix_r5, if_true, if_false, ite_true, ite_false, Bool.not_true, Bool.not_false, Bool.false_eq_true, reduceIte, ↓reduceIte]; simp [G_is_count, h1, h2, h3]
  by_cases h4 : 0 ≤ y ∧ y ≤ h
  case neg => simp only [okRun, h1, h2, h3, h4, false_and, and_false, decide_false]; simp only [fnB, en, List.map_cons, List.map_nil, List.length_cons, List.length_nil, List.replicate_succ, List.replicate_zero, List.cons_append, List.nil_append, List.append_nil, List.getElem?_cons_zero, List.getElem?_cons_succ, List.set_cons_zero, List.set_cons_succ,  Nat.zero_add, Nat.reduceAdd, Nat.reduceSub, Nat.sub_self, Nat.reduceEqDiff,  eVar, eC, eOp, eUn, aNil, aCons, eTup, eLst, eCall, eIf, eAnd, eOr, eNot, tVal, tAndW, tOrW, tNotW, eChain, sNext, sBrk, sCnt, sNever, sSeq, sRet, sRetN, sDrop, sIf, sAsg, sPar, sPar3, gN, gsNil, gsCons, gTupW, Option.bind_some, Option.bind_none,  s0, s1, s2, s3, s4, s6, subW, ltW, leW, gtW, geW, iop0, iop, modW, fdivW, powW, addW, mulW, negW, isi_int_int, isi_int_bool, isi_bl_int, isi_bl_bool, isi_non_int, isi_str_int, isi_tup_int, isi_tup_tup, eq_int, ne_int, len_p, len_6, len_l1, decide_true, decide_false, Int.reduceEq, Int.reduceNeg, absW, minW, ix_p0, ix_p1, ix_r0, ix_r1, ix_r2, ix_r3, ix_r4, ix_r5, if_true, if_false, ite_true, ite_false, Bool.not_true, Bool.not_false, Bool.false_eq_true, reduceIte, ↓reduceIte]; simp [G_is_count, h1, h2, h3, h4]
  simp only [fnB, en, List.map_cons, List.map_nil, List.length_cons, List.length_nil, List.replicate_succ, List.replicate_zero, List.cons_append, List.nil_append, List.append_nil, List.getElem?_cons_zero, List.getElem?_cons_succ, List.set_cons_zero, List.set_cons_succ,  Nat.zero_add, Nat.reduceAdd, Nat.reduceSub, Nat.sub_self, Nat.reduceEqDiff,  eVar, eC, eOp, eUn, aNil, aCons, eTup, eLst, eCall, eIf, eAnd, eOr, eNot, tVal, tAndW, tOrW, tNotW, eChain, sNext, sBrk, sCnt, sNever, sSeq, sRet, sRetN, sDrop, sIf, sAsg, sPar, sPar3, gN, gsNil, gsCons, gTupW, Option.bind_some, Option.bind_none,  s0, s1, s2, s3, s4, s6, subW, ltW, leW, gtW, geW, iop0, iop, modW, fdivW, powW, addW, mulW, negW, isi_int_int, isi_int_bool, isi_bl_int, isi_bl_bool, isi_non_int, isi_str_int, isi_tup_int, isi_tup_tup, eq_int, ne_int, len_p, len_6, len_l1, decide_true, decide_false, Int.reduceEq, Int.reduceNeg, absW, minW, ix_p0, ix_p1, ix_r0, ix_r1, ix_r2, ix_r3, ix_r4, ix_r5, if_true, if_false, ite_true, ite_false, Bool.not_true, Bool.not_false, Bool.false_eq_true, reduceIte, ↓reduceIte]
  simp only [G_is_count, h1, h2, h3, h4, and_self, decide_true, Option.bind_some, Bool.not_true, Bool.false_eq_true, if_false, List.getElem?_cons_zero, List.getElem?_cons_succ]
  by_cases h5 : -6 ≤ a ∧ a ≤ 6
  case neg => simp [okRun, h1, h2, h3, h4, h5]
  by_cases h6 : -6 ≤ b ∧ b ≤ 6
  case neg => simp [okRun, h1, h2, h3, h4, h5, h6]
  simp [okRun, h1, h2, h3, h4, h5, h6, s2, ne_pair]
theorem l_is_run : ∀ ws S r, G_is_run ws S = some r → ws.length = 1 := by
  intro ws S r h
  unfold G_is_run at h
  split at h <;> first | rfl | cases h
/-- need_run(value); slots 0:value -/
noncomputable def b_need_run : Fs := sIf (tNotW (tVal (eCall G_is_run (aCons (eVar 0) (aNil))))) (sNever) (sNext)
def G_need_run : Fn
  | [.tup [.int w, .int h, .int x, .int y, .int a, .int b]], S => if okRun w h x y a b then some (.non, S) else none
  | _, _ => none
theorem t_need_run : Tells 1 b_need_run G_need_run := by
  intro ws S r h
  refine ⟨r, ?_, .same _⟩
  unfold b_need_run
  unfold G_need_run at h
  split at h
  · split at h
    · rename_i hk
      cases h
      simp only [fnB, en, List.map_cons, List.map_nil, List.length_cons, List.length_nil, List.replicate_succ, List.replicate_zero, List.cons_append, List.nil_append, List.append_nil, List.getElem?_cons_zero, List.getElem?_cons_succ, List.set_cons_zero, List.set_cons_succ,  Nat.zero_add, Nat.reduceAdd, Nat.reduceSub, Nat.sub_self, Nat.reduceEqDiff,  eVar, eC, eOp, eUn, aNil, aCons, eTup, eLst, eCall, eIf, eAnd, eOr, eNot, tVal, tAndW, tOrW, tNotW, eChain, sNext, sBrk, sCnt, sNever, sSeq, sRet, sRetN, sDrop, sIf, sAsg, sPar, sPar3, gN, gsNil, gsCons, gTupW, Option.bind_some, Option.bind_none,  s0, s1, s2, s3, s4, s6, subW, ltW, leW, gtW, geW, iop0, iop, modW, fdivW, powW, addW, mulW, negW, isi_int_int, isi_int_bool, isi_bl_int, isi_bl_bool, isi_non_int, isi_str_int, isi_tup_int, isi_tup_tup, eq_int, ne_int, len_p, len_6, len_l1, decide_true, decide_false, Int.reduceEq, Int.reduceNeg, absW, minW, ix_p0, ix_p1, ix_r0, ix_r1, ix_r2, ix_r3, ix_r4, ix_r5, if_true, if_false, ite_true, ite_false, Bool.not_true, Bool.not_false, Bool.false_eq_true, reduceIte, ↓reduceIte]
      simp [G_is_run, hk]
    · cases h
  · cases h
theorem l_need_run : ∀ ws S r, G_need_run ws S = some r → ws.length = 1 := by
  intro ws S r h
  unfold G_need_run at h
  split at h <;> first | rfl | cases h
/-- need_time(value); slots 0:value -/
noncomputable def b_need_time : Fs := sSeq (sIf (tOrW (tNotW (tVal (eCall isiW (aCons (eVar 0) (aCons (eC (.ty "tuple")) (aNil)))))) (tVal (eOp neW (eCall lenW (aCons (eVar 0) (aNil))) (eC (.int 2))))) (sNever) (sNext)) (sIf (tOrW (tNotW (tVal (eCall G_is_count (aCons (eOp ixW (eVar 0) (eC (.int 0))) (aCons (eC (.int 0)) (aCons (eC (.int 1000000)) (aNil))))))) (tNotW (tVal (eCall G_is_count (aCons (eOp ixW (eVar 0) (eC (.int 1))) (aCons (eC (.int 1)) (aCons (eC (.int 1000)) (aNil)))))))) (sNever) (sNext))
def okTime (p q : Int) : Prop := (0 ≤ p ∧ p ≤ 1000000) ∧ (1 ≤ q ∧ q ≤ 1000)
instance (p q : Int) : Decidable (okTime p q) := inferInstanceAs (Decidable (_ ∧ _))
def G_need_time : Fn
  | [.tup [.int p, .int q]], S => if okTime p q then some (.non, S) else none
  | _, _ => none
theorem t_need_time : Tells 1 b_need_time G_need_time := by
  intro ws S r h
  refine ⟨r, ?_, .same _⟩
  unfold b_need_time
  unfold G_need_time at h
  split at h
  · split at h
    · rename_i hk
      cases h
      simp only [fnB, en, List.map_cons, List.map_nil, List.length_cons, List.length_nil, List.replicate_succ, List.replicate_zero, List.cons_append, List.nil_append, List.append_nil, List.getElem?_cons_zero, List.getElem?_cons_succ, List.set_cons_zero, List.set_cons_succ,  Nat.zero_add, Nat.reduceAdd, Nat.reduceSub, Nat.sub_self, Nat.reduceEqDiff,  eVar, eC, eOp, eUn, aNil, aCons, eTup, eLst, eCall, eIf, eAnd, eOr, eNot, tVal, tAndW, tOrW, tNotW, eChain, sNext, sBrk, sCnt, sNever, sSeq, sRet, sRetN, sDrop, sIf, sAsg, sPar, sPar3, gN, gsNil, gsCons, gTupW, Option.bind_some, Option.bind_none,  s0, s1, s2, s3, s4, s6, subW, ltW, leW, gtW, geW, iop0, iop, modW, fdivW, powW, addW, mulW, negW, isi_int_int, isi_int_bool, isi_bl_int, isi_bl_bool, isi_non_int, isi_str_int, isi_tup_int, isi_tup_tup, eq_int, ne_int, len_p, len_6, len_l1, decide_true, decide_false, Int.reduceEq, Int.reduceNeg, absW, minW, ix_p0, ix_p1, ix_r0, ix_r1, ix_r2, ix_r3, ix_r4, ix_r5, if_true, if_false, ite_true, ite_false, Bool.not_true, Bool.not_false, Bool.false_eq_true, reduceIte, ↓reduceIte]
      simp [G_is_count, hk.1, hk.2]
    · cases h
  · cases h
theorem l_need_time : ∀ ws S r, G_need_time ws S = some r → ws.length = 1 := by
  intro ws S r h
  unfold G_need_time at h
  split at h <;> first | rfl | cases h
end Bp

/-! Pg2: common_of, lowest, least_multiple, fold, place_at, place, period_of, period. -/
namespace Bp
set_option autoImplicit false
open PySem L2
/-! ### the greatest common divisor -/
/-- common_of(one, two); slots 0:one 1:two -/
noncomputable def b_common_of : Fs := sSeq (sPar 0 1 (aCons (eCall absW (aCons (eVar 0) (aNil))) (aCons (eCall absW (aCons (eVar 1) (aNil))) (aNil)))) (sSeq (sWhile (tVal (eOp gtW (eVar 1) (eC (.int 0)))) (sPar 0 1 (aCons (eVar 1) (aCons (eOp modW (eVar 0) (eVar 1)) (aNil))))) (sRet (eVar 0)))
def big : Nat := 2 ^ 1000
theorem big_lt {i : Int} (h : i.natAbs < 2 ^ 64) : i.natAbs < big := Nat.lt_trans h (by unfold big; decide)
def gcdC : Ft := tVal (eOp gtW (eVar 1) (eC (.int 0)))
def gcdB : Fs := sPar 0 1 (aCons (eVar 1) (aCons (eOp modW (eVar 0) (eVar 1)) (aNil)))
theorem gcd_loop (S : Sto) : ∀ (q p : Nat), ∃ n, n ≤ q + 1 ∧ whileF gcdC gcdB n [some (.int (p : Nat)), some (.int (q : Nat))] S = some (.next [some (.int ((Nat.gcd p q : Nat) : Int)), some (.int 0)], S) := by
  intro q
  induction q using Nat.strongRecOn with
  | _ q ih =>
    intro p
    cases q with
    | zero =>
      refine ⟨1, by omega, ?_⟩
      rw [whileF_succ]
      unfold gcdC
      simp only [fnB, en, List.map_cons, List.map_nil, List.length_cons, List.length_nil, List.replicate_succ, List.replicate_zero, List.cons_append, List.nil_append, List.append_nil, List.getElem?_cons_zero, List.getElem?_cons_succ, List.set_cons_zero, List.set_cons_succ,  Nat.zero_add, Nat.reduceAdd, Nat.reduceSub, Nat.sub_self, Nat.reduceEqDiff,  eVar, eC, eOp, eUn, aNil, aCons, eTup, eLst, eCall, eIf, eAnd, eOr, eNot, tVal, tAndW, tOrW, tNotW, eChain, sNext, sBrk, sCnt, sNever, sSeq, sRet, sRetN, sDrop, sIf, sAsg, sPar, sPar3, gN, gsNil, gsCons, gTupW, Option.bind_some, Option.bind_none,  s0, s1, s2, s3, s4, s6, subW, ltW, leW, gtW, geW, iop0, iop, modW, fdivW, powW, addW, mulW, negW, isi_int_int, isi_int_bool, isi_bl_int, isi_bl_bool, isi_non_int, isi_str_int, isi_tup_int, isi_tup_tup, eq_int, ne_int, len_p, len_6, len_l1, decide_true, decide_false, Int.reduceEq, Int.reduceNeg, absW, minW, ix_p0, ix_p1, ix_r0, ix_r1, ix_r2, ix_r3, ix_r4, ix_r5, if_true, if_false, ite_true, ite_false, Bool.not_true, Bool.not_false, Bool.false_eq_true, reduceIte, ↓reduceIte]
      simp
    | succ q =>
      obtain ⟨n, h1, h2⟩ := ih (p % (q + 1)) (Nat.mod_lt _ (by omega)) (q + 1)
      refine ⟨n + 1, by have := Nat.mod_lt p (show 0 < q + 1 by omega); omega, ?_⟩
      rw [whileF_succ]
      have e1 : gcdC [some (.int (p : Nat)), some (.int ((q + 1 : Nat) : Int))] S = some (true, S) := by
        unfold gcdC
        simp only [fnB, en, List.map_cons, List.map_nil, List.length_cons, List.length_nil, List.replicate_succ, List.replicate_zero, List.cons_append, List.nil_append, List.append_nil, List.getElem?_cons_zero, List.getElem?_cons_succ, List.set_cons_zero, List.set_cons_succ,  Nat.zero_add, Nat.reduceAdd, Nat.reduceSub, Nat.sub_self, Nat.reduceEqDiff,  eVar, eC, eOp, eUn, aNil, aCons, eTup, eLst, eCall, eIf, eAnd, eOr, eNot, tVal, tAndW, tOrW, tNotW, eChain, sNext, sBrk, sCnt, sNever, sSeq, sRet, sRetN, sDrop, sIf, sAsg, sPar, sPar3, gN, gsNil, gsCons, gTupW, Option.bind_some, Option.bind_none,  s0, s1, s2, s3, s4, s6, subW, ltW, leW, gtW, geW, iop0, iop, modW, fdivW, powW, addW, mulW, negW, isi_int_int, isi_int_bool, isi_bl_int, isi_bl_bool, isi_non_int, isi_str_int, isi_tup_int, isi_tup_tup, eq_int, ne_int, len_p, len_6, len_l1, decide_true, decide_false, Int.reduceEq, Int.reduceNeg, absW, minW, ix_p0, ix_p1, ix_r0, ix_r1, ix_r2, ix_r3, ix_r4, ix_r5, if_true, if_false, ite_true, ite_false, Bool.not_true, Bool.not_false, Bool.false_eq_true, reduceIte, ↓reduceIte]
        have : (0 : Int) < ((q + 1 : Nat) : Int) := by omega
        simp only [this, decide_true]
      have e2 : gcdB [some (.int (p : Nat)), some (.int ((q + 1 : Nat) : Int))] S = some (.next [some (.int ((q + 1 : Nat) : Int)), some (.int ((p % (q + 1) : Nat) : Int))], S) := by
        unfold gcdB
        simp only [fnB, en, List.map_cons, List.map_nil, List.length_cons, List.length_nil, List.replicate_succ, List.replicate_zero, List.cons_append, List.nil_append, List.append_nil, List.getElem?_cons_zero, List.getElem?_cons_succ, List.set_cons_zero, List.set_cons_succ,  Nat.zero_add, Nat.reduceAdd, Nat.reduceSub, Nat.sub_self, Nat.reduceEqDiff,  eVar, eC, eOp, eUn, aNil, aCons, eTup, eLst, eCall, eIf, eAnd, eOr, eNot, tVal, tAndW, tOrW, tNotW, eChain, sNext, sBrk, sCnt, sNever, sSeq, sRet, sRetN, sDrop, sIf, sAsg, sPar, sPar3, gN, gsNil, gsCons, gTupW, Option.bind_some, Option.bind_none,  s0, s1, s2, s3, s4, s6, subW, ltW, leW, gtW, geW, iop0, iop, modW, fdivW, powW, addW, mulW, negW, isi_int_int, isi_int_bool, isi_bl_int, isi_bl_bool, isi_non_int, isi_str_int, isi_tup_int, isi_tup_tup, eq_int, ne_int, len_p, len_6, len_l1, decide_true, decide_false, Int.reduceEq, Int.reduceNeg, absW, minW, ix_p0, ix_p1, ix_r0, ix_r1, ix_r2, ix_r3, ix_r4, ix_r5, if_true, if_false, ite_true, ite_false, Bool.not_true, Bool.not_false, Bool.false_eq_true, reduceIte, ↓reduceIte]
        have h0 : ((q + 1 : Nat) : Int) ≠ 0 := by omega
        have h3 : Int.fmod (p : Int) ((q + 1 : Nat) : Int) = ((p % (q + 1) : Nat) : Int) := by
          rw [Int.fmod_eq_emod_of_nonneg _ (by omega)]; rfl
        simp only [h0, ne_eq, not_false_eq_true, if_true, h3, Option.bind_some]
      rw [e1]
      simp only [Option.bind_some, if_true]
      rw [e2]
      simp only [Option.bind_some]
      rw [h2, Nat.gcd_comm p, Nat.gcd_rec (q + 1) p, Nat.gcd_comm (q + 1)]
theorem gcd_run (a b : Int) (S : Sto) (h : b.natAbs < big) : fnB 2 (sSeq (sPar 0 1 (aCons (eCall absW (aCons (eVar 0) (aNil))) (aCons (eCall absW (aCons (eVar 1) (aNil))) (aNil)))) (sSeq (sWhile gcdC gcdB) (sRet (eVar 0)))) [.int a, .int b] S = some (.int (Int.gcd a b : Nat), S) := by
  have ab : ∀ i : Int, (if i < 0 then -i else i) = (i.natAbs : Nat) := fun i => by split <;> omega
  obtain ⟨n, h1, h2⟩ := gcd_loop S b.natAbs a.natAbs
  have h3 := sWhile_of h2 (show n ≤ FU from Nat.le_trans h1 (by unfold big at h; unfold FU; have : (2 : Nat) ^ 1000 ≤ 2 ^ 4000 := Nat.pow_le_pow_right (by decide) (by decide); omega))
  simp only [fnB, en, List.map_cons, List.map_nil, List.length_cons, List.length_nil, List.replicate_succ, List.replicate_zero, List.cons_append, List.nil_append, List.append_nil, List.getElem?_cons_zero, List.getElem?_cons_succ, List.set_cons_zero, List.set_cons_succ,  Nat.zero_add, Nat.reduceAdd, Nat.reduceSub, Nat.sub_self, Nat.reduceEqDiff,  eVar, eC, eOp, eUn, aNil, aCons, eTup, eLst, eCall, eIf, eAnd, eOr, eNot, tVal, tAndW, tOrW, tNotW, eChain, sNext, sBrk, sCnt, sNever, sSeq, sRet, sRetN, sDrop, sIf, sAsg, sPar, sPar3, gN, gsNil, gsCons, gTupW, Option.bind_some, Option.bind_none,  s0, s1, s2, s3, s4, s6, subW, ltW, leW, gtW, geW, iop0, iop, modW, fdivW, powW, addW, mulW, negW, isi_int_int, isi_int_bool, isi_bl_int, isi_bl_bool, isi_non_int, isi_str_int, isi_tup_int, isi_tup_tup, eq_int, ne_int, len_p, len_6, len_l1, decide_true, decide_false, Int.reduceEq, Int.reduceNeg, absW, minW, ix_p0, ix_p1, ix_r0, ix_r1, ix_r2, ix_r3, ix_r4, ix_r5, if_true, if_false, ite_true, ite_false, Bool.not_true, Bool.not_false, Bool.false_eq_true, reduceIte, ↓reduceIte]
  simp only [ab, h3, Option.bind_some, List.getElem?_cons_zero]
  rfl
def G_common_of : Fn
  | [.int a, .int b], S => if b.natAbs < big then some (.int (Int.gcd a b : Nat), S) else none
  | _, _ => none
theorem t_common_of : Tells 2 b_common_of G_common_of := by
  intro ws S r h
  refine ⟨r, ?_, .same _⟩
  unfold G_common_of at h
  split at h
  · split at h
    · rename_i hb
      cases h
      exact gcd_run _ _ S hb
    · cases h
  · cases h
theorem l_common_of : ∀ ws S r, G_common_of ws S = some r → ws.length = 2 := by
  intro ws S r h
  unfold G_common_of at h
  split at h <;> first | rfl | cases h
/-! ### lowest terms -/
/-- lowest(numerator, denominator); slots 0:numerator 1:denominator 2:common -/
noncomputable def b_lowest : Fs := sSeq (sAsg (eCall G_common_of (aCons (eVar 0) (aCons (eVar 1) (aNil)))) (gN 2)) (sSeq (sIf (tVal (eOp ltW (eVar 1) (eC (.int 0)))) (sAsg (eUn negW (eVar 2)) (gN 2)) (sNext)) (sRet (eTup (aCons (eOp fdivW (eVar 0) (eVar 2)) (aCons (eOp fdivW (eVar 1) (eVar 2)) (aNil))))))
def low (n d : Int) : Int × Int := if d < 0 then (n.fdiv (-(Int.gcd n d : Nat)), d.fdiv (-(Int.gcd n d : Nat))) else (n.fdiv (Int.gcd n d : Nat), d.fdiv (Int.gcd n d : Nat))
def G_lowest : Fn
  | [.int n, .int d], S => if d ≠ 0 ∧ d.natAbs < big then some (fr (low n d), S) else none
  | _, _ => none
theorem okDiv_of {j : Int} (h : j ≠ 0) (hb : j.natAbs < big) : okDiv j := ⟨h, Nat.lt_of_lt_of_le hb (by unfold big; exact Nat.pow_le_pow_right (by decide) (by decide))⟩
theorem gcd_pos {n d : Int} (h : d ≠ 0) : 0 < Int.gcd n d := Nat.pos_of_ne_zero fun z => h (Int.gcd_eq_zero_iff.mp z).2
theorem gcd_le {n d : Int} (h : d ≠ 0) : Int.gcd n d ≤ d.natAbs := Nat.gcd_le_right _ (by omega)
theorem t_lowest : Tells 3 b_lowest G_lowest := by
  intro ws S r h
  refine ⟨r, ?_, .same _⟩
  unfold b_lowest
  unfold G_lowest at h
  split at h
  · split at h
    · rename_i n d hb
      cases h
      have gp := gcd_pos (n := n) hb.1
      have gl := gcd_le (n := n) hb.1
      have k1 : okDiv (Int.gcd n d : Nat) := okDiv_of (by omega) (by simp only [Int.natAbs_natCast]; omega)
      have k2 : okDiv (-(Int.gcd n d : Nat)) := okDiv_of (by omega) (by rw [Int.natAbs_neg]; simp only [Int.natAbs_natCast]; omega)
      simp only [fnB, en, List.map_cons, List.map_nil, List.length_cons, List.length_nil, List.replicate_succ, List.replicate_zero, List.cons_append, List.nil_append, List.append_nil, List.getElem?_cons_zero, List.getElem?_cons_succ, List.set_cons_zero, List.set_cons_succ,  Nat.zero_add, Nat.reduceAdd, Nat.reduceSub, Nat.sub_self, Nat.reduceEqDiff,  eVar, eC, eOp, eUn, aNil, aCons, eTup, eLst, eCall, eIf, eAnd, eOr, eNot, tVal, tAndW, tOrW, tNotW, eChain, sNext, sBrk, sCnt, sNever, sSeq, sRet, sRetN, sDrop, sIf, sAsg, sPar, sPar3, gN, gsNil, gsCons, gTupW, Option.bind_some, Option.bind_none,  s0, s1, s2, s3, s4, s6, subW, ltW, leW, gtW, geW, iop0, iop, modW, fdivW, powW, addW, mulW, negW, isi_int_int, isi_int_bool, isi_bl_int, isi_bl_bool, isi_non_int, isi_str_int, isi_tup_int, isi_tup_tup, eq_int, ne_int, len_p, len_6, len_l1, decide_true, decide_false, Int.reduceEq, Int.reduceNeg, absW, minW, ix_p0, ix_p1, ix_r0, ix_r1, ix_r2, ix_r3, ix_r4, ix_r5, if_true, if_false, ite_true, ite_false, Bool.not_true, Bool.not_false, Bool.false_eq_true, reduceIte, ↓reduceIte]
      simp only [G_common_of, hb.2, if_true, Option.bind_some]
      by_cases hd : d < 0
      · simp [hd, k2, s2, low]
      · simp [hd, k1, s2, low]
    · cases h
  · cases h
theorem l_lowest : ∀ ws S r, G_lowest ws S = some r → ws.length = 2 := by
  intro ws S r h
  unfold G_lowest at h
  split at h <;> first | rfl | cases h
/-- least_multiple(one, two); slots 0:one 1:two 2:top -/
noncomputable def b_least_multiple : Fs := sSeq (sAsg (eOp fdivW (eOp mulW (eOp ixW (eVar 0) (eC (.int 0))) (eOp ixW (eVar 1) (eC (.int 0)))) (eCall G_common_of (aCons (eOp ixW (eVar 0) (eC (.int 0))) (aCons (eOp ixW (eVar 1) (eC (.int 0))) (aNil))))) (gN 2)) (sRet (eCall G_lowest (aCons (eVar 2) (aCons (eCall G_common_of (aCons (eOp ixW (eVar 0) (eC (.int 1))) (aCons (eOp ixW (eVar 1) (eC (.int 1))) (aNil)))) (aNil)))))
def lm (p q : Int × Int) : Int × Int := low ((p.1 * q.1).fdiv (Int.gcd p.1 q.1 : Nat)) (Int.gcd p.2 q.2 : Nat)
def G_least_multiple : Fn
  | [.tup [.int a, .int b], .tup [.int c, .int d]], S => if a.natAbs < 2 ^ 64 ∧ c ≠ 0 ∧ c.natAbs < big ∧ d ≠ 0 ∧ d.natAbs < big then some (fr (lm (a, b) (c, d)), S) else none
  | _, _ => none
theorem t_least_multiple : Tells 3 b_least_multiple G_least_multiple := by
  intro ws S r h
  refine ⟨r, ?_, .same _⟩
  unfold b_least_multiple
  unfold G_least_multiple at h
  split at h
  · split at h
    · rename_i a b c d hb
      cases h
      obtain ⟨h1, h2, h3, h4, h5⟩ := hb
      have gp := gcd_pos (n := a) h2
      have gl := gcd_le (n := a) h2
      have gp2 := gcd_pos (n := b) h4
      have gl2 := gcd_le (n := b) h4
      have k1 : okDiv (Int.gcd a c : Nat) := okDiv_of (by omega) (by simp only [Int.natAbs_natCast]; omega)
      have k2 : okMul a c := .inl h1
      have k3 : ((Int.gcd b d : Nat) : Int) ≠ 0 := by omega
      have k4 : ((Int.gcd b d : Nat) : Int).natAbs < big := by simp only [Int.natAbs_natCast]; omega
      simp only [fnB, en, List.map_cons, List.map_nil, List.length_cons, List.length_nil, List.replicate_succ, List.replicate_zero, List.cons_append, List.nil_append, List.append_nil, List.getElem?_cons_zero, List.getElem?_cons_succ, List.set_cons_zero, List.set_cons_succ,  Nat.zero_add, Nat.reduceAdd, Nat.reduceSub, Nat.sub_self, Nat.reduceEqDiff,  eVar, eC, eOp, eUn, aNil, aCons, eTup, eLst, eCall, eIf, eAnd, eOr, eNot, tVal, tAndW, tOrW, tNotW, eChain, sNext, sBrk, sCnt, sNever, sSeq, sRet, sRetN, sDrop, sIf, sAsg, sPar, sPar3, gN, gsNil, gsCons, gTupW, Option.bind_some, Option.bind_none,  s0, s1, s2, s3, s4, s6, subW, ltW, leW, gtW, geW, iop0, iop, modW, fdivW, powW, addW, mulW, negW, isi_int_int, isi_int_bool, isi_bl_int, isi_bl_bool, isi_non_int, isi_str_int, isi_tup_int, isi_tup_tup, eq_int, ne_int, len_p, len_6, len_l1, decide_true, decide_false, Int.reduceEq, Int.reduceNeg, absW, minW, ix_p0, ix_p1, ix_r0, ix_r1, ix_r2, ix_r3, ix_r4, ix_r5, if_true, if_false, ite_true, ite_false, Bool.not_true, Bool.not_false, Bool.false_eq_true, reduceIte, ↓reduceIte, G_common_of, G_lowest, ne_eq, not_false_eq_true, and_self, and_false, false_and, true_and, and_true, *]
      rfl
    · cases h
  · cases h
theorem l_least_multiple : ∀ ws S r, G_least_multiple ws S = some r → ws.length = 2 := by
  intro ws S r h
  unfold G_least_multiple at h
  split at h <;> first | rfl | cases h
/-! ### fold -/
/-- fold(value, side); slots 0:value 1:side 2:rest -/
noncomputable def b_fold : Fs := sSeq (sAsg (eOp modW (eOp ixW (eVar 0) (eC (.int 0))) (eOp mulW (eOp mulW (eC (.int 2)) (eVar 1)) (eOp ixW (eVar 0) (eC (.int 1))))) (gN 2)) (sRet (eCall G_lowest (aCons (eCall minW (aCons (eVar 2) (aCons (eOp subW (eOp mulW (eOp mulW (eC (.int 2)) (eVar 1)) (eOp ixW (eVar 0) (eC (.int 1)))) (eVar 2)) (aNil)))) (aCons (eOp ixW (eVar 0) (eC (.int 1))) (aNil)))))
def foldI (z m : Int) : Int := if 2 * m - z % (2 * m) < z % (2 * m) then 2 * m - z % (2 * m) else z % (2 * m)
def G_fold : Fn
  | [.tup [.int z, .int q], .int m], S => if 0 < m ∧ m < 2 ^ 60 ∧ 0 < q ∧ q.natAbs < big then some (fr (low (foldI z (m * q)) q), S) else none
  | _, _ => none
theorem t_fold : Tells 3 b_fold G_fold := by
  intro ws S r h
  refine ⟨r, ?_, .same _⟩
  unfold b_fold
  unfold G_fold at h
  split at h
  · split at h
    · rename_i z q m hb
      cases h
      obtain ⟨h1, h2, h3, h4⟩ := hb
      have k1 : okMul 2 m := .inl (by decide)
      have k2 : okMul (2 * m) q := .inl (by omega)
      have k3 : 0 < 2 * m * q := Int.mul_pos (by omega) h3
      have k4 : 2 * m * q ≠ 0 := by omega
      have k5 : q ≠ 0 := by omega
      have k6 : z.fmod (2 * m * q) = z % (2 * m * q) := Int.fmod_eq_emod_of_nonneg _ (by omega)
      simp only [fnB, en, List.map_cons, List.map_nil, List.length_cons, List.length_nil, List.replicate_succ, List.replicate_zero, List.cons_append, List.nil_append, List.append_nil, List.getElem?_cons_zero, List.getElem?_cons_succ, List.set_cons_zero, List.set_cons_succ,  Nat.zero_add, Nat.reduceAdd, Nat.reduceSub, Nat.sub_self, Nat.reduceEqDiff,  eVar, eC, eOp, eUn, aNil, aCons, eTup, eLst, eCall, eIf, eAnd, eOr, eNot, tVal, tAndW, tOrW, tNotW, eChain, sNext, sBrk, sCnt, sNever, sSeq, sRet, sRetN, sDrop, sIf, sAsg, sPar, sPar3, gN, gsNil, gsCons, gTupW, Option.bind_some, Option.bind_none,  s0, s1, s2, s3, s4, s6, subW, ltW, leW, gtW, geW, iop0, iop, modW, fdivW, powW, addW, mulW, negW, isi_int_int, isi_int_bool, isi_bl_int, isi_bl_bool, isi_non_int, isi_str_int, isi_tup_int, isi_tup_tup, eq_int, ne_int, len_p, len_6, len_l1, decide_true, decide_false, Int.reduceEq, Int.reduceNeg, absW, minW, ix_p0, ix_p1, ix_r0, ix_r1, ix_r2, ix_r3, ix_r4, ix_r5, if_true, if_false, ite_true, ite_false, Bool.not_true, Bool.not_false, Bool.false_eq_true, reduceIte, ↓reduceIte, G_common_of, G_lowest, ne_eq, not_false_eq_true, and_self, and_false, false_and, true_and, and_true, *]
      simp only [foldI, Int.mul_assoc]
    · cases h
  · cases h
theorem l_fold : ∀ ws S r, G_fold ws S = some r → ws.length = 2 := by
  intro ws S r h
  unfold G_fold at h
  split at h <;> first | rfl | cases h
/-! ### the place -/
/-- place_at(run, time); slots 0:run 1:time 2:across 3:along 4:w 5:h 6:x 7:y 8:a 9:b -/
noncomputable def b_place_at : Fs := sSeq (sAsg (eVar 0) (gTupW 6 (gsCons (gN 4) (gsCons (gN 5) (gsCons (gN 6) (gsCons (gN 7) (gsCons (gN 8) (gsCons (gN 9) (gsNil))))))))) (sSeq (sAsg (eTup (aCons (eOp addW (eOp mulW (eVar 6) (eOp ixW (eVar 1) (eC (.int 1)))) (eOp mulW (eVar 8) (eOp ixW (eVar 1) (eC (.int 0))))) (aCons (eOp ixW (eVar 1) (eC (.int 1))) (aNil)))) (gN 2)) (sSeq (sAsg (eTup (aCons (eOp addW (eOp mulW (eVar 7) (eOp ixW (eVar 1) (eC (.int 1)))) (eOp mulW (eVar 9) (eOp ixW (eVar 1) (eC (.int 0))))) (aCons (eOp ixW (eVar 1) (eC (.int 1))) (aNil)))) (gN 3)) (sRet (eTup (aCons (eCall G_fold (aCons (eVar 2) (aCons (eVar 4) (aNil)))) (aCons (eCall G_fold (aCons (eVar 3) (aCons (eVar 5) (aNil)))) (aNil)))))))
def okBox (w h x y a b : Int) : Prop := (0 < w ∧ w < 2 ^ 60) ∧ (0 < h ∧ h < 2 ^ 60) ∧ x.natAbs < 2 ^ 64 ∧ y.natAbs < 2 ^ 64 ∧ a.natAbs < 2 ^ 64 ∧ b.natAbs < 2 ^ 64
instance (w h x y a b : Int) : Decidable (okBox w h x y a b) := inferInstanceAs (Decidable (_ ∧ _))
theorem okRun.box {w h x y a b : Int} (k : okRun w h x y a b) : okBox w h x y a b := by
  obtain ⟨h1, h2, h3, h4, h5, h6, h7⟩ := k
  refine ⟨⟨?_, ?_⟩, ⟨?_, ?_⟩, ?_, ?_, ?_, ?_⟩ <;> omega
def plc (w x a : Int) (t : Int × Int) : Int × Int := low (foldI (x * t.2 + a * t.1) (w * t.2)) t.2
def G_place_at : Fn
  | [.tup [.int w, .int h, .int x, .int y, .int a, .int b], .tup [.int p, .int q]], S => if okBox w h x y a b ∧ 0 < q ∧ q.natAbs < big then some (.tup [fr (plc w x a (p, q)), fr (plc h y b (p, q))], S) else none
  | _, _ => none
theorem t_place_at : Tells 10 b_place_at G_place_at := by
  intro ws S r h
  refine ⟨r, ?_, .same _⟩
  unfold b_place_at
  unfold G_place_at at h
  split at h
  · split at h
    · rename_i w h x y a b p q hb
      cases h
      obtain ⟨⟨h1, h2, h3, h4, h5, h6⟩, h7, h8⟩ := hb
      have k1 : okMul x q := .inl h3
      have k2 : okMul y q := .inl h4
      have k3 : okMul a p := .inl h5
      have k4 : okMul b p := .inl h6
      simp only [fnB, en, List.map_cons, List.map_nil, List.length_cons, List.length_nil, List.replicate_succ, List.replicate_zero, List.cons_append, List.nil_append, List.append_nil, List.getElem?_cons_zero, List.getElem?_cons_succ, List.set_cons_zero, List.set_cons_succ,  Nat.zero_add, Nat.reduceAdd, Nat.reduceSub, Nat.sub_self, Nat.reduceEqDiff,  eVar, eC, eOp, eUn, aNil, aCons, eTup, eLst, eCall, eIf, eAnd, eOr, eNot, tVal, tAndW, tOrW, tNotW, eChain, sNext, sBrk, sCnt, sNever, sSeq, sRet, sRetN, sDrop, sIf, sAsg, sPar, sPar3, gN, gsNil, gsCons, gTupW, Option.bind_some, Option.bind_none,  s0, s1, s2, s3, s4, s6, subW, ltW, leW, gtW, geW, iop0, iop, modW, fdivW, powW, addW, mulW, negW, isi_int_int, isi_int_bool, isi_bl_int, isi_bl_bool, isi_non_int, isi_str_int, isi_tup_int, isi_tup_tup, eq_int, ne_int, len_p, len_6, len_l1, decide_true, decide_false, Int.reduceEq, Int.reduceNeg, absW, minW, ix_p0, ix_p1, ix_r0, ix_r1, ix_r2, ix_r3, ix_r4, ix_r5, if_true, if_false, ite_true, ite_false, Bool.not_true, Bool.not_false, Bool.false_eq_true, reduceIte, ↓reduceIte, G_fold, G_need_run, G_need_time, plc, ne_eq, not_false_eq_true, and_self, and_false, false_and, true_and, and_true, *]
    · cases h
  · cases h
theorem l_place_at : ∀ ws S r, G_place_at ws S = some r → ws.length = 2 := by
  intro ws S r h
  unfold G_place_at at h
  split at h <;> first | rfl | cases h
/-- place(run, time); slots 0:run 1:time -/
noncomputable def b_place : Fs := sSeq (sDrop (eCall G_need_run (aCons (eVar 0) (aNil)))) (sSeq (sDrop (eCall G_need_time (aCons (eVar 1) (aNil)))) (sRet (eCall G_place_at (aCons (eVar 0) (aCons (eVar 1) (aNil))))))
def G_place : Fn
  | [.tup [.int w, .int h, .int x, .int y, .int a, .int b], .tup [.int p, .int q]], S => if okRun w h x y a b ∧ okTime p q then some (.tup [fr (plc w x a (p, q)), fr (plc h y b (p, q))], S) else none
  | _, _ => none
theorem t_place : Tells 2 b_place G_place := by
  intro ws S r h
  refine ⟨r, ?_, .same _⟩
  unfold b_place
  unfold G_place at h
  split at h
  · split at h
    · rename_i w h x y a b p q hb
      cases h
      have k1 := hb.1.box
      have k2 : 0 < q := by have := hb.2.2; omega
      have k3 : q.natAbs < big := big_lt (by have := hb.2.2; omega)
      simp only [fnB, en, List.map_cons, List.map_nil, List.length_cons, List.length_nil, List.replicate_succ, List.replicate_zero, List.cons_append, List.nil_append, List.append_nil, List.getElem?_cons_zero, List.getElem?_cons_succ, List.set_cons_zero, List.set_cons_succ,  Nat.zero_add, Nat.reduceAdd, Nat.reduceSub, Nat.sub_self, Nat.reduceEqDiff,  eVar, eC, eOp, eUn, aNil, aCons, eTup, eLst, eCall, eIf, eAnd, eOr, eNot, tVal, tAndW, tOrW, tNotW, eChain, sNext, sBrk, sCnt, sNever, sSeq, sRet, sRetN, sDrop, sIf, sAsg, sPar, sPar3, gN, gsNil, gsCons, gTupW, Option.bind_some, Option.bind_none,  s0, s1, s2, s3, s4, s6, subW, ltW, leW, gtW, geW, iop0, iop, modW, fdivW, powW, addW, mulW, negW, isi_int_int, isi_int_bool, isi_bl_int, isi_bl_bool, isi_non_int, isi_str_int, isi_tup_int, isi_tup_tup, eq_int, ne_int, len_p, len_6, len_l1, decide_true, decide_false, Int.reduceEq, Int.reduceNeg, absW, minW, ix_p0, ix_p1, ix_r0, ix_r1, ix_r2, ix_r3, ix_r4, ix_r5, if_true, if_false, ite_true, ite_false, Bool.not_true, Bool.not_false, Bool.false_eq_true, reduceIte, ↓reduceIte, G_place_at, G_need_run, G_need_time, ne_eq, not_false_eq_true, and_self, and_false, false_and, true_and, and_true, *]
    · cases h
  · cases h
theorem l_place : ∀ ws S r, G_place ws S = some r → ws.length = 2 := by
  intro ws S r h
  unfold G_place at h
  split at h <;> first | rfl | cases h
/-! ### the period -/
/-- period_of(run); slots 0:run 1:parts 2:w 3:h 4:x 5:y 6:a 7:b 8:side 9:speed -/
noncomputable def b_period_of : Fs := sSeq (sAsg (eVar 0) (gTupW 6 (gsCons (gN 2) (gsCons (gN 3) (gsCons (gN 4) (gsCons (gN 5) (gsCons (gN 6) (gsCons (gN 7) (gsNil))))))))) (sSeq (sAsg (eLc (iSeq (eTup (aCons (eTup (aCons (eVar 2) (aCons (eVar 6) (aNil)))) (aCons (eTup (aCons (eVar 3) (aCons (eVar 7) (aNil)))) (aNil))))) (gTupW 2 (gsCons (gN 8) (gsCons (gN 9) gsNil))) (tVal (eOp neW (eVar 9) (eC (.int 0)))) (eCall G_lowest (aCons (eOp mulW (eC (.int 2)) (eVar 8)) (aCons (eCall absW (aCons (eVar 9) (aNil))) (aNil)))) [8, 9]) (gN 1)) (sRet (eIf (tVal (eOp eqW (eCall lenW (aCons (eVar 1) (aNil))) (eC (.int 1)))) (eOp ixW (eVar 1) (eC (.int 0))) (eCall G_least_multiple (aCons (eOp ixW (eVar 1) (eC (.int 0))) (aCons (eOp ixW (eVar 1) (eC (.int 1))) (aNil)))))))
def per (w h a b : Int) : Int × Int := if a = 0 then low (2 * h) (b.natAbs : Nat) else if b = 0 then low (2 * w) (a.natAbs : Nat) else lm (low (2 * w) (a.natAbs : Nat)) (low (2 * h) (b.natAbs : Nat))
theorem get_last {S : Sto} {o : O} : (S ++ [o])[S.length]? = some o := by simp
theorem set_last {S : Sto} {o u : O} : (S ++ [o]).set S.length u = S ++ [u] := by simp
def G_period_of : Fn
  | [.tup [.int w, .int h, .int x, .int y, .int a, .int b]], S => if okRun w h x y a b then some (fr (per w h a b), S) else none
  | _, _ => none
theorem abs_nat (i : Int) : (if i < 0 then -i else i) = (i.natAbs : Nat) := by split <;> omega
theorem low_small {n d : Int} (hn : n ≠ 0) (hd : 0 < d) : (low n d).1 ≠ 0 ∧ (low n d).1.natAbs ≤ n.natAbs ∧ 0 < (low n d).2 ∧ (low n d).2 ≤ d := by
  have gp := gcd_pos (n := n) (d := d) (by omega)
  have e1 : (low n d).1 = n / (Int.gcd n d : Nat) := by
    unfold low; rw [if_neg (by omega)]; exact Int.fdiv_eq_ediv_of_nonneg _ (by omega)
  have e2 : (low n d).2 = d / (Int.gcd n d : Nat) := by
    unfold low; rw [if_neg (by omega)]; exact Int.fdiv_eq_ediv_of_nonneg _ (by omega)
  have d1 : ((Int.gcd n d : Nat) : Int) ∣ n := Int.gcd_dvd_left ..
  have d2 : ((Int.gcd n d : Nat) : Int) ∣ d := Int.gcd_dvd_right ..
  obtain ⟨k, hk⟩ := d1
  obtain ⟨l, hl⟩ := d2
  generalize hg : Int.gcd n d = g at *
  have q1 : n / (g : Int) = k := by
    rw [hk]; exact Int.mul_ediv_cancel_left _ (by omega)
  have q2 : d / (g : Int) = l := by
    rw [hl]; exact Int.mul_ediv_cancel_left _ (by omega)
  rw [e1, e2, q1, q2]
  refine ⟨fun z => hn (by rw [hk, z]; simp), ?_, ?_, ?_⟩
  · rw [hk, Int.natAbs_mul]; simp only [Int.natAbs_natCast]
    exact Nat.le_mul_of_pos_left _ gp
  · exact Int.pos_of_mul_pos_right (a := (g : Int)) (by rw [← hl]; exact hd) (by omega)
  · have lp : 0 < l := Int.pos_of_mul_pos_right (a := (g : Int)) (by rw [← hl]; exact hd) (by omega)
    rw [hl]
    have : 1 * l ≤ (g : Int) * l := Int.mul_le_mul_of_nonneg_right (by omega) (by omega)
    omega
theorem l1s : ((0 : Nat) < sizeLine) = True := by simp; decide
theorem l2s : ((1 : Nat) < sizeLine) = True := by simp; decide
theorem len_new {S : Sto} {xs : List W} : lenW [.ref S.length] (S ++ [.lst xs]) = some (.int (xs.length : Nat), S ++ [.lst xs]) := len_lst get_last
theorem ix_new0 {S : Sto} {x : W} {xs : List W} : ixW (.ref S.length) (.int 0) (S ++ [.lst (x :: xs)]) = some (x, S ++ [.lst (x :: xs)]) := ix_lst (k := 0) get_last rfl
theorem ix_new1 {S : Sto} {x y : W} {xs : List W} : ixW (.ref S.length) (.int 1) (S ++ [.lst (x :: y :: xs)]) = some (y, S ++ [.lst (x :: y :: xs)]) := ix_lst (k := 1) get_last rfl
theorem t_period_of : Tells 10 b_period_of G_period_of := by
  intro ws S r h
  unfold b_period_of
  unfold G_period_of at h
  split at h
  · split at h
    · rename_i w h x y a b hb
      cases h
      obtain ⟨h1, h2, h3, h4, h5, h6, h7⟩ := hb
      have k1 : okMul 2 w := .inl (by decide)
      have k2 : okMul 2 h := .inl (by decide)
      have ba : ((a.natAbs : Nat) : Int).natAbs < big := big_lt (by simp only [Int.natAbs_natCast]; omega)
      have bb : ((b.natAbs : Nat) : Int).natAbs < big := big_lt (by simp only [Int.natAbs_natCast]; omega)
      by_cases ha : a = 0
      · subst ha
        have hb0 : ¬ b = 0 := fun z => h7 ⟨rfl, z⟩
        have hb1 : ¬ ((b.natAbs : Nat) : Int) = 0 := by omega
        refine ⟨(fr (per w h 0 b), S ++ [.lst [fr (per w h 0 b)]]), ?_, .val _ _ (by simp [below, belows])⟩
        simp only [fnB, en, List.map_cons, List.map_nil, List.length_cons, List.length_nil, List.replicate_succ, List.replicate_zero, List.cons_append, List.nil_append, List.append_nil, List.getElem?_cons_zero, List.getElem?_cons_succ, List.set_cons_zero, List.set_cons_succ,  Nat.zero_add, Nat.reduceAdd, Nat.reduceSub, Nat.sub_self, Nat.reduceEqDiff,  eVar, eC, eOp, eUn, aNil, aCons, eTup, eLst, eCall, eIf, eAnd, eOr, eNot, tVal, tAndW, tOrW, tNotW, eChain, sNext, sBrk, sCnt, sNever, sSeq, sRet, sRetN, sDrop, sIf, sAsg, sPar, sPar3, gN, gsNil, gsCons, gTupW, Option.bind_some, Option.bind_none,  s0, s1, s2, s3, s4, s6, subW, ltW, leW, gtW, geW, iop0, iop, modW, fdivW, powW, addW, mulW, negW, isi_int_int, isi_int_bool, isi_bl_int, isi_bl_bool, isi_non_int, isi_str_int, isi_tup_int, isi_tup_tup, eq_int, ne_int, len_p, len_6, len_l1, decide_true, decide_false, Int.reduceEq, Int.reduceNeg, absW, minW, ix_p0, ix_p1, ix_r0, ix_r1, ix_r2, ix_r3, ix_r4, ix_r5, if_true, if_false, ite_true, ite_false, Bool.not_true, Bool.not_false, Bool.false_eq_true, reduceIte, ↓reduceIte, G_lowest, G_least_multiple, eLc, iSeq, lcF_cons, lcF_nil, wipeW, tYesW, get_last, set_last, abs_nat, l1s, l2s, len_new, ix_new0, ix_new1, Int.cast_ofNat_Int, Int.natCast_one, ne_eq, not_false_eq_true, and_self, and_false, false_and, true_and, and_true, *]
        simp [per]
      · have ha1 : ¬ ((a.natAbs : Nat) : Int) = 0 := by omega
        by_cases hb0 : b = 0
        · subst hb0
          refine ⟨(fr (per w h a 0), S ++ [.lst [fr (per w h a 0)]]), ?_, .val _ _ (by simp [below, belows])⟩
          simp only [fnB, en, List.map_cons, List.map_nil, List.length_cons, List.length_nil, List.replicate_succ, List.replicate_zero, List.cons_append, List.nil_append, List.append_nil, List.getElem?_cons_zero, List.getElem?_cons_succ, List.set_cons_zero, List.set_cons_succ,  Nat.zero_add, Nat.reduceAdd, Nat.reduceSub, Nat.sub_self, Nat.reduceEqDiff,  eVar, eC, eOp, eUn, aNil, aCons, eTup, eLst, eCall, eIf, eAnd, eOr, eNot, tVal, tAndW, tOrW, tNotW, eChain, sNext, sBrk, sCnt, sNever, sSeq, sRet, sRetN, sDrop, sIf, sAsg, sPar, sPar3, gN, gsNil, gsCons, gTupW, Option.bind_some, Option.bind_none,  s0, s1, s2, s3, s4, s6, subW, ltW, leW, gtW, geW, iop0, iop, modW, fdivW, powW, addW, mulW, negW, isi_int_int, isi_int_bool, isi_bl_int, isi_bl_bool, isi_non_int, isi_str_int, isi_tup_int, isi_tup_tup, eq_int, ne_int, len_p, len_6, len_l1, decide_true, decide_false, Int.reduceEq, Int.reduceNeg, absW, minW, ix_p0, ix_p1, ix_r0, ix_r1, ix_r2, ix_r3, ix_r4, ix_r5, if_true, if_false, ite_true, ite_false, Bool.not_true, Bool.not_false, Bool.false_eq_true, reduceIte, ↓reduceIte, G_lowest, G_least_multiple, eLc, iSeq, lcF_cons, lcF_nil, wipeW, tYesW, get_last, set_last, abs_nat, l1s, l2s, len_new, ix_new0, ix_new1, Int.cast_ofNat_Int, Int.natCast_one, ne_eq, not_false_eq_true, and_self, and_false, false_and, true_and, and_true, *]
          simp [per, ha]
        · have hb1 : ¬ ((b.natAbs : Nat) : Int) = 0 := by omega
          obtain ⟨l1, l2, l3, l4⟩ := low_small (n := 2 * w) (d := (a.natAbs : Nat)) (by omega) (by omega)
          obtain ⟨m1, m2, m3, m4⟩ := low_small (n := 2 * h) (d := (b.natAbs : Nat)) (by omega) (by omega)
          have q1 : (low (2 * w) (a.natAbs : Nat)).1.natAbs < 2 ^ 64 := by omega
          have q2 : (low (2 * h) (b.natAbs : Nat)).1.natAbs < big := big_lt (by omega)
          have q3 : ¬ (low (2 * h) (b.natAbs : Nat)).2 = 0 := by omega
          have q4 : (low (2 * h) (b.natAbs : Nat)).2.natAbs < big := big_lt (by omega)
          refine ⟨(fr (per w h a b), S ++ [.lst [fr (low (2 * w) (a.natAbs : Nat)), fr (low (2 * h) (b.natAbs : Nat))]]), ?_, .val _ _ (by simp [below, belows])⟩
          simp only [fnB, en, List.map_cons, List.map_nil, List.length_cons, List.length_nil, List.replicate_succ, List.replicate_zero, List.cons_append, List.nil_append, List.append_nil, List.getElem?_cons_zero, List.getElem?_cons_succ, List.set_cons_zero, List.set_cons_succ,  Nat.zero_add, Nat.reduceAdd, Nat.reduceSub, Nat.sub_self, Nat.reduceEqDiff,  eVar, eC, eOp, eUn, aNil, aCons, eTup, eLst, eCall, eIf, eAnd, eOr, eNot, tVal, tAndW, tOrW, tNotW, eChain, sNext, sBrk, sCnt, sNever, sSeq, sRet, sRetN, sDrop, sIf, sAsg, sPar, sPar3, gN, gsNil, gsCons, gTupW, Option.bind_some, Option.bind_none,  s0, s1, s2, s3, s4, s6, subW, ltW, leW, gtW, geW, iop0, iop, modW, fdivW, powW, addW, mulW, negW, isi_int_int, isi_int_bool, isi_bl_int, isi_bl_bool, isi_non_int, isi_str_int, isi_tup_int, isi_tup_tup, eq_int, ne_int, len_p, len_6, len_l1, decide_true, decide_false, Int.reduceEq, Int.reduceNeg, absW, minW, ix_p0, ix_p1, ix_r0, ix_r1, ix_r2, ix_r3, ix_r4, ix_r5, if_true, if_false, ite_true, ite_false, Bool.not_true, Bool.not_false, Bool.false_eq_true, reduceIte, ↓reduceIte, G_lowest, G_least_multiple, eLc, iSeq, lcF_cons, lcF_nil, wipeW, tYesW, get_last, set_last, abs_nat, l1s, l2s, len_new, ix_new0, ix_new1, Int.cast_ofNat_Int, Int.natCast_one, ne_eq, not_false_eq_true, and_self, and_false, false_and, true_and, and_true, *]
          simp [per, ha, hb0]
    · cases h
  · cases h
theorem l_period_of : ∀ ws S r, G_period_of ws S = some r → ws.length = 1 := by
  intro ws S r h
  unfold G_period_of at h
  split at h <;> first | rfl | cases h
/-- period(run); slots 0:run -/
noncomputable def b_period : Fs := sSeq (sDrop (eCall G_need_run (aCons (eVar 0) (aNil)))) (sRet (eCall G_period_of (aCons (eVar 0) (aNil))))
def G_period : Fn
  | [.tup [.int w, .int h, .int x, .int y, .int a, .int b]], S => if okRun w h x y a b then some (fr (per w h a b), S) else none
  | _, _ => none
theorem t_period : Tells 1 b_period G_period := by
  intro ws S r h
  refine ⟨r, ?_, .same _⟩
  unfold b_period
  unfold G_period at h
  split at h
  · split at h
    · rename_i w h x y a b hb
      cases h
      simp only [fnB, en, List.map_cons, List.map_nil, List.length_cons, List.length_nil, List.replicate_succ, List.replicate_zero, List.cons_append, List.nil_append, List.append_nil, List.getElem?_cons_zero, List.getElem?_cons_succ, List.set_cons_zero, List.set_cons_succ,  Nat.zero_add, Nat.reduceAdd, Nat.reduceSub, Nat.sub_self, Nat.reduceEqDiff,  eVar, eC, eOp, eUn, aNil, aCons, eTup, eLst, eCall, eIf, eAnd, eOr, eNot, tVal, tAndW, tOrW, tNotW, eChain, sNext, sBrk, sCnt, sNever, sSeq, sRet, sRetN, sDrop, sIf, sAsg, sPar, sPar3, gN, gsNil, gsCons, gTupW, Option.bind_some, Option.bind_none,  s0, s1, s2, s3, s4, s6, subW, ltW, leW, gtW, geW, iop0, iop, modW, fdivW, powW, addW, mulW, negW, isi_int_int, isi_int_bool, isi_bl_int, isi_bl_bool, isi_non_int, isi_str_int, isi_tup_int, isi_tup_tup, eq_int, ne_int, len_p, len_6, len_l1, decide_true, decide_false, Int.reduceEq, Int.reduceNeg, absW, minW, ix_p0, ix_p1, ix_r0, ix_r1, ix_r2, ix_r3, ix_r4, ix_r5, if_true, if_false, ite_true, ite_false, Bool.not_true, Bool.not_false, Bool.false_eq_true, reduceIte, ↓reduceIte, G_need_run, G_period_of, ne_eq, not_false_eq_true, and_self, and_false, false_and, true_and, and_true, *]
    · cases h
  · cases h
theorem l_period : ∀ ws S r, G_period ws S = some r → ws.length = 1 := by
  intro ws S r h
  unfold G_period at h
  split at h <;> first | rfl | cases h
end Bp

/-! Lw1: the laws' own helpers: _law_draw, _law_pick, _law_run, _law_gcd, _law_low, _law_unit. -/
namespace Bp
set_option autoImplicit false
open PySem L2
/-! ### a draw -/
@[reducible] def tn (at_ lf : Int) : O := .lst [.int at_, .int lf]
def drawR (ns : List Int) (at_ lf many : Int) : Int × Int × Int :=
  if 0 < lf then (lf.fmod many, at_, lf.fdiv many)
  else if ns = [] then (at_.fmod many, at_ + 1, lf)
  else if at_ < (ns.length : Nat) ∧ 10 ^ 18 ≤ ns.getD at_.toNat 0 then ((ns.getD at_.toNat 0).fmod many, at_ + 1, ((ns.getD at_.toNat 0).fdiv many).fmod (10 ^ 60 * 10 ^ 60))
  else ((((((ns.getD (at_.fmod (ns.length : Nat)).toNat 0 * 1103515245 + 7919 * at_ + 12345).fmod 2147483647) ^ 5).fmod 2147483647).fmod 999983).fmod many, at_ + 1, lf)
theorem intsOf_map : ∀ ns : List Int, intsOf (ns.map W.int) = some ns
  | [] => rfl
  | n :: ns => by simp [intsOf, intsOf_map ns]
theorem intsOf_eq : ∀ {ws : List W} {ns : List Int}, intsOf ws = some ns → ws = ns.map W.int
  | [], _, h => by cases h; rfl
  | w :: ws, _, h => by
    cases w <;> simp only [intsOf] at h <;> try (cases h)
    obtain ⟨js, e1, e⟩ := bindS h
    cases e
    rw [intsOf_eq e1]; rfl
def G__law_draw : Fn
  | [.fz ws, .ref n, .int many], S => match S[n]?, intsOf ws with
    | some (.lst [.int at_, .int lf]), some ns => if 0 < many ∧ many < 2 ^ 64 ∧ 0 ≤ at_ then some (.int (drawR ns at_ lf many).1, S.set n (tn (drawR ns at_ lf many).2.1 (drawR ns at_ lf many).2.2)) else none
    | _, _ => none
  | _, _ => none
/-- _law_draw(script, town, many); slots 0:script 1:town 2:many 3:at 4:mixed 5:one -/
noncomputable def b__law_draw : Fs := sSeq (sIf (tVal (eOp gtW (eOp ixW (eVar 1) (eC (.int 1))) (eC (.int 0)))) (sSeq (sAsg (eOp modW (eOp ixW (eVar 1) (eC (.int 1))) (eVar 2)) (gN 5)) (sSeq (sAsg (eOp fdivW (eOp ixW (eVar 1) (eC (.int 1))) (eVar 2)) (gSubW (eVar 1) (eC (.int 1)) setW)) (sRet (eVar 5)))) (sNext)) (sSeq (sAsg (eOp ixW (eVar 1) (eC (.int 0))) (gN 3)) (sSeq (sAugS (eVar 1) (eC (.int 0)) ix0W (eC (.int 1)) (iop0 fun i j => .int (i + j)) setW) (sSeq (sIf (tVal (eOp eqW (eVar 0) (eLst (aNil)))) (sRet (eOp modW (eVar 3) (eVar 2))) (sNext)) (sSeq (sIf (tAndW (tVal (eOp ltW (eVar 3) (eCall lenW (aCons (eVar 0) (aNil))))) (tVal (eOp geW (eOp ixW (eVar 0) (eVar 3)) (eOp powW (eC (.int 10)) (eC (.int 18)))))) (sSeq (sAsg (eOp modW (eOp fdivW (eOp ixW (eVar 0) (eVar 3)) (eVar 2)) (eOp mulW (eOp powW (eC (.int 10)) (eC (.int 60))) (eOp powW (eC (.int 10)) (eC (.int 60))))) (gSubW (eVar 1) (eC (.int 1)) setW)) (sRet (eOp modW (eOp ixW (eVar 0) (eVar 3)) (eVar 2)))) (sNext)) (sSeq (sAsg (eOp modW (eOp addW (eOp addW (eOp mulW (eOp ixW (eVar 0) (eOp modW (eVar 3) (eCall lenW (aCons (eVar 0) (aNil))))) (eC (.int 1103515245))) (eOp mulW (eC (.int 7919)) (eVar 3))) (eC (.int 12345))) (eC (.int 2147483647))) (gN 4)) (sRet (eOp modW (eOp modW (eOp modW (eOp powW (eVar 4) (eC (.int 5))) (eC (.int 2147483647))) (eC (.int 999983))) (eVar 2))))))))
theorem mapO_ints {S : Sto} {k : Nat} : ∀ ns : List Int, mapO (toD S (k + 1)) (ns.map W.int) = some (ns.map PyData.int)
  | [] => rfl
  | n :: ns => by simp [mapO, toD, mapO_ints ns]
theorem eq_nil {S : Sto} {n : Nat} (ns : List Int) (h : S[n]? = some (.lst [])) : eqW (.fz (ns.map W.int)) (.ref n) S = some (.bl (decide (ns = [])), S) := by
  cases ns with
  | nil => simp [eqW, eqvW, toD, h, mapO, PyData.eqv, PyData.eqvAll]
  | cons a ns => simp [eqW, eqvW, toD, h, mapO, mapO_ints, PyData.eqv, PyData.eqvAll]
theorem ix_fz {S : Sto} {ns : List Int} {i : Int} (h0 : 0 ≤ i) (h1 : i < (ns.length : Nat)) : ixW (.fz (ns.map W.int)) (.int i) S = some (.int (ns.getD i.toNat 0), S) := by
  have hl : i.toNat < ns.length := by omega
  have e : (ns.map W.int)[i.toNat]? = some (.int (ns.getD i.toNat 0)) := by
    rw [List.getElem?_map, List.getElem?_eq_getElem hl]
    simp [List.getD, hl]
  have := atI_nat e
  rw [show ((i.toNat : Nat) : Int) = i by omega] at this
  simp only [ixW, seqOf, Option.bind_some, this]
theorem ix_t0 {S : Sto} {n : Nat} {a b : W} (h : S[n]? = some (.lst [a, b])) : ixW (.ref n) (.int 0) S = some (a, S) := ix_lst (k := 0) h rfl
theorem ix_t1 {S : Sto} {n : Nat} {a b : W} (h : S[n]? = some (.lst [a, b])) : ixW (.ref n) (.int 1) S = some (b, S) := ix_lst (k := 1) h rfl
theorem set_t1 {S : Sto} {n : Nat} {a b v : W} (h : S[n]? = some (.lst [a, b])) : setW (.ref n) (.int 1) v S = some (S.set n (.lst [a, v])) := by
  simp only [setW, h]; rfl
theorem set_t0 {S : Sto} {n : Nat} {a b v : W} (h : S[n]? = some (.lst [a, b])) : setW (.ref n) (.int 0) v S = some (S.set n (.lst [v, b])) := by
  simp only [setW, h]; rfl
theorem ix0_t0 {S : Sto} {n : Nat} {a b : W} (h : S[n]? = some (.lst [a, b])) : ix0W (.ref n) (.int 0) S = some (a, S) := by
  simp [ix0W, lstOf, h]
theorem set_get {S : Sto} {n : Nat} {o u : O} (h : S[n]? = some o) : (S.set n u)[n]? = some u := by
  rw [List.getElem?_set_self (List.getElem?_eq_some_iff.mp h).1]
theorem set_set {S : Sto} {n : Nat} {o u : O} : (S.set n o).set n u = S.set n u := by simp
theorem set_same {S : Sto} {n : Nat} {o : O} (h : S[n]? = some o) : S.set n o = S := by
  apply List.ext_getElem?
  intro i
  by_cases hi : i = n
  · subst hi; rw [set_get h, h]
  · rw [List.getElem?_set_ne (Ne.symm hi)]
theorem app_get {S Y : Sto} {n : Nat} {o : O} (h : S[n]? = some o) : (S ++ Y)[n]? = some o := by
  rw [List.getElem?_append_left (List.getElem?_eq_some_iff.mp h).1]; exact h
theorem app_set {S Y : Sto} {n : Nat} {o u : O} (h : S[n]? = some o) : (S ++ Y).set n u = S.set n u ++ Y := by
  rw [List.set_append_left _ _ (List.getElem?_eq_some_iff.mp h).1]
theorem pow_lt_h (i : Int) (h : 0 ≤ i) (h2 : i < 2147483647) : i.natAbs < 2 ^ 64 := by omega
theorem gc_town {S Y : Sto} {n : Nat} {o : O} {i a b : Int} (h : S[n]? = some o) : Gc S (.int i, S.set n (tn a b) ++ Y) (.int i, S.set n (tn a b)) :=
  .upd _ _ _ (by simp) (by simp [below]) fun j u hj => by
    by_cases e : j = n
    · subst e; rw [set_get h] at hj; cases hj; exact .inl (by simp [belowO, belows, below])
    · rw [List.getElem?_set_ne (Ne.symm e)] at hj; exact .inr hj
theorem modpow (i : Int) : ((0 : Int) ≤ 5 ∧ (5 : Int) ≤ 1000000 ∧ (i.fmod 2147483647).natAbs < 2 ^ 64) = True := by
  have := Int.fmod_eq_emod_of_nonneg i (show (0 : Int) ≤ 2147483647 by decide)
  have h1 := Int.emod_nonneg i (show (2147483647 : Int) ≠ 0 by decide)
  have h2 := Int.emod_lt_of_pos i (show (0 : Int) < 2147483647 by decide)
  simp only [eq_iff_iff, iff_true]
  refine ⟨by decide, by decide, by omega⟩
theorem n1 : ((2147483647 : Int) = 0) = False := by decide
theorem n2 : ((999983 : Int) = 0) = False := by decide
theorem t__law_draw : Tells 6 b__law_draw G__law_draw := by
  intro ws S r h
  unfold G__law_draw at h
  split at h
  · rename_i ws n many
    split at h
    · rename_i at_ lf ns hS hn
      split at h
      · rename_i hb
        cases h
        obtain ⟨hm, hm2, ha⟩ := hb
        have hws := intsOf_eq hn
        have m0 : many ≠ 0 := by omega
        have od : okDiv many := okDiv_of m0 (big_lt (by omega))
        unfold b__law_draw
        by_cases h1 : 0 < lf
        · refine ⟨(.int (lf.fmod many), S.set n (tn at_ (lf.fdiv many)) ++ []), ?_, ?_⟩
          · simp only [fnB, en, List.map_cons, List.map_nil, List.length_cons, List.length_nil, List.replicate_succ, List.replicate_zero, List.cons_append, List.nil_append, List.append_nil, List.getElem?_cons_zero, List.getElem?_cons_succ, List.set_cons_zero, List.set_cons_succ,  Nat.zero_add, Nat.reduceAdd, Nat.reduceSub, Nat.sub_self, Nat.reduceEqDiff,  eVar, eC, eOp, eUn, aNil, aCons, eTup, eLst, eCall, eIf, eAnd, eOr, eNot, tVal, tAndW, tOrW, tNotW, eChain, sNext, sBrk, sCnt, sNever, sSeq, sRet, sRetN, sDrop, sIf, sAsg, sPar, sPar3, gN, gsNil, gsCons, gTupW, Option.bind_some, Option.bind_none,  s0, s1, s2, s3, s4, s6, subW, ltW, leW, gtW, geW, iop0, iop, modW, fdivW, powW, addW, mulW, negW, isi_int_int, isi_int_bool, isi_bl_int, isi_bl_bool, isi_non_int, isi_str_int, isi_tup_int, isi_tup_tup, eq_int, ne_int, len_p, len_6, len_l1, decide_true, decide_false, Int.reduceEq, Int.reduceNeg, absW, minW, ix_p0, ix_p1, ix_r0, ix_r1, ix_r2, ix_r3, ix_r4, ix_r5, if_true, if_false, ite_true, ite_false, Bool.not_true, Bool.not_false, Bool.false_eq_true, reduceIte, ↓reduceIte, gSubW, ix_t0 hS, ix_t1 hS, set_t1 hS, set_t0 hS, ix0_t0 hS, sAugS, ne_eq, not_false_eq_true, and_self, and_false, false_and, true_and, and_true, *]
          · simp only [drawR, h1, if_true]
            exact gc_town hS
        · have hS1 : (S.set n (.lst [.int (at_ + 1), .int lf]))[n]? = some (.lst [.int (at_ + 1), .int lf]) := set_get hS
          have hl0 : (S.set n (.lst [.int (at_ + 1), .int lf])).length = S.length := by simp
          have hG : (S.set n (.lst [.int (at_ + 1), .int lf]) ++ [.lst []])[S.length]? = some (.lst []) := by rw [← hl0]; exact get_last
          have hS2 : (S.set n (.lst [.int (at_ + 1), .int lf]) ++ [.lst []])[n]? = some (.lst [.int (at_ + 1), .int lf]) := app_get hS1
          have q := eq_nil ns hG
          rw [← hws] at q
          by_cases h2 : ns = []
          · refine ⟨(.int (at_.fmod many), S.set n (tn (at_ + 1) lf) ++ [.lst []]), ?_, ?_⟩
            · simp only [h2, decide_true] at q
              clear hws hn h2
              simp only [fnB, en, List.map_cons, List.map_nil, List.length_cons, List.length_nil, List.replicate_succ, List.replicate_zero, List.cons_append, List.nil_append, List.append_nil, List.getElem?_cons_zero, List.getElem?_cons_succ, List.set_cons_zero, List.set_cons_succ,  Nat.zero_add, Nat.reduceAdd, Nat.reduceSub, Nat.sub_self, Nat.reduceEqDiff,  eVar, eC, eOp, eUn, aNil, aCons, eTup, eLst, eCall, eIf, eAnd, eOr, eNot, tVal, tAndW, tOrW, tNotW, eChain, sNext, sBrk, sCnt, sNever, sSeq, sRet, sRetN, sDrop, sIf, sAsg, sPar, sPar3, gN, gsNil, gsCons, gTupW, Option.bind_some, Option.bind_none,  s0, s1, s2, s3, s4, s6, subW, ltW, leW, gtW, geW, iop0, iop, modW, fdivW, powW, addW, mulW, negW, isi_int_int, isi_int_bool, isi_bl_int, isi_bl_bool, isi_non_int, isi_str_int, isi_tup_int, isi_tup_tup, eq_int, ne_int, len_p, len_6, len_l1, decide_true, decide_false, Int.reduceEq, Int.reduceNeg, absW, minW, ix_p0, ix_p1, ix_r0, ix_r1, ix_r2, ix_r3, ix_r4, ix_r5, if_true, if_false, ite_true, ite_false, Bool.not_true, Bool.not_false, Bool.false_eq_true, reduceIte, ↓reduceIte, gSubW, ix_t0 hS, ix_t1 hS, set_t1 hS, set_t0 hS, ix0_t0 hS, sAugS, q, ne_eq, not_false_eq_true, and_self, and_false, false_and, true_and, and_true, *]
            · simp only [drawR, h1, h2, if_true, if_false]
              exact gc_town hS
          · have hlen : 0 < ns.length := by cases ns with | nil => exact absurd rfl h2 | cons a l => simp
            simp only [h2, decide_false] at q
            have p60 : okMul ((10 : Int) ^ (60 : Int).toNat) ((10 : Int) ^ (60 : Int).toNat) := .inr (.inr (by decide))
            have p60n : ¬ (10 : Int) ^ (60 : Int).toNat * (10 : Int) ^ (60 : Int).toNat = 0 := by decide
            have pw1 : ((0 : Int) ≤ 18 ∧ (18 : Int) ≤ 1000000 ∧ (10 : Int).natAbs < 2 ^ 64) = True := by decide
            have pw2 : ((0 : Int) ≤ 60 ∧ (60 : Int) ≤ 1000000 ∧ (10 : Int).natAbs < 2 ^ 64) = True := by decide
            have e18 : (10 : Int) ^ (18 : Int).toNat = 10 ^ 18 := rfl
            have lw : ws.length = ns.length := by rw [hws]; simp
            by_cases h3 : at_ < (ns.length : Nat)
            · have gx : ∀ S, ixW (.fz ws) (.int at_) S = some (.int (ns.getD at_.toNat 0), S) := fun S => by rw [hws]; exact ix_fz ha h3
              by_cases h4 : (10 : Int) ^ 18 ≤ ns.getD at_.toNat 0
              · refine ⟨(.int ((ns.getD at_.toNat 0).fmod many), S.set n (tn (at_ + 1) (((ns.getD at_.toNat 0).fdiv many).fmod (10 ^ 60 * 10 ^ 60))) ++ [.lst []]), ?_, ?_⟩
                · have st : ∀ v, setW (.ref n) (.int 1) v (S.set n (.lst [.int (at_ + 1), .int lf]) ++ [.lst []]) = some (S.set n (.lst [.int (at_ + 1), v]) ++ [.lst []]) := fun v => by
                    rw [set_t1 hS2, app_set hS1, set_set]
                  clear hws hn
                  simp only [fnB, en, List.map_cons, List.map_nil, List.length_cons, List.length_nil, List.replicate_succ, List.replicate_zero, List.cons_append, List.nil_append, List.append_nil, List.getElem?_cons_zero, List.getElem?_cons_succ, List.set_cons_zero, List.set_cons_succ,  Nat.zero_add, Nat.reduceAdd, Nat.reduceSub, Nat.sub_self, Nat.reduceEqDiff,  eVar, eC, eOp, eUn, aNil, aCons, eTup, eLst, eCall, eIf, eAnd, eOr, eNot, tVal, tAndW, tOrW, tNotW, eChain, sNext, sBrk, sCnt, sNever, sSeq, sRet, sRetN, sDrop, sIf, sAsg, sPar, sPar3, gN, gsNil, gsCons, gTupW, Option.bind_some, Option.bind_none,  s0, s1, s2, s3, s4, s6, subW, ltW, leW, gtW, geW, iop0, iop, modW, fdivW, powW, addW, mulW, negW, isi_int_int, isi_int_bool, isi_bl_int, isi_bl_bool, isi_non_int, isi_str_int, isi_tup_int, isi_tup_tup, eq_int, ne_int, len_p, len_6, len_l1, decide_true, decide_false, Int.reduceEq, Int.reduceNeg, absW, minW, ix_p0, ix_p1, ix_r0, ix_r1, ix_r2, ix_r3, ix_r4, ix_r5, if_true, if_false, ite_true, ite_false, Bool.not_true, Bool.not_false, Bool.false_eq_true, reduceIte, ↓reduceIte, gSubW, ix_t0 hS, ix_t1 hS, set_t1 hS, set_t0 hS, ix0_t0 hS, sAugS, q, gx, st, pw1, pw2, p60, p60n, lw, ne_eq, not_false_eq_true, and_self, and_false, false_and, true_and, and_true, *]
                  rfl
                · simp only [drawR, h1, h2, h3, h4, and_self, if_true, if_false]
                  exact gc_town hS
              · have mx : ¬ ((ns.length : Nat) : Int) = 0 := by omega
                have f1 : at_.fmod (ns.length : Nat) = at_ % (ns.length : Nat) := Int.fmod_eq_emod_of_nonneg _ (by omega)
                have g1 : 0 ≤ at_ % (ns.length : Nat) := Int.emod_nonneg _ mx
                have g2 : at_ % (ns.length : Nat) < (ns.length : Nat) := Int.emod_lt_of_pos _ (by omega)
                have gy : ∀ S, ixW (.fz ws) (.int (at_ % (ns.length : Nat))) S = some (.int (ns.getD (at_ % (ns.length : Nat)).toNat 0), S) := fun S => by rw [hws]; exact ix_fz g1 g2
                have om1 : okMul (ns.getD (at_ % (ns.length : Nat)).toNat 0) 1103515245 := .inr (.inl (by decide))
                have om2 : okMul 7919 at_ := .inl (by decide)
                refine ⟨(.int (drawR ns at_ lf many).1, S.set n (tn (at_ + 1) lf) ++ [.lst []]), ?_, ?_⟩
                · have dr : (drawR ns at_ lf many).1 = (((((ns.getD (at_.fmod (ns.length : Nat)).toNat 0 * 1103515245 + 7919 * at_ + 12345).fmod 2147483647) ^ 5).fmod 2147483647).fmod 999983).fmod many := by
                    simp only [drawR, h1, h2, h3, h4, and_false, if_false]
                  rw [dr]
                  clear hws hn dr
                  have pm := modpow ((ns.getD (at_ % (ns.length : Nat)).toNat 0 * 1103515245 + 7919 * at_ + 12345))
                  simp only [fnB, en, List.map_cons, List.map_nil, List.length_cons, List.length_nil, List.replicate_succ, List.replicate_zero, List.cons_append, List.nil_append, List.append_nil, List.getElem?_cons_zero, List.getElem?_cons_succ, List.set_cons_zero, List.set_cons_succ,  Nat.zero_add, Nat.reduceAdd, Nat.reduceSub, Nat.sub_self, Nat.reduceEqDiff,  eVar, eC, eOp, eUn, aNil, aCons, eTup, eLst, eCall, eIf, eAnd, eOr, eNot, tVal, tAndW, tOrW, tNotW, eChain, sNext, sBrk, sCnt, sNever, sSeq, sRet, sRetN, sDrop, sIf, sAsg, sPar, sPar3, gN, gsNil, gsCons, gTupW, Option.bind_some, Option.bind_none,  s0, s1, s2, s3, s4, s6, subW, ltW, leW, gtW, geW, iop0, iop, modW, fdivW, powW, addW, mulW, negW, isi_int_int, isi_int_bool, isi_bl_int, isi_bl_bool, isi_non_int, isi_str_int, isi_tup_int, isi_tup_tup, eq_int, ne_int, len_p, len_6, len_l1, decide_true, decide_false, Int.reduceEq, Int.reduceNeg, absW, minW, ix_p0, ix_p1, ix_r0, ix_r1, ix_r2, ix_r3, ix_r4, ix_r5, if_true, if_false, ite_true, ite_false, Bool.not_true, Bool.not_false, Bool.false_eq_true, reduceIte, ↓reduceIte, gSubW, ix_t0 hS, ix_t1 hS, set_t1 hS, set_t0 hS, ix0_t0 hS, sAugS, q, pw1, pw2, lw, n1, n2, ne_eq, not_false_eq_true, and_self, and_false, false_and, true_and, and_true, *]
                  rfl
                · have dr : (drawR ns at_ lf many).2 = (at_ + 1, lf) := by
                    simp only [drawR, h1, h2, h3, h4, and_false, if_false]
                  rw [dr]
                  exact gc_town hS
            · have mx : ¬ ((ns.length : Nat) : Int) = 0 := by omega
              have f1 : at_.fmod (ns.length : Nat) = at_ % (ns.length : Nat) := Int.fmod_eq_emod_of_nonneg _ (by omega)
              have g1 : 0 ≤ at_ % (ns.length : Nat) := Int.emod_nonneg _ mx
              have g2 : at_ % (ns.length : Nat) < (ns.length : Nat) := Int.emod_lt_of_pos _ (by omega)
              have gy : ∀ S, ixW (.fz ws) (.int (at_ % (ns.length : Nat))) S = some (.int (ns.getD (at_ % (ns.length : Nat)).toNat 0), S) := fun S => by rw [hws]; exact ix_fz g1 g2
              have om1 : okMul (ns.getD (at_ % (ns.length : Nat)).toNat 0) 1103515245 := .inr (.inl (by decide))
              have om2 : okMul 7919 at_ := .inl (by decide)
              refine ⟨(.int (drawR ns at_ lf many).1, S.set n (tn (at_ + 1) lf) ++ [.lst []]), ?_, ?_⟩
              · have dr : (drawR ns at_ lf many).1 = (((((ns.getD (at_.fmod (ns.length : Nat)).toNat 0 * 1103515245 + 7919 * at_ + 12345).fmod 2147483647) ^ 5).fmod 2147483647).fmod 999983).fmod many := by
                  simp only [drawR, h1, h2, h3, false_and, if_false]
                rw [dr]
                clear hws hn dr
                have pm := modpow ((ns.getD (at_ % (ns.length : Nat)).toNat 0 * 1103515245 + 7919 * at_ + 12345))
                simp only [fnB, en, List.map_cons, List.map_nil, List.length_cons, List.length_nil, List.replicate_succ, List.replicate_zero, List.cons_append, List.nil_append, List.append_nil, List.getElem?_cons_zero, List.getElem?_cons_succ, List.set_cons_zero, List.set_cons_succ,  Nat.zero_add, Nat.reduceAdd, Nat.reduceSub, Nat.sub_self, Nat.reduceEqDiff,  eVar, eC, eOp, eUn, aNil, aCons, eTup, eLst, eCall, eIf, eAnd, eOr, eNot, tVal, tAndW, tOrW, tNotW, eChain, sNext, sBrk, sCnt, sNever, sSeq, sRet, sRetN, sDrop, sIf, sAsg, sPar, sPar3, gN, gsNil, gsCons, gTupW, Option.bind_some, Option.bind_none,  s0, s1, s2, s3, s4, s6, subW, ltW, leW, gtW, geW, iop0, iop, modW, fdivW, powW, addW, mulW, negW, isi_int_int, isi_int_bool, isi_bl_int, isi_bl_bool, isi_non_int, isi_str_int, isi_tup_int, isi_tup_tup, eq_int, ne_int, len_p, len_6, len_l1, decide_true, decide_false, Int.reduceEq, Int.reduceNeg, absW, minW, ix_p0, ix_p1, ix_r0, ix_r1, ix_r2, ix_r3, ix_r4, ix_r5, if_true, if_false, ite_true, ite_false, Bool.not_true, Bool.not_false, Bool.false_eq_true, reduceIte, ↓reduceIte, gSubW, ix_t0 hS, ix_t1 hS, set_t1 hS, set_t0 hS, ix0_t0 hS, sAugS, q, pw1, pw2, lw, n1, n2, ne_eq, not_false_eq_true, and_self, and_false, false_and, true_and, and_true, *]
                rfl
              · have dr : (drawR ns at_ lf many).2 = (at_ + 1, lf) := by
                  simp only [drawR, h1, h2, h3, false_and, if_false]
                rw [dr]
                exact gc_town hS
      · cases h
    · cases h
  · cases h
theorem l__law_draw : ∀ ws S r, G__law_draw ws S = some r → ws.length = 3 := by
  intro ws S r h
  unfold G__law_draw at h
  split at h <;> first | rfl | cases h
end Bp

/-! Lw2: draws at hand; _law_run, _law_gcd, _law_low, _law_unit. -/
namespace Bp
set_option autoImplicit false
open PySem L2
theorem draw_ok {ns : List Int} {at_ lf many : Int} (hm : 0 < many) (ha : 0 ≤ at_) : 0 ≤ (drawR ns at_ lf many).1 ∧ (drawR ns at_ lf many).1 < many ∧ 0 ≤ (drawR ns at_ lf many).2.1 := by
  have f : ∀ i : Int, 0 ≤ i.fmod many ∧ i.fmod many < many := fun i => by
    rw [Int.fmod_eq_emod_of_nonneg _ (by omega)]
    exact ⟨Int.emod_nonneg _ (by omega), Int.emod_lt_of_pos _ hm⟩
  unfold drawR
  split
  · exact ⟨(f _).1, (f _).2, ha⟩
  · split
    · exact ⟨(f _).1, (f _).2, by show 0 ≤ at_ + 1; omega⟩
    · split
      · exact ⟨(f _).1, (f _).2, by show 0 ≤ at_ + 1; omega⟩
      · exact ⟨(f _).1, (f _).2, by show 0 ≤ at_ + 1; omega⟩
theorem draw_at {ns : List Int} {at_ lf many : Int} {S : Sto} {n : Nat} (hm : 0 < many) (hm2 : many < 2 ^ 64) (ha : 0 ≤ at_) (hS : S[n]? = some (tn at_ lf)) :
    G__law_draw [.fz (ns.map W.int), .ref n, .int many] S = some (.int (drawR ns at_ lf many).1, S.set n (tn (drawR ns at_ lf many).2.1 (drawR ns at_ lf many).2.2)) := by
  simp only [G__law_draw, hS, intsOf_map, hm, hm2, ha, and_self, if_true]
/-- the town stands first -/
theorem draw0 (ns : List Int) (at_ lf many : Int) (Y : Sto) (hm : 0 < many) (hm2 : many < 2 ^ 64) (ha : 0 ≤ at_) :
    ∃ r a' l', 0 ≤ r ∧ r < many ∧ 0 ≤ a' ∧ G__law_draw [.fz (ns.map W.int), .ref 0, .int many] (tn at_ lf :: Y) = some (.int r, tn a' l' :: Y) := by
  obtain ⟨h1, h2, h3⟩ := draw_ok (ns := ns) (lf := lf) hm ha
  exact ⟨_, _, _, h1, h2, h3, draw_at hm hm2 ha rfl⟩
/-! ### _law_pick -/
/-- _law_pick(script, town, some); slots 0:script 1:town 2:some -/
noncomputable def b__law_pick : Fs := sRet (eOp ixW (eVar 2) (eCall G__law_draw (aCons (eVar 0) (aCons (eVar 1) (aCons (eCall lenW (aCons (eVar 2) (aNil))) (aNil))))))
/-! ### _law_run -/
/-- _law_run(script, town, side, speed); slots 0:script 1:town 2:side 3:speed 4:w 5:h 6:a 7:b -/
noncomputable def b__law_run : Fs := sSeq (sPar 4 5 (aCons (eOp addW (eC (.int 1)) (eCall G__law_draw (aCons (eVar 0) (aCons (eVar 1) (aCons (eVar 2) (aNil)))))) (aCons (eOp addW (eC (.int 1)) (eCall G__law_draw (aCons (eVar 0) (aCons (eVar 1) (aCons (eVar 2) (aNil)))))) (aNil)))) (sSeq (sPar 6 7 (aCons (eOp subW (eCall G__law_draw (aCons (eVar 0) (aCons (eVar 1) (aCons (eOp addW (eOp mulW (eC (.int 2)) (eVar 3)) (eC (.int 1))) (aNil))))) (eVar 3)) (aCons (eOp subW (eCall G__law_draw (aCons (eVar 0) (aCons (eVar 1) (aCons (eOp addW (eOp mulW (eC (.int 2)) (eVar 3)) (eC (.int 1))) (aNil))))) (eVar 3)) (aNil)))) (sSeq (sIf (tAndW (tVal (eOp eqW (eVar 6) (eC (.int 0)))) (tVal (eOp eqW (eVar 7) (eC (.int 0))))) (sAsg (eC (.int 1)) (gN 7)) (sNext)) (sRet (eTup (aCons (eVar 4) (aCons (eVar 5) (aCons (eCall G__law_draw (aCons (eVar 0) (aCons (eVar 1) (aCons (eOp addW (eVar 4) (eC (.int 1))) (aNil))))) (aCons (eCall G__law_draw (aCons (eVar 0) (aCons (eVar 1) (aCons (eOp addW (eVar 5) (eC (.int 1))) (aNil))))) (aCons (eVar 6) (aCons (eVar 7) (aNil)))))))))))
def G__law_run : Fn
  | [.fz ws, .ref n, .int side, .int speed], S => match S[n]?, intsOf ws with
    | some (.lst [.int at_, .int lf]), some ns => if 0 < side ∧ side < 2 ^ 60 ∧ 0 ≤ speed ∧ speed < 2 ^ 60 ∧ 0 ≤ at_ then
        let d1 := drawR ns at_ lf side
        let d2 := drawR ns d1.2.1 d1.2.2 side
        let d3 := drawR ns d2.2.1 d2.2.2 (2 * speed + 1)
        let d4 := drawR ns d3.2.1 d3.2.2 (2 * speed + 1)
        let d5 := drawR ns d4.2.1 d4.2.2 (1 + d1.1 + 1)
        let d6 := drawR ns d5.2.1 d5.2.2 (1 + d2.1 + 1)
        some (runW (1 + d1.1) (1 + d2.1) d5.1 d6.1 (d3.1 - speed) (if d3.1 - speed = 0 ∧ d4.1 - speed = 0 then 1 else d4.1 - speed), S.set n (tn d6.2.1 d6.2.2)) else none
    | _, _ => none
  | _, _ => none
theorem sset {S : Sto} {n : Nat} {o u : O} (h : S[n]? = some o) : (S.set n u)[n]? = some u := set_get h
theorem t__law_run : Tells 8 b__law_run G__law_run := by
  intro ws S r h
  refine ⟨r, ?_, .same _⟩
  unfold G__law_run at h
  split at h
  · rename_i ws n side speed
    split at h
    · rename_i at_ lf ns hS hn
      split at h
      · rename_i hb
        cases h
        obtain ⟨b1, b2, b3, b4, b5⟩ := hb
        have hws := intsOf_eq hn
        subst hws
        clear hn
        have om : okMul 2 speed := .inl (by decide)
        have q1 := draw_at (ns := ns) (S := S) (n := n) b1 (by omega) b5 hS
        have p1 := draw_ok (ns := ns) (lf := lf) b1 b5
        generalize drawR ns at_ lf side = d1 at *
        have q2 := draw_at (ns := ns) (lf := d1.2.2) b1 (by omega) p1.2.2 (set_get (u := tn d1.2.1 d1.2.2) hS)
        have p2 := draw_ok (ns := ns) (lf := d1.2.2) b1 p1.2.2
        rw [set_set] at q2
        generalize drawR ns d1.2.1 d1.2.2 side = d2 at *
        have q3 := draw_at (ns := ns) (lf := d2.2.2) (many := 2 * speed + 1) (by omega) (by omega) p2.2.2 (set_get (u := tn d2.2.1 d2.2.2) hS)
        have p3 := draw_ok (ns := ns) (lf := d2.2.2) (many := 2 * speed + 1) (by omega) p2.2.2
        rw [set_set] at q3
        generalize drawR ns d2.2.1 d2.2.2 (2 * speed + 1) = d3 at *
        have q4 := draw_at (ns := ns) (lf := d3.2.2) (many := 2 * speed + 1) (by omega) (by omega) p3.2.2 (set_get (u := tn d3.2.1 d3.2.2) hS)
        have p4 := draw_ok (ns := ns) (lf := d3.2.2) (many := 2 * speed + 1) (by omega) p3.2.2
        rw [set_set] at q4
        generalize drawR ns d3.2.1 d3.2.2 (2 * speed + 1) = d4 at *
        have q5 := draw_at (ns := ns) (lf := d4.2.2) (many := 1 + d1.1 + 1) (by omega) (by omega) p4.2.2 (set_get (u := tn d4.2.1 d4.2.2) hS)
        have p5 := draw_ok (ns := ns) (lf := d4.2.2) (many := 1 + d1.1 + 1) (by omega) p4.2.2
        rw [set_set] at q5
        generalize drawR ns d4.2.1 d4.2.2 (1 + d1.1 + 1) = d5 at *
        have q6 := draw_at (ns := ns) (lf := d5.2.2) (many := 1 + d2.1 + 1) (by omega) (by omega) p5.2.2 (set_get (u := tn d5.2.1 d5.2.2) hS)
        rw [set_set] at q6
        generalize drawR ns d5.2.1 d5.2.2 (1 + d2.1 + 1) = d6 at *
        generalize ns.map W.int = ws at *
        unfold b__law_run
        by_cases z1 : d3.1 - speed = 0
        · by_cases z2 : d4.1 - speed = 0
          · simp only [fnB, en, List.map_cons, List.map_nil, List.length_cons, List.length_nil, List.replicate_succ, List.replicate_zero, List.cons_append, List.nil_append, List.append_nil, List.getElem?_cons_zero, List.getElem?_cons_succ, List.set_cons_zero, List.set_cons_succ,  Nat.zero_add, Nat.reduceAdd, Nat.reduceSub, Nat.sub_self, Nat.reduceEqDiff,  eVar, eC, eOp, eUn, aNil, aCons, eTup, eLst, eCall, eIf, eAnd, eOr, eNot, tVal, tAndW, tOrW, tNotW, eChain, sNext, sBrk, sCnt, sNever, sSeq, sRet, sRetN, sDrop, sIf, sAsg, sPar, sPar3, gN, gsNil, gsCons, gTupW, Option.bind_some, Option.bind_none,  s0, s1, s2, s3, s4, s6, subW, ltW, leW, gtW, geW, iop0, iop, modW, fdivW, powW, addW, mulW, negW, isi_int_int, isi_int_bool, isi_bl_int, isi_bl_bool, isi_non_int, isi_str_int, isi_tup_int, isi_tup_tup, eq_int, ne_int, len_p, len_6, len_l1, decide_true, decide_false, Int.reduceEq, Int.reduceNeg, absW, minW, ix_p0, ix_p1, ix_r0, ix_r1, ix_r2, ix_r3, ix_r4, ix_r5, if_true, if_false, ite_true, ite_false, Bool.not_true, Bool.not_false, Bool.false_eq_true, reduceIte, ↓reduceIte, set_set, ne_eq, not_false_eq_true, and_self, and_false, false_and, true_and, and_true, *]
          · simp only [fnB, en, List.map_cons, List.map_nil, List.length_cons, List.length_nil, List.replicate_succ, List.replicate_zero, List.cons_append, List.nil_append, List.append_nil, List.getElem?_cons_zero, List.getElem?_cons_succ, List.set_cons_zero, List.set_cons_succ,  Nat.zero_add, Nat.reduceAdd, Nat.reduceSub, Nat.sub_self, Nat.reduceEqDiff,  eVar, eC, eOp, eUn, aNil, aCons, eTup, eLst, eCall, eIf, eAnd, eOr, eNot, tVal, tAndW, tOrW, tNotW, eChain, sNext, sBrk, sCnt, sNever, sSeq, sRet, sRetN, sDrop, sIf, sAsg, sPar, sPar3, gN, gsNil, gsCons, gTupW, Option.bind_some, Option.bind_none,  s0, s1, s2, s3, s4, s6, subW, ltW, leW, gtW, geW, iop0, iop, modW, fdivW, powW, addW, mulW, negW, isi_int_int, isi_int_bool, isi_bl_int, isi_bl_bool, isi_non_int, isi_str_int, isi_tup_int, isi_tup_tup, eq_int, ne_int, len_p, len_6, len_l1, decide_true, decide_false, Int.reduceEq, Int.reduceNeg, absW, minW, ix_p0, ix_p1, ix_r0, ix_r1, ix_r2, ix_r3, ix_r4, ix_r5, if_true, if_false, ite_true, ite_false, Bool.not_true, Bool.not_false, Bool.false_eq_true, reduceIte, ↓reduceIte, set_set, ne_eq, not_false_eq_true, and_self, and_false, false_and, true_and, and_true, *]
        · simp only [fnB, en, List.map_cons, List.map_nil, List.length_cons, List.length_nil, List.replicate_succ, List.replicate_zero, List.cons_append, List.nil_append, List.append_nil, List.getElem?_cons_zero, List.getElem?_cons_succ, List.set_cons_zero, List.set_cons_succ,  Nat.zero_add, Nat.reduceAdd, Nat.reduceSub, Nat.sub_self, Nat.reduceEqDiff,  eVar, eC, eOp, eUn, aNil, aCons, eTup, eLst, eCall, eIf, eAnd, eOr, eNot, tVal, tAndW, tOrW, tNotW, eChain, sNext, sBrk, sCnt, sNever, sSeq, sRet, sRetN, sDrop, sIf, sAsg, sPar, sPar3, gN, gsNil, gsCons, gTupW, Option.bind_some, Option.bind_none,  s0, s1, s2, s3, s4, s6, subW, ltW, leW, gtW, geW, iop0, iop, modW, fdivW, powW, addW, mulW, negW, isi_int_int, isi_int_bool, isi_bl_int, isi_bl_bool, isi_non_int, isi_str_int, isi_tup_int, isi_tup_tup, eq_int, ne_int, len_p, len_6, len_l1, decide_true, decide_false, Int.reduceEq, Int.reduceNeg, absW, minW, ix_p0, ix_p1, ix_r0, ix_r1, ix_r2, ix_r3, ix_r4, ix_r5, if_true, if_false, ite_true, ite_false, Bool.not_true, Bool.not_false, Bool.false_eq_true, reduceIte, ↓reduceIte, set_set, ne_eq, not_false_eq_true, and_self, and_false, false_and, true_and, and_true, *]
      · cases h
    · cases h
  · cases h
theorem l__law_run : ∀ ws S r, G__law_run ws S = some r → ws.length = 4 := by
  intro ws S r h
  unfold G__law_run at h
  split at h <;> first | rfl | cases h
theorem run0 (ns : List Int) (at_ lf side speed : Int) (Y : Sto) (h1 : 0 < side) (h2 : side < 2 ^ 60) (h3 : 0 < speed) (h4 : speed < 2 ^ 60) (ha : 0 ≤ at_) :
    ∃ w h x y a b a' l', (1 ≤ w ∧ w ≤ side) ∧ (1 ≤ h ∧ h ≤ side) ∧ (0 ≤ x ∧ x ≤ w) ∧ (0 ≤ y ∧ y ≤ h) ∧ (-speed ≤ a ∧ a ≤ speed) ∧ (-speed ≤ b ∧ b ≤ speed) ∧ ¬ (a = 0 ∧ b = 0) ∧ 0 ≤ a' ∧
      G__law_run [.fz (ns.map W.int), .ref 0, .int side, .int speed] (tn at_ lf :: Y) = some (runW w h x y a b, tn a' l' :: Y) := by
  have p1 := draw_ok (ns := ns) (lf := lf) h1 ha
  have e : G__law_run [.fz (ns.map W.int), .ref 0, .int side, .int speed] (tn at_ lf :: Y) = G__law_run [.fz (ns.map W.int), .ref 0, .int side, .int speed] (tn at_ lf :: Y) := rfl
  have h3' : 0 ≤ speed := by omega
  conv at e => rhs; simp only [G__law_run, List.getElem?_cons_zero, intsOf_map, h1, h2, h3', h4, ha, and_self, if_true, List.set_cons_zero]
  generalize drawR ns at_ lf side = d1 at *
  have p2 := draw_ok (ns := ns) (lf := d1.2.2) h1 p1.2.2
  generalize drawR ns d1.2.1 d1.2.2 side = d2 at *
  have p3 := draw_ok (ns := ns) (lf := d2.2.2) (many := 2 * speed + 1) (by omega) p2.2.2
  generalize drawR ns d2.2.1 d2.2.2 (2 * speed + 1) = d3 at *
  have p4 := draw_ok (ns := ns) (lf := d3.2.2) (many := 2 * speed + 1) (by omega) p3.2.2
  generalize drawR ns d3.2.1 d3.2.2 (2 * speed + 1) = d4 at *
  have p5 := draw_ok (ns := ns) (lf := d4.2.2) (many := 1 + d1.1 + 1) (by omega) p4.2.2
  generalize drawR ns d4.2.1 d4.2.2 (1 + d1.1 + 1) = d5 at *
  have p6 := draw_ok (ns := ns) (lf := d5.2.2) (many := 1 + d2.1 + 1) (by omega) p5.2.2
  generalize drawR ns d5.2.1 d5.2.2 (1 + d2.1 + 1) = d6 at *
  refine ⟨_, _, _, _, _, _, _, _, ⟨?_, ?_⟩, ⟨?_, ?_⟩, ⟨?_, ?_⟩, ⟨?_, ?_⟩, ⟨?_, ?_⟩, ⟨?_, ?_⟩, ?_, ?_, e⟩
  all_goals first | omega | (split <;> omega)
/-! ### _law_gcd, _law_low -/
/-- _law_gcd(one, two); slots 0:one 1:two -/
noncomputable def b__law_gcd : Fs := sSeq (sPar 0 1 (aCons (eCall absW (aCons (eVar 0) (aNil))) (aCons (eCall absW (aCons (eVar 1) (aNil))) (aNil)))) (sSeq (sWhile (tVal (eOp gtW (eVar 1) (eC (.int 0)))) (sPar 0 1 (aCons (eVar 1) (aCons (eOp modW (eVar 0) (eVar 1)) (aNil))))) (sRet (eVar 0)))
def G__law_gcd : Fn
  | [.int a, .int b], S => if b.natAbs < big then some (.int (Int.gcd a b : Nat), S) else none
  | _, _ => none
theorem t__law_gcd : Tells 2 b__law_gcd G__law_gcd := t_common_of
theorem l__law_gcd : ∀ ws S r, G__law_gcd ws S = some r → ws.length = 2 := by
  intro ws S r h
  unfold G__law_gcd at h
  split at h <;> first | rfl | cases h
/-- _law_low(top, bottom); slots 0:top 1:bottom 2:common -/
noncomputable def b__law_low : Fs := sSeq (sAsg (eCall G__law_gcd (aCons (eVar 0) (aCons (eVar 1) (aNil)))) (gN 2)) (sSeq (sIf (tVal (eOp ltW (eVar 1) (eC (.int 0)))) (sAsg (eUn negW (eVar 2)) (gN 2)) (sNext)) (sRet (eTup (aCons (eOp fdivW (eVar 0) (eVar 2)) (aCons (eOp fdivW (eVar 1) (eVar 2)) (aNil))))))
def G__law_low : Fn
  | [.int n, .int d], S => if d ≠ 0 ∧ d.natAbs < big then some (fr (low n d), S) else none
  | _, _ => none
theorem t__law_low : Tells 3 b__law_low G__law_low := t_lowest
theorem l__law_low : ∀ ws S r, G__law_low ws S = some r → ws.length = 2 := by
  intro ws S r h
  unfold G__law_low at h
  split at h <;> first | rfl | cases h
/-! ### _law_unit -/
/-- _law_unit(numbers); slots 0:numbers 1:unit 2:number -/
noncomputable def b__law_unit : Fs := sSeq (sAsg (eC (.int 1)) (gN 1)) (sSeq (sFor (iSeq (eVar 0)) (gN 2) (sIf (tVal (eOp neW (eVar 2) (eC (.int 0)))) (sAsg (eOp fdivW (eOp mulW (eVar 1) (eCall absW (aCons (eVar 2) (aNil)))) (eCall G__law_gcd (aCons (eVar 1) (aCons (eVar 2) (aNil))))) (gN 1)) (sNext))) (sRet (eVar 1)))
def unitR : List Int → Int → Int
  | [], u => u
  | n :: ns, u => unitR ns (if n = 0 then u else (u * (n.natAbs : Nat)).fdiv (Int.gcd u n : Nat))
def okNums (S : Sto) (w : W) : Option (List Int) := (seqOf S w).bind fun xs => intsOf xs
def G__law_unit : Fn
  | [w], S => match okNums S w with
    | some ns => if ∀ n ∈ ns, n.natAbs < 2 ^ 64 then some (.int (unitR ns 1), S) else none
    | _ => none
  | _, _ => none
theorem unitR_pos : ∀ {ns : List Int} {u : Int}, 0 < u → 0 < unitR ns u ∧ u ∣ unitR ns u ∧ ∀ n ∈ ns, n ≠ 0 → n ∣ unitR ns u
  | [], u, h => ⟨h, Int.dvd_refl _, by simp⟩
  | n :: ns, u, h => by
    unfold unitR
    by_cases h0 : n = 0
    · rw [if_pos h0]
      obtain ⟨a, b, c⟩ := unitR_pos (ns := ns) h
      exact ⟨a, b, fun m hm hz => by
        rcases List.mem_cons.mp hm with rfl | hm
        · exact absurd h0 hz
        · exact c m hm hz⟩
    · rw [if_neg h0]
      have gp : 0 < Int.gcd u n := gcd_pos h0
      have e : (u * (n.natAbs : Nat)).fdiv (Int.gcd u n : Nat) = u * ((n.natAbs : Nat) / (Int.gcd u n : Nat)) := by
        rw [Int.fdiv_eq_ediv_of_nonneg _ (by omega)]
        apply Int.mul_ediv_assoc
        have : ((Int.gcd u n : Nat) : Int) ∣ n := Int.gcd_dvd_right ..
        exact Int.dvd_natAbs.mpr this
      have d1 : ((Int.gcd u n : Nat) : Int) ∣ u := Int.gcd_dvd_left ..
      have d2 : ((Int.gcd u n : Nat) : Int) ∣ (n.natAbs : Nat) := Int.dvd_natAbs.mpr (Int.gcd_dvd_right ..)
      have kp : 0 < ((n.natAbs : Nat) : Int) / (Int.gcd u n : Nat) := by
        obtain ⟨k, hk⟩ := d2
        rw [hk, Int.mul_ediv_cancel_left _ (by omega)]
        exact Int.pos_of_mul_pos_right (a := ((Int.gcd u n : Nat) : Int)) (by rw [← hk]; omega) (by omega)
      have vp : 0 < (u * (n.natAbs : Nat)).fdiv (Int.gcd u n : Nat) := by rw [e]; exact Int.mul_pos h kp
      obtain ⟨a, b, c⟩ := unitR_pos (ns := ns) vp
      refine ⟨a, Int.dvd_trans (by rw [e]; exact Int.dvd_mul_right ..) b, fun m hm hz => ?_⟩
      rcases List.mem_cons.mp hm with rfl | hm
      · refine Int.dvd_trans ?_ b
        rw [e]
        obtain ⟨k, hk⟩ := d1
        obtain ⟨l, hl⟩ := d2
        have : u * ((m.natAbs : Nat) / (Int.gcd u m : Nat)) = k * (m.natAbs : Nat) := by
          have z : ((m.natAbs : Nat) : Int) / (Int.gcd u m : Nat) = l := by
            conv => lhs; lhs; rw [hl]
            exact Int.mul_ediv_cancel_left _ (by omega)
          rw [z]
          conv => lhs; lhs; rw [hk]
          conv => rhs; rhs; rw [hl]
          grind
        rw [this]
        exact Int.dvd_mul_of_dvd_right (Int.dvd_natAbs.mpr (Int.dvd_refl m))
      · exact c m hm hz
theorem unitR_le : ∀ {ns : List Int} {u B : Int}, 0 < u → (∀ n ∈ ns, n.natAbs ≤ B) → 0 < B → unitR ns u ≤ u * B ^ ns.length
  | [], u, B, h, _, _ => by simp [unitR]
  | n :: ns, u, B, h, hb, hB => by
    unfold unitR
    have hn := hb n (by simp)
    by_cases h0 : n = 0
    · rw [if_pos h0]
      have := unitR_le (ns := ns) (B := B) h (fun m hm => hb m (List.mem_cons_of_mem _ hm)) hB
      refine Int.le_trans this ?_
      rw [List.length_cons]
      apply Int.mul_le_mul_of_nonneg_left _ (by omega)
      rw [Int.pow_succ]
      have : 0 < B ^ ns.length := Int.pow_pos hB
      have : B ^ ns.length * 1 ≤ B ^ ns.length * B := Int.mul_le_mul_of_nonneg_left (by omega) (by omega)
      omega
    · rw [if_neg h0]
      have gp : 0 < Int.gcd u n := gcd_pos h0
      have up := (unitR_pos (ns := [n]) h).1
      simp only [unitR, h0, if_false] at up
      have := unitR_le (ns := ns) (B := B) up (fun m hm => hb m (List.mem_cons_of_mem _ hm)) hB
      refine Int.le_trans this ?_
      rw [List.length_cons, Int.pow_succ, Int.mul_comm (B ^ ns.length) B, ← Int.mul_assoc]
      apply Int.mul_le_mul_of_nonneg_right _ (Int.le_of_lt (Int.pow_pos hB))
      rw [Int.fdiv_eq_ediv_of_nonneg _ (by omega)]
      have h1 : u * (n.natAbs : Nat) / (Int.gcd u n : Nat) ≤ u * (n.natAbs : Nat) := Int.ediv_le_self _ (Int.mul_nonneg (by omega) (by omega))
      have h2 : u * (n.natAbs : Nat) ≤ u * B := Int.mul_le_mul_of_nonneg_left hn (by omega)
      omega
theorem unit_loop (S : Sto) (chk : Sto → Prop) (hc : chk S) (w : W) : ∀ (ns : List Int) (u : Int) (v : Option W), (∀ n ∈ ns, n.natAbs < 2 ^ 64) → ∃ v', forF (gN 2) (sIf (tVal (eOp neW (eVar 2) (eC (.int 0)))) (sAsg (eOp fdivW (eOp mulW (eVar 1) (eCall absW (aCons (eVar 2) (aNil)))) (eCall G__law_gcd (aCons (eVar 1) (aCons (eVar 2) (aNil))))) (gN 1)) (sNext)) chk (ns.map W.int) [some w, some (.int u), v] S = some (.next [some w, some (.int (unitR ns u)), v'], S)
  | [], u, v, _ => ⟨v, by simp only [List.map_nil, forF_nil, hc, if_true, unitR]⟩
  | n :: ns, u, v, hb => by
    have hn := hb n (by simp)
    by_cases h0 : n = 0
    · obtain ⟨v', h⟩ := unit_loop S chk hc w ns u (some (.int n)) (fun m hm => hb m (List.mem_cons_of_mem _ hm))
      refine ⟨v', ?_⟩
      rw [List.map_cons, forF_cons, if_pos hc]
      unfold unitR
      rw [if_pos h0]
      subst h0
      simp only [gN, Option.bind_some]
      rw [← h]
      simp only [fnB, en, List.map_cons, List.map_nil, List.length_cons, List.length_nil, List.replicate_succ, List.replicate_zero, List.cons_append, List.nil_append, List.append_nil, List.getElem?_cons_zero, List.getElem?_cons_succ, List.set_cons_zero, List.set_cons_succ,  Nat.zero_add, Nat.reduceAdd, Nat.reduceSub, Nat.sub_self, Nat.reduceEqDiff,  eVar, eC, eOp, eUn, aNil, aCons, eTup, eLst, eCall, eIf, eAnd, eOr, eNot, tVal, tAndW, tOrW, tNotW, eChain, sNext, sBrk, sCnt, sNever, sSeq, sRet, sRetN, sDrop, sIf, sAsg, sPar, sPar3, gN, gsNil, gsCons, gTupW, Option.bind_some, Option.bind_none,  s0, s1, s2, s3, s4, s6, subW, ltW, leW, gtW, geW, iop0, iop, modW, fdivW, powW, addW, mulW, negW, isi_int_int, isi_int_bool, isi_bl_int, isi_bl_bool, isi_non_int, isi_str_int, isi_tup_int, isi_tup_tup, eq_int, ne_int, len_p, len_6, len_l1, decide_true, decide_false, Int.reduceEq, Int.reduceNeg, absW, minW, ix_p0, ix_p1, ix_r0, ix_r1, ix_r2, ix_r3, ix_r4, ix_r5, if_true, if_false, ite_true, ite_false, Bool.not_true, Bool.not_false, Bool.false_eq_true, reduceIte, ↓reduceIte, G__law_gcd, abs_nat, ne_eq, not_false_eq_true, and_self, and_false, false_and, true_and, and_true, *]
    · have gl := gcd_le (n := u) h0
      have gp : 0 < Int.gcd u n := gcd_pos h0
      obtain ⟨v', h⟩ := unit_loop S chk hc w ns ((u * (n.natAbs : Nat)).fdiv (Int.gcd u n : Nat)) (some (.int n)) (fun m hm => hb m (List.mem_cons_of_mem _ hm))
      refine ⟨v', ?_⟩
      rw [List.map_cons, forF_cons, if_pos hc]
      unfold unitR
      rw [if_neg h0, ← h]
      have k1 : okMul u ((n.natAbs : Nat) : Int) := .inr (.inl (by simp only [Int.natAbs_natCast]; omega))
      have k2 : okDiv ((Int.gcd u n : Nat) : Int) := okDiv_of (by omega) (big_lt (by simp only [Int.natAbs_natCast]; omega))
      have k3 : n.natAbs < big := big_lt hn
      clear h
      simp only [fnB, en, List.map_cons, List.map_nil, List.length_cons, List.length_nil, List.replicate_succ, List.replicate_zero, List.cons_append, List.nil_append, List.append_nil, List.getElem?_cons_zero, List.getElem?_cons_succ, List.set_cons_zero, List.set_cons_succ,  Nat.zero_add, Nat.reduceAdd, Nat.reduceSub, Nat.sub_self, Nat.reduceEqDiff,  eVar, eC, eOp, eUn, aNil, aCons, eTup, eLst, eCall, eIf, eAnd, eOr, eNot, tVal, tAndW, tOrW, tNotW, eChain, sNext, sBrk, sCnt, sNever, sSeq, sRet, sRetN, sDrop, sIf, sAsg, sPar, sPar3, gN, gsNil, gsCons, gTupW, Option.bind_some, Option.bind_none,  s0, s1, s2, s3, s4, s6, subW, ltW, leW, gtW, geW, iop0, iop, modW, fdivW, powW, addW, mulW, negW, isi_int_int, isi_int_bool, isi_bl_int, isi_bl_bool, isi_non_int, isi_str_int, isi_tup_int, isi_tup_tup, eq_int, ne_int, len_p, len_6, len_l1, decide_true, decide_false, Int.reduceEq, Int.reduceNeg, absW, minW, ix_p0, ix_p1, ix_r0, ix_r1, ix_r2, ix_r3, ix_r4, ix_r5, if_true, if_false, ite_true, ite_false, Bool.not_true, Bool.not_false, Bool.false_eq_true, reduceIte, ↓reduceIte, G__law_gcd, abs_nat, ne_eq, not_false_eq_true, and_self, and_false, false_and, true_and, and_true, *]
theorem iSeq_of {S : Sto} {w : W} {xs : List W} (hs : seqOf S w = some xs) : ∃ chk : Sto → Prop, chk S ∧ ∀ (f : Fe) (e : En) (S0 : Sto), f e S0 = some (w, S) → iSeq f e S0 = some (⟨xs, chk⟩, S) := by
  cases w with
  | tup ys => cases hs; exact ⟨fun _ => True, trivial, fun f e S0 h => by simp only [iSeq, h, Option.bind_some]⟩
  | fz ys => cases hs; exact ⟨fun _ => True, trivial, fun f e S0 h => by simp only [iSeq, h, Option.bind_some]⟩
  | ref n =>
    simp only [seqOf] at hs
    split at hs
    · rename_i hx
      cases hs
      exact ⟨fun S => S[n]? = some (.lst xs), hx, fun f e S0 h => by simp only [iSeq, h, Option.bind_some, hx]⟩
    · cases hs
  | _ => cases hs
theorem t__law_unit : Tells 3 b__law_unit G__law_unit := by
  intro ws S r h
  refine ⟨r, ?_, .same _⟩
  unfold G__law_unit at h
  split at h
  · rename_i w
    split at h
    · rename_i ns hns
      split at h
      · rename_i hb
        cases h
        obtain ⟨xs, e1, e2⟩ := bindS hns
        have e3 := intsOf_eq e2
        subst e3
        unfold b__law_unit
        obtain ⟨chk, hc, it⟩ := iSeq_of e1
        obtain ⟨v', hl⟩ := unit_loop S chk hc w ns 1 none hb
        simp only [fnB, en, List.map_cons, List.map_nil, List.length_cons, List.length_nil, Nat.zero_add, Nat.reduceSub, List.replicate_succ, List.replicate_zero, List.cons_append, List.nil_append, sSeq, sAsg, eC, gN, Option.bind_some, List.set_cons_succ, List.set_cons_zero, sFor]
        rw [it (eVar 0) _ S rfl]
        simp only [Option.bind_some]
        rw [hl]
        simp only [Option.bind_some, sRet, eVar, List.getElem?_cons_succ, List.getElem?_cons_zero]
      · cases h
    · cases h
  · cases h
theorem l__law_unit : ∀ ws S r, G__law_unit ws S = some r → ws.length = 1 := by
  intro ws S r h
  unfold G__law_unit at h
  split at h <;> first | rfl | cases h
end Bp

/-! Mt1: folds, steps of the walk, lowest terms (no program). -/
namespace Bp
set_option autoImplicit false
/-! ### fold -/
theorem emod_bounds {z m : Int} (h : 0 < m) : 0 ≤ z % (2 * m) ∧ z % (2 * m) < 2 * m := ⟨Int.emod_nonneg _ (by omega), Int.emod_lt_of_pos _ (by omega)⟩
theorem foldI_bounds {z m : Int} (h : 0 < m) : 0 ≤ foldI z m ∧ foldI z m ≤ m := by
  obtain ⟨h1, h2⟩ := emod_bounds (z := z) h
  unfold foldI
  split <;> omega
theorem foldI_scale {c z m : Int} (hc : 0 < c) : foldI (c * z) (c * m) = c * foldI z m := by
  have e : c * z % (2 * (c * m)) = c * (z % (2 * m)) := by
    rw [show 2 * (c * m) = c * (2 * m) by grind]
    exact Int.mul_emod_mul_of_pos _ _ hc
  unfold foldI
  rw [e]
  generalize hr : z % (2 * m) = r
  have e2 : 2 * (c * m) - c * r = c * (2 * m - r) := by grind
  rw [e2]
  by_cases h : 2 * m - r < r
  · rw [if_pos h, if_pos (Int.mul_lt_mul_of_pos_left h hc)]
  · rw [if_neg h, if_neg (fun z => h (Int.lt_of_mul_lt_mul_left z (Int.le_of_lt hc)))]
theorem foldI_add {z m k : Int} : foldI (z + 2 * m * k) m = foldI z m := by
  unfold foldI
  rw [Int.add_mul_emod_self_left]
theorem foldI_neg {z m : Int} (h : 0 < m) : foldI (-z) m = foldI z m := by
  obtain ⟨h1, h2⟩ := emod_bounds (z := z) h
  have e : (-z) % (2 * m) = if z % (2 * m) = 0 then 0 else 2 * m - z % (2 * m) := by
    have q := Int.emod_add_mul_ediv z (2 * m)
    split
    · rename_i h0
      exact Int.emod_eq_zero_of_dvd (Int.dvd_neg.mpr (Int.dvd_of_emod_eq_zero h0))
    · rw [show -z = (2 * m - z % (2 * m)) + 2 * m * (-(z / (2 * m)) - 1) by grind, Int.add_mul_emod_self_left]
      exact Int.emod_eq_of_lt (by omega) (by omega)
  unfold foldI
  rw [e]
  split <;> split <;> split <;> omega
theorem foldI_self {z m : Int} (h0 : 0 ≤ z) (h1 : z ≤ m) (hm : 0 < m) : foldI z m = z := by
  unfold foldI
  rw [Int.emod_eq_of_lt h0 (by omega)]
  split <;> omega
/-! ### one step of the walk -/
def dirI (z m a : Int) : Int := if 0 < a then (if z % (2 * m) < m then a else -a) else if 0 < z % (2 * m) ∧ z % (2 * m) ≤ m then a else -a
theorem dvd_step {a u v : Int} (ha : 0 < a) (hu : a ∣ u) (hv : a ∣ v) (h : u < v) : u + a ≤ v := by
  obtain ⟨k, rfl⟩ := hu
  obtain ⟨l, rfl⟩ := hv
  have h1 : k < l := Int.lt_of_mul_lt_mul_left h (Int.le_of_lt ha)
  have h2 : a * (k + 1) ≤ a * l := Int.mul_le_mul_of_nonneg_left (by omega) (Int.le_of_lt ha)
  grind
theorem dvd_emod {a z n : Int} (h1 : a ∣ z) (h2 : a ∣ n) : a ∣ z % n := by
  have q := Int.emod_add_mul_ediv z n
  have : a ∣ n * (z / n) := Int.dvd_mul_of_dvd_left h2
  exact (Int.dvd_add_left this).mp (by rw [q]; exact h1)
theorem step_emod {z a n : Int} (hn : 0 < n) (h : 0 ≤ z % n + a) (h2 : z % n + a < n) : (z + a) % n = z % n + a := by
  have q := Int.emod_add_mul_ediv z n
  rw [show z + a = z % n + a + n * (z / n) by omega, Int.add_mul_emod_self_left]
  exact Int.emod_eq_of_lt h h2
theorem step_emod_up {z a n : Int} (hn : 0 < n) (h : z % n + a = n) : (z + a) % n = 0 := by
  have q := Int.emod_add_mul_ediv z n
  rw [show z + a = 0 + n * (z / n + 1) by grind, Int.add_mul_emod_self_left]
  exact Int.emod_eq_of_lt (by omega) (by omega)
theorem step_emod_dn {z a n : Int} (hn : 0 < n) (h : z % n + a < 0) (h2 : 0 ≤ z % n + a + n) : (z + a) % n = z % n + a + n := by
  have q := Int.emod_add_mul_ediv z n
  rw [show z + a = z % n + a + n + n * (z / n - 1) by grind, Int.add_mul_emod_self_left]
  exact Int.emod_eq_of_lt h2 (by omega)
theorem walk_step {z m a : Int} (hm : 0 < m) (ha : a ≠ 0) (h1 : a ∣ z) (h2 : a ∣ m) :
    foldI (z + a) m = foldI z m + dirI z m a ∧ dirI (z + a) m a = (if foldI (z + a) m = 0 then (a.natAbs : Int) else if foldI (z + a) m = m then -(a.natAbs : Int) else dirI z m a) := by
  obtain ⟨b1, b2⟩ := emod_bounds (z := z) hm
  have d2 : a ∣ 2 * m := Int.dvd_mul_of_dvd_right h2
  have du : a ∣ z % (2 * m) := dvd_emod h1 d2
  by_cases hp : 0 < a
  · have s1 := dvd_step hp du d2 b2
    have s2 : z % (2 * m) < m → z % (2 * m) + a ≤ m := fun h => dvd_step hp du h2 h
    have e : (z + a) % (2 * m) = if z % (2 * m) + a = 2 * m then 0 else z % (2 * m) + a := by
      split
      · exact step_emod_up (by omega) (by assumption)
      · exact step_emod (by omega) (by omega) (by omega)
    have ab : ((a.natAbs : Nat) : Int) = a := by omega
    unfold foldI dirI
    rw [e]
    generalize z % (2 * m) = u at *
    simp only [hp, if_true]
    constructor
    · repeat' split
      all_goals omega
    · repeat' split
      all_goals omega
  · have hn : 0 < -a := by omega
    have du' : -a ∣ z % (2 * m) := Int.neg_dvd.mpr du
    have s1 : 0 < z % (2 * m) → -a ≤ z % (2 * m) := fun h => by
      have := dvd_step hn (Int.dvd_zero _) du' h
      omega
    have s2 : m < z % (2 * m) → m + -a ≤ z % (2 * m) := fun h => dvd_step hn (Int.neg_dvd.mpr h2) du' h
    have s3 : -a ≤ m := by
      have := dvd_step hn (Int.dvd_zero _) (Int.neg_dvd.mpr h2) hm
      omega
    have e : (z + a) % (2 * m) = if z % (2 * m) = 0 then 2 * m + a else z % (2 * m) + a := by
      split
      · rename_i h0
        rw [step_emod_dn (by omega) (by omega) (by omega)]
        omega
      · exact step_emod (by omega) (by omega) (by omega)
    have ab : ((a.natAbs : Nat) : Int) = -a := by omega
    unfold foldI dirI
    rw [e]
    generalize z % (2 * m) = u at *
    simp only [hp, if_false]
    constructor
    · repeat' split
      all_goals omega
    · repeat' split
      all_goals omega
theorem dir_start {x m a : Int} (hm : 0 < m) (h0 : 0 ≤ x) (h1 : x ≤ m) (ha : a ≠ 0) : dirI x m a = (if x = 0 then (a.natAbs : Int) else if x = m then -(a.natAbs : Int) else a) := by
  unfold dirI
  rw [Int.emod_eq_of_lt h0 (by omega)]
  repeat' split
  all_goals omega
theorem dir_abs {z m a : Int} : (dirI z m a).natAbs = a.natAbs := by
  unfold dirI
  repeat' split
  all_goals omega
/-! ### lowest terms -/
theorem low_pos {n d : Int} (hd : 0 < d) : low n d = (n / (Int.gcd n d : Nat), d / (Int.gcd n d : Nat)) := by
  unfold low
  rw [if_neg (by omega), Int.fdiv_eq_ediv_of_nonneg _ (by omega), Int.fdiv_eq_ediv_of_nonneg _ (by omega)]
theorem low_scale {c n d : Int} (hc : 0 < c) (hd : 0 < d) : low (c * n) (c * d) = low n d := by
  rw [low_pos hd, low_pos (Int.mul_pos hc hd)]
  have e : ((Int.gcd (c * n) (c * d) : Nat) : Int) = c * (Int.gcd n d : Nat) := by
    rw [Int.gcd_mul_left]
    have : ((c.natAbs * Int.gcd n d : Nat) : Int) = (c.natAbs : Int) * (Int.gcd n d : Nat) := by simp
    rw [this]
    congr 1
    omega
  rw [e, Int.mul_ediv_mul_of_pos _ _ hc, Int.mul_ediv_mul_of_pos _ _ hc]
theorem low_spec {n d : Int} (hd : 0 < d) : 0 < (low n d).2 ∧ n * (low n d).2 = (low n d).1 * d ∧ Int.gcd (low n d).1 (low n d).2 = 1 := by
  have gp := gcd_pos (n := n) (d := d) (by omega)
  rw [low_pos hd]
  obtain ⟨k, hk⟩ : ((Int.gcd n d : Nat) : Int) ∣ n := Int.gcd_dvd_left ..
  obtain ⟨l, hl⟩ : ((Int.gcd n d : Nat) : Int) ∣ d := Int.gcd_dvd_right ..
  have q1 : n / (Int.gcd n d : Nat) = k := by
    conv => lhs; lhs; rw [hk]
    exact Int.mul_ediv_cancel_left _ (by omega)
  have q2 : d / (Int.gcd n d : Nat) = l := by
    conv => lhs; lhs; rw [hl]
    exact Int.mul_ediv_cancel_left _ (by omega)
  simp only [q1, q2]
  refine ⟨Int.pos_of_mul_pos_right (a := ((Int.gcd n d : Nat) : Int)) (by rw [← hl]; exact hd) (by omega), ?_, ?_⟩
  · conv => lhs; lhs; rw [hk]
    conv => rhs; rhs; rw [hl]
    grind
  · have e : Int.gcd n d * Int.gcd k l = Int.gcd n d := by
      have z := Int.gcd_mul_left ((Int.gcd n d : Nat) : Int) k l
      rw [← hk, ← hl] at z
      simpa using z.symm
    have : Int.gcd n d * Int.gcd k l = Int.gcd n d * 1 := by omega
    exact Nat.eq_of_mul_eq_mul_left gp this
/-- two fractions in lowest terms are one if they are worth the same -/
theorem low_eq {n d n' d' : Int} (hd : 0 < d) (hd' : 0 < d') (h : n * d' = n' * d) : low n d = low n' d' := by
  rw [← low_scale (n := n) hd' hd, ← low_scale (n := n') hd hd', Int.mul_comm d' n, h, Int.mul_comm n' d, Int.mul_comm d' d]
theorem low_inj {n d n' d' : Int} (hd : 0 < d) (hd' : 0 < d') (h : low n d = low n' d') : n * d' = n' * d := by
  obtain ⟨p1, e1, _⟩ := low_spec (n := n) hd
  obtain ⟨p2, e2, _⟩ := low_spec (n := n') hd'
  rw [h] at e1 p1
  have : (low n' d').2 * (n * d') = (low n' d').2 * (n' * d) := by
    have a1 : (low n' d').2 * (n * d') = (n * (low n' d').2) * d' := by grind
    have a2 : (low n' d').2 * (n' * d) = (n' * (low n' d').2) * d := by grind
    rw [a1, a2, e1, e2]; grind
  exact Int.eq_of_mul_eq_mul_left (by omega) this
theorem low_one (n : Int) : low n 1 = (n, 1) := by
  rw [low_pos (by decide)]
  simp
end Bp

/-! Lw3: _law_walk. -/
namespace Bp
set_option autoImplicit false
open PySem L2
/-! ### one coordinate -/
def px (x m a : Int) (t : Nat) : Int := foldI (x + a * (t : Int)) m
def dx (x m a : Int) (t : Nat) : Int := dirI (x + a * (t : Int)) m a
/-- the letter at a wall -/
def lt (lo hi : Str) (a m p : Int) : Str := if a ≠ 0 ∧ p = 0 then lo else if a ≠ 0 ∧ p = m then hi else ""
theorem dx_zero (x m : Int) (t : Nat) : dx x m 0 t = 0 := by
  unfold dx dirI
  repeat' split
  all_goals omega
theorem dx_ne {x m a : Int} {t : Nat} : dx x m a t = 0 ↔ a = 0 := by
  have := dir_abs (z := x + a * (t : Int)) (m := m) (a := a)
  unfold dx
  omega
theorem px_step {x m a : Int} {t : Nat} (hm : 0 < m) (hx : a ≠ 0 → a ∣ x) (h2 : a ≠ 0 → a ∣ m) : px x m a (t + 1) = px x m a t + dx x m a t := by
  by_cases ha : a = 0
  · subst ha
    rw [dx_zero]
    unfold px
    simp
  · have h := (walk_step (z := x + a * (t : Int)) hm ha ((Int.dvd_add_right (hx ha)).mpr (Int.dvd_mul_right ..)) (h2 ha)).1
    unfold px dx
    rw [← h]
    congr 1
    have : (((t + 1 : Nat) : Int)) = (t : Int) + 1 := by omega
    rw [this]; grind
theorem dx_step {x m a : Int} {t : Nat} (hm : 0 < m) (hx : a ≠ 0 → a ∣ x) (h2 : a ≠ 0 → a ∣ m) : dx x m a (t + 1) = (if px x m a (t + 1) = 0 then ((dx x m a t).natAbs : Int) else if px x m a (t + 1) = m then -((dx x m a t).natAbs : Int) else dx x m a t) := by
  have e : x + a * ((t + 1 : Nat) : Int) = x + a * (t : Int) + a := by
    have : (((t + 1 : Nat) : Int)) = (t : Int) + 1 := by omega
    rw [this]; grind
  have ab := dir_abs (z := x + a * (t : Int)) (m := m) (a := a)
  by_cases ha : a = 0
  · subst ha
    rw [dx_zero, dx_zero]
    simp
  · have h := (walk_step (z := x + a * (t : Int)) hm ha ((Int.dvd_add_right (hx ha)).mpr (Int.dvd_mul_right ..)) (h2 ha)).2
    unfold px dx
    rw [e, h, ab]
theorem px_zero {x m a : Int} (h0 : 0 ≤ x) (h1 : x ≤ m) (hm : 0 < m) : px x m a 0 = x := by
  unfold px
  rw [show x + a * ((0 : Nat) : Int) = x by simp]
  exact foldI_self h0 h1 hm
theorem dx_start {x m a : Int} (h0 : 0 ≤ x) (h1 : x ≤ m) (hm : 0 < m) : dx x m a 0 = (if x = 0 then (a.natAbs : Int) else if x = m then -(a.natAbs : Int) else a) := by
  unfold dx
  rw [show x + a * ((0 : Nat) : Int) = x by simp]
  by_cases ha : a = 0
  · subst ha; unfold dirI; simp
  · exact dir_start hm h0 h1 ha
theorem px_bounds {x m a : Int} {t : Nat} (hm : 0 < m) : 0 ≤ px x m a t ∧ px x m a t ≤ m := foldI_bounds hm
/-! ### the walk -/
/-- _law_walk(run, unit, most); slots 0:run 1:unit 2:most 3:a 4:b 5:tick 6:w 7:h 8:x 9:y 10:spots 11:ways 12:walls 13:name -/
noncomputable def b__law_walk : Fs := sSeq (sAsg (eVar 0) (gTupW 6 (gsCons (gN 6) (gsCons (gN 7) (gsCons (gN 8) (gsCons (gN 9) (gsCons (gN 3) (gsCons (gN 4) (gsNil))))))))) (sSeq (sPar 8 9 (aCons (eOp mulW (eVar 8) (eVar 1)) (aCons (eOp mulW (eVar 9) (eVar 1)) (aNil)))) (sSeq (sPar 6 7 (aCons (eOp mulW (eVar 6) (eVar 1)) (aCons (eOp mulW (eVar 7) (eVar 1)) (aNil)))) (sSeq (sAsg (eIf (tVal (eOp eqW (eVar 8) (eC (.int 0)))) (eCall absW (aCons (eVar 3) (aNil))) (eIf (tVal (eOp eqW (eVar 8) (eVar 6))) (eUn negW (eCall absW (aCons (eVar 3) (aNil)))) (eVar 3))) (gN 3)) (sSeq (sAsg (eIf (tVal (eOp eqW (eVar 9) (eC (.int 0)))) (eCall absW (aCons (eVar 4) (aNil))) (eIf (tVal (eOp eqW (eVar 9) (eVar 7))) (eUn negW (eCall absW (aCons (eVar 4) (aNil)))) (eVar 4))) (gN 4)) (sSeq (sPar3 10 11 12 (aCons (eLst (aCons (eTup (aCons (eVar 8) (aCons (eVar 9) (aNil)))) (aNil))) (aCons (eLst (aCons (eTup (aCons (eVar 3) (aCons (eVar 4) (aNil)))) (aNil))) (aCons (eLst (aNil)) (aNil))))) (sSeq (sFor (iRange2 (aCons (eC (.int 1)) (aCons (eOp addW (eVar 2) (eC (.int 1))) (aNil)))) (gN 5) (sSeq (sPar3 8 9 13 (aCons (eOp addW (eVar 8) (eVar 3)) (aCons (eOp addW (eVar 9) (eVar 4)) (aCons (eC (.str "")) (aNil))))) (sSeq (sIf (tAndW (tVal (eOp neW (eVar 3) (eC (.int 0)))) (tVal (eOp inW (eVar 8) (eTup (aCons (eC (.int 0)) (aCons (eVar 6) (aNil))))))) (sSeq (sAsg (eOp addW (eVar 13) (eIf (tVal (eOp eqW (eVar 8) (eC (.int 0)))) (eC (.str "L")) (eC (.str "R")))) (gN 13)) (sAsg (eIf (tVal (eOp eqW (eVar 8) (eC (.int 0)))) (eCall absW (aCons (eVar 3) (aNil))) (eUn negW (eCall absW (aCons (eVar 3) (aNil))))) (gN 3))) (sNext)) (sSeq (sIf (tAndW (tVal (eOp neW (eVar 4) (eC (.int 0)))) (tVal (eOp inW (eVar 9) (eTup (aCons (eC (.int 0)) (aCons (eVar 7) (aNil))))))) (sSeq (sAsg (eOp addW (eVar 13) (eIf (tVal (eOp eqW (eVar 9) (eC (.int 0)))) (eC (.str "B")) (eC (.str "T")))) (gN 13)) (sAsg (eIf (tVal (eOp eqW (eVar 9) (eC (.int 0)))) (eCall absW (aCons (eVar 4) (aNil))) (eUn negW (eCall absW (aCons (eVar 4) (aNil))))) (gN 4))) (sNext)) (sSeq (sDrop (eMethL appendW (eVar 10) (aCons (eTup (aCons (eVar 8) (aCons (eVar 9) (aNil)))) (aNil)))) (sSeq (sDrop (eMethL appendW (eVar 11) (aCons (eTup (aCons (eVar 3) (aCons (eVar 4) (aNil)))) (aNil)))) (sIf (tVal (eOp neW (eVar 13) (eC (.str "")))) (sDrop (eMethL appendW (eVar 12) (aCons (eTup (aCons (eVar 5) (aCons (eVar 13) (aNil)))) (aNil)))) (sNext)))))))) (sRet (eTup (aCons (eVar 10) (aCons (eVar 11) (aCons (eVar 12) (aNil))))))))))))
def wkX : Fs := sIf (tAndW (tVal (eOp neW (eVar 3) (eC (.int 0)))) (tVal (eOp inW (eVar 8) (eTup (aCons (eC (.int 0)) (aCons (eVar 6) (aNil))))))) (sSeq (sAsg (eOp addW (eVar 13) (eIf (tVal (eOp eqW (eVar 8) (eC (.int 0)))) (eC (.str "L")) (eC (.str "R")))) (gN 13)) (sAsg (eIf (tVal (eOp eqW (eVar 8) (eC (.int 0)))) (eCall absW (aCons (eVar 3) (aNil))) (eUn negW (eCall absW (aCons (eVar 3) (aNil))))) (gN 3))) (sNext)
def wkY : Fs := sIf (tAndW (tVal (eOp neW (eVar 4) (eC (.int 0)))) (tVal (eOp inW (eVar 9) (eTup (aCons (eC (.int 0)) (aCons (eVar 7) (aNil))))))) (sSeq (sAsg (eOp addW (eVar 13) (eIf (tVal (eOp eqW (eVar 9) (eC (.int 0)))) (eC (.str "B")) (eC (.str "T")))) (gN 13)) (sAsg (eIf (tVal (eOp eqW (eVar 9) (eC (.int 0)))) (eCall absW (aCons (eVar 4) (aNil))) (eUn negW (eCall absW (aCons (eVar 4) (aNil))))) (gN 4))) (sNext)
theorem in_two (p m : Int) (S : Sto) : inW (.int p) (.tup [.int 0, .int m]) S = some (.bl (decide (p = 0 ∨ p = m)), S) := by
  have : ((0 == p) || (m == p)) = decide (p = 0 ∨ p = m) := by
    by_cases h1 : p = 0
    · subst h1; simp
    · by_cases h2 : p = m
      · subst h2; simp
      · have h3 : ¬ (0 : Int) = p := fun e => h1 e.symm
        have h4 : ¬ m = p := fun e => h2 e.symm
        simp [h1, h2, h3, h4]
  simp [inW, hasW, flatW, eqF, this]
theorem sl_le (z : Str) (h : z.length ≤ 2) : (("" : Str).length + z.length ≤ sizeLine) = True := by
  have : ("" : Str).length = 0 := by decide
  simp only [eq_iff_iff, iff_true]
  rw [this]
  exact Nat.le_trans (by omega) (show 2 ≤ sizeLine by decide)
theorem wkX_ok (v0 v1 v2 v4 v5 v7 v9 v10 v11 v12 : Option W) (d m p : Int) (S : Sto) (hm : 0 < m) :
    wkX [v0, v1, v2, some (.int d), v4, v5, some (.int m), v7, some (.int p), v9, v10, v11, v12, some (.str "")] S =
      some (.next [v0, v1, v2, some (.int (if d = 0 then d else if p = 0 then (d.natAbs : Int) else if p = m then -(d.natAbs : Int) else d)), v4, v5, some (.int m), v7, some (.int p), v9, v10, v11, v12, some (.str (lt "L" "R" d m p))], S) := by
  have l1 : (("L" : Str).length ≤ 2) := by decide
  have l2 : (("R" : Str).length ≤ 2) := by decide
  have k1 := sl_le "L" l1
  have k2 := sl_le "R" l2
  unfold wkX
  by_cases hd : d = 0
  · subst hd
    simp only [fnB, en, List.map_cons, List.map_nil, List.length_cons, List.length_nil, List.replicate_succ, List.replicate_zero, List.cons_append, List.nil_append, List.append_nil, List.getElem?_cons_zero, List.getElem?_cons_succ, List.set_cons_zero, List.set_cons_succ,  Nat.zero_add, Nat.reduceAdd, Nat.reduceSub, Nat.sub_self, Nat.reduceEqDiff,  eVar, eC, eOp, eUn, aNil, aCons, eTup, eLst, eCall, eIf, eAnd, eOr, eNot, tVal, tAndW, tOrW, tNotW, eChain, sNext, sBrk, sCnt, sNever, sSeq, sRet, sRetN, sDrop, sIf, sAsg, sPar, sPar3, gN, gsNil, gsCons, gTupW, Option.bind_some, Option.bind_none,  s0, s1, s2, s3, s4, s6, subW, ltW, leW, gtW, geW, iop0, iop, modW, fdivW, powW, addW, mulW, negW, isi_int_int, isi_int_bool, isi_bl_int, isi_bl_bool, isi_non_int, isi_str_int, isi_tup_int, isi_tup_tup, eq_int, ne_int, len_p, len_6, len_l1, decide_true, decide_false, Int.reduceEq, Int.reduceNeg, absW, minW, ix_p0, ix_p1, ix_r0, ix_r1, ix_r2, ix_r3, ix_r4, ix_r5, if_true, if_false, ite_true, ite_false, Bool.not_true, Bool.not_false, Bool.false_eq_true, reduceIte, ↓reduceIte, in_two, abs_nat, str_e, sl_le, ne_eq, not_false_eq_true, and_self, and_false, false_and, true_and, and_true, *]
    simp [lt]
  · by_cases h1 : p = 0
    · subst h1
      simp only [fnB, en, List.map_cons, List.map_nil, List.length_cons, List.length_nil, List.replicate_succ, List.replicate_zero, List.cons_append, List.nil_append, List.append_nil, List.getElem?_cons_zero, List.getElem?_cons_succ, List.set_cons_zero, List.set_cons_succ,  Nat.zero_add, Nat.reduceAdd, Nat.reduceSub, Nat.sub_self, Nat.reduceEqDiff,  eVar, eC, eOp, eUn, aNil, aCons, eTup, eLst, eCall, eIf, eAnd, eOr, eNot, tVal, tAndW, tOrW, tNotW, eChain, sNext, sBrk, sCnt, sNever, sSeq, sRet, sRetN, sDrop, sIf, sAsg, sPar, sPar3, gN, gsNil, gsCons, gTupW, Option.bind_some, Option.bind_none,  s0, s1, s2, s3, s4, s6, subW, ltW, leW, gtW, geW, iop0, iop, modW, fdivW, powW, addW, mulW, negW, isi_int_int, isi_int_bool, isi_bl_int, isi_bl_bool, isi_non_int, isi_str_int, isi_tup_int, isi_tup_tup, eq_int, ne_int, len_p, len_6, len_l1, decide_true, decide_false, Int.reduceEq, Int.reduceNeg, absW, minW, ix_p0, ix_p1, ix_r0, ix_r1, ix_r2, ix_r3, ix_r4, ix_r5, if_true, if_false, ite_true, ite_false, Bool.not_true, Bool.not_false, Bool.false_eq_true, reduceIte, ↓reduceIte, in_two, abs_nat, str_e, sl_le, ne_eq, not_false_eq_true, and_self, and_false, false_and, true_and, and_true, *]
      simp [lt, hd]
    · by_cases h2 : p = m
      · subst h2
        simp only [fnB, en, List.map_cons, List.map_nil, List.length_cons, List.length_nil, List.replicate_succ, List.replicate_zero, List.cons_append, List.nil_append, List.append_nil, List.getElem?_cons_zero, List.getElem?_cons_succ, List.set_cons_zero, List.set_cons_succ,  Nat.zero_add, Nat.reduceAdd, Nat.reduceSub, Nat.sub_self, Nat.reduceEqDiff,  eVar, eC, eOp, eUn, aNil, aCons, eTup, eLst, eCall, eIf, eAnd, eOr, eNot, tVal, tAndW, tOrW, tNotW, eChain, sNext, sBrk, sCnt, sNever, sSeq, sRet, sRetN, sDrop, sIf, sAsg, sPar, sPar3, gN, gsNil, gsCons, gTupW, Option.bind_some, Option.bind_none,  s0, s1, s2, s3, s4, s6, subW, ltW, leW, gtW, geW, iop0, iop, modW, fdivW, powW, addW, mulW, negW, isi_int_int, isi_int_bool, isi_bl_int, isi_bl_bool, isi_non_int, isi_str_int, isi_tup_int, isi_tup_tup, eq_int, ne_int, len_p, len_6, len_l1, decide_true, decide_false, Int.reduceEq, Int.reduceNeg, absW, minW, ix_p0, ix_p1, ix_r0, ix_r1, ix_r2, ix_r3, ix_r4, ix_r5, if_true, if_false, ite_true, ite_false, Bool.not_true, Bool.not_false, Bool.false_eq_true, reduceIte, ↓reduceIte, in_two, abs_nat, str_e, sl_le, ne_eq, not_false_eq_true, and_self, and_false, false_and, true_and, and_true, *]
        simp [lt, hd, h1]
      · simp only [fnB, en, List.map_cons, List.map_nil, List.length_cons, List.length_nil, List.replicate_succ, List.replicate_zero, List.cons_append, List.nil_append, List.append_nil, List.getElem?_cons_zero, List.getElem?_cons_succ, List.set_cons_zero, List.set_cons_succ,  Nat.zero_add, Nat.reduceAdd, Nat.reduceSub, Nat.sub_self, Nat.reduceEqDiff,  eVar, eC, eOp, eUn, aNil, aCons, eTup, eLst, eCall, eIf, eAnd, eOr, eNot, tVal, tAndW, tOrW, tNotW, eChain, sNext, sBrk, sCnt, sNever, sSeq, sRet, sRetN, sDrop, sIf, sAsg, sPar, sPar3, gN, gsNil, gsCons, gTupW, Option.bind_some, Option.bind_none,  s0, s1, s2, s3, s4, s6, subW, ltW, leW, gtW, geW, iop0, iop, modW, fdivW, powW, addW, mulW, negW, isi_int_int, isi_int_bool, isi_bl_int, isi_bl_bool, isi_non_int, isi_str_int, isi_tup_int, isi_tup_tup, eq_int, ne_int, len_p, len_6, len_l1, decide_true, decide_false, Int.reduceEq, Int.reduceNeg, absW, minW, ix_p0, ix_p1, ix_r0, ix_r1, ix_r2, ix_r3, ix_r4, ix_r5, if_true, if_false, ite_true, ite_false, Bool.not_true, Bool.not_false, Bool.false_eq_true, reduceIte, ↓reduceIte, in_two, abs_nat, str_e, sl_le, ne_eq, not_false_eq_true, and_self, and_false, false_and, true_and, and_true, *]
        simp [lt, hd, h1, h2]
theorem sl_le2 (y z : Str) (h0 : y.length ≤ 2) (h : z.length ≤ 2) : (y.length + z.length ≤ sizeLine) = True := by
  simp only [eq_iff_iff, iff_true]
  exact Nat.le_trans (show y.length + z.length ≤ 4 by omega) (show 4 ≤ sizeLine by decide)
theorem wkY_ok (v0 v1 v2 v3 v5 v6 v8 v10 v11 v12 : Option W) (d m p : Int) (z : Str) (S : Sto) (hm : 0 < m) (hz : z.length ≤ 2) (hz2 : z ++ ("" : Str) = z) :
    wkY [v0, v1, v2, v3, some (.int d), v5, v6, some (.int m), v8, some (.int p), v10, v11, v12, some (.str z)] S =
      some (.next [v0, v1, v2, v3, some (.int (if d = 0 then d else if p = 0 then (d.natAbs : Int) else if p = m then -(d.natAbs : Int) else d)), v5, v6, some (.int m), v8, some (.int p), v10, v11, v12, some (.str (z ++ lt "B" "T" d m p))], S) := by
  have l1 : (("B" : Str).length ≤ 2) := by decide
  have l2 : (("T" : Str).length ≤ 2) := by decide
  have k1 := sl_le2 z "B" hz l1
  have k2 := sl_le2 z "T" hz l2
  unfold wkY
  by_cases hd : d = 0
  · subst hd
    simp only [fnB, en, List.map_cons, List.map_nil, List.length_cons, List.length_nil, List.replicate_succ, List.replicate_zero, List.cons_append, List.nil_append, List.append_nil, List.getElem?_cons_zero, List.getElem?_cons_succ, List.set_cons_zero, List.set_cons_succ,  Nat.zero_add, Nat.reduceAdd, Nat.reduceSub, Nat.sub_self, Nat.reduceEqDiff,  eVar, eC, eOp, eUn, aNil, aCons, eTup, eLst, eCall, eIf, eAnd, eOr, eNot, tVal, tAndW, tOrW, tNotW, eChain, sNext, sBrk, sCnt, sNever, sSeq, sRet, sRetN, sDrop, sIf, sAsg, sPar, sPar3, gN, gsNil, gsCons, gTupW, Option.bind_some, Option.bind_none,  s0, s1, s2, s3, s4, s6, subW, ltW, leW, gtW, geW, iop0, iop, modW, fdivW, powW, addW, mulW, negW, isi_int_int, isi_int_bool, isi_bl_int, isi_bl_bool, isi_non_int, isi_str_int, isi_tup_int, isi_tup_tup, eq_int, ne_int, len_p, len_6, len_l1, decide_true, decide_false, Int.reduceEq, Int.reduceNeg, absW, minW, ix_p0, ix_p1, ix_r0, ix_r1, ix_r2, ix_r3, ix_r4, ix_r5, if_true, if_false, ite_true, ite_false, Bool.not_true, Bool.not_false, Bool.false_eq_true, reduceIte, ↓reduceIte, in_two, abs_nat, str_e, sl_le, ne_eq, not_false_eq_true, and_self, and_false, false_and, true_and, and_true, *]
    simp [lt, hz2]
  · by_cases h1 : p = 0
    · subst h1
      simp only [fnB, en, List.map_cons, List.map_nil, List.length_cons, List.length_nil, List.replicate_succ, List.replicate_zero, List.cons_append, List.nil_append, List.append_nil, List.getElem?_cons_zero, List.getElem?_cons_succ, List.set_cons_zero, List.set_cons_succ,  Nat.zero_add, Nat.reduceAdd, Nat.reduceSub, Nat.sub_self, Nat.reduceEqDiff,  eVar, eC, eOp, eUn, aNil, aCons, eTup, eLst, eCall, eIf, eAnd, eOr, eNot, tVal, tAndW, tOrW, tNotW, eChain, sNext, sBrk, sCnt, sNever, sSeq, sRet, sRetN, sDrop, sIf, sAsg, sPar, sPar3, gN, gsNil, gsCons, gTupW, Option.bind_some, Option.bind_none,  s0, s1, s2, s3, s4, s6, subW, ltW, leW, gtW, geW, iop0, iop, modW, fdivW, powW, addW, mulW, negW, isi_int_int, isi_int_bool, isi_bl_int, isi_bl_bool, isi_non_int, isi_str_int, isi_tup_int, isi_tup_tup, eq_int, ne_int, len_p, len_6, len_l1, decide_true, decide_false, Int.reduceEq, Int.reduceNeg, absW, minW, ix_p0, ix_p1, ix_r0, ix_r1, ix_r2, ix_r3, ix_r4, ix_r5, if_true, if_false, ite_true, ite_false, Bool.not_true, Bool.not_false, Bool.false_eq_true, reduceIte, ↓reduceIte, in_two, abs_nat, str_e, sl_le, ne_eq, not_false_eq_true, and_self, and_false, false_and, true_and, and_true, *]
      simp [lt, hd]
    · by_cases h2 : p = m
      · subst h2
        simp only [fnB, en, List.map_cons, List.map_nil, List.length_cons, List.length_nil, List.replicate_succ, List.replicate_zero, List.cons_append, List.nil_append, List.append_nil, List.getElem?_cons_zero, List.getElem?_cons_succ, List.set_cons_zero, List.set_cons_succ,  Nat.zero_add, Nat.reduceAdd, Nat.reduceSub, Nat.sub_self, Nat.reduceEqDiff,  eVar, eC, eOp, eUn, aNil, aCons, eTup, eLst, eCall, eIf, eAnd, eOr, eNot, tVal, tAndW, tOrW, tNotW, eChain, sNext, sBrk, sCnt, sNever, sSeq, sRet, sRetN, sDrop, sIf, sAsg, sPar, sPar3, gN, gsNil, gsCons, gTupW, Option.bind_some, Option.bind_none,  s0, s1, s2, s3, s4, s6, subW, ltW, leW, gtW, geW, iop0, iop, modW, fdivW, powW, addW, mulW, negW, isi_int_int, isi_int_bool, isi_bl_int, isi_bl_bool, isi_non_int, isi_str_int, isi_tup_int, isi_tup_tup, eq_int, ne_int, len_p, len_6, len_l1, decide_true, decide_false, Int.reduceEq, Int.reduceNeg, absW, minW, ix_p0, ix_p1, ix_r0, ix_r1, ix_r2, ix_r3, ix_r4, ix_r5, if_true, if_false, ite_true, ite_false, Bool.not_true, Bool.not_false, Bool.false_eq_true, reduceIte, ↓reduceIte, in_two, abs_nat, str_e, sl_le, ne_eq, not_false_eq_true, and_self, and_false, false_and, true_and, and_true, *]
        simp [lt, hd, h1]
      · simp only [fnB, en, List.map_cons, List.map_nil, List.length_cons, List.length_nil, List.replicate_succ, List.replicate_zero, List.cons_append, List.nil_append, List.append_nil, List.getElem?_cons_zero, List.getElem?_cons_succ, List.set_cons_zero, List.set_cons_succ,  Nat.zero_add, Nat.reduceAdd, Nat.reduceSub, Nat.sub_self, Nat.reduceEqDiff,  eVar, eC, eOp, eUn, aNil, aCons, eTup, eLst, eCall, eIf, eAnd, eOr, eNot, tVal, tAndW, tOrW, tNotW, eChain, sNext, sBrk, sCnt, sNever, sSeq, sRet, sRetN, sDrop, sIf, sAsg, sPar, sPar3, gN, gsNil, gsCons, gTupW, Option.bind_some, Option.bind_none,  s0, s1, s2, s3, s4, s6, subW, ltW, leW, gtW, geW, iop0, iop, modW, fdivW, powW, addW, mulW, negW, isi_int_int, isi_int_bool, isi_bl_int, isi_bl_bool, isi_non_int, isi_str_int, isi_tup_int, isi_tup_tup, eq_int, ne_int, len_p, len_6, len_l1, decide_true, decide_false, Int.reduceEq, Int.reduceNeg, absW, minW, ix_p0, ix_p1, ix_r0, ix_r1, ix_r2, ix_r3, ix_r4, ix_r5, if_true, if_false, ite_true, ite_false, Bool.not_true, Bool.not_false, Bool.false_eq_true, reduceIte, ↓reduceIte, in_two, abs_nat, str_e, sl_le, ne_eq, not_false_eq_true, and_self, and_false, false_and, true_and, and_true, *]
        simp [lt, hd, h1, h2, hz2]
/-! ### the loop -/
section
variable {S : Sto} {o0 o1 o2 u : O}
theorem g3_0 : (S ++ [o0, o1, o2])[S.length]? = some o0 := by simp
theorem g3_1 : (S ++ [o0, o1, o2])[S.length + 1]? = some o1 := by simp
theorem g3_2 : (S ++ [o0, o1, o2])[S.length + 2]? = some o2 := by simp
theorem t3_0 : (S ++ [o0, o1, o2]).set S.length u = S ++ [u, o1, o2] := by simp
theorem t3_1 : (S ++ [o0, o1, o2]).set (S.length + 1) u = S ++ [o0, u, o2] := by simp [List.set_append]
theorem t3_2 : (S ++ [o0, o1, o2]).set (S.length + 2) u = S ++ [o0, o1, u] := by simp [List.set_append]
end
/-- all of a walk's letters -/
structure WalkD where
  (x y m n a b : Int)
namespace WalkD
variable (k : WalkD)
def px (t : Nat) : Int := Bp.px k.x k.m k.a t
def py (t : Nat) : Int := Bp.px k.y k.n k.b t
def dx (t : Nat) : Int := Bp.dx k.x k.m k.a t
def dy (t : Nat) : Int := Bp.dx k.y k.n k.b t
def name (t : Nat) : Str := lt "L" "R" k.a k.m (k.px t) ++ lt "B" "T" k.b k.n (k.py t)
def spot (t : Nat) : W := .tup [.int (k.px t), .int (k.py t)]
def way (t : Nat) : W := .tup [.int (k.dx t), .int (k.dy t)]
def wall (t : Nat) : Option W := if k.name t = "" then none else some (.tup [.int (t : Nat), .str (k.name t)])
def spots (t : Nat) : List W := (List.range (t + 1)).map k.spot
def ways (t : Nat) : List W := (List.range (t + 1)).map k.way
def walls (t : Nat) : List W := ((List.range t).map (· + 1)).filterMap k.wall
def Ok : Prop := 0 < k.m ∧ 0 < k.n ∧ (0 ≤ k.x ∧ k.x ≤ k.m) ∧ (0 ≤ k.y ∧ k.y ≤ k.n) ∧ (k.a ≠ 0 → k.a ∣ k.x) ∧ (k.a ≠ 0 → k.a ∣ k.m) ∧ (k.b ≠ 0 → k.b ∣ k.y) ∧ (k.b ≠ 0 → k.b ∣ k.n)
theorem spots_succ (t : Nat) : k.spots (t + 1) = k.spots t ++ [k.spot (t + 1)] := by
  unfold spots; rw [List.range_succ, List.map_append]; rfl
theorem ways_succ (t : Nat) : k.ways (t + 1) = k.ways t ++ [k.way (t + 1)] := by
  unfold ways; rw [List.range_succ, List.map_append]; rfl
theorem walls_succ (t : Nat) : k.walls (t + 1) = k.walls t ++ (match k.wall (t + 1) with | some w => [w] | none => []) := by
  unfold walls; rw [List.range_succ, List.map_append, List.filterMap_append]
  simp only [List.map_cons, List.map_nil, List.filterMap_cons, List.filterMap_nil]
  cases k.wall (t + 1) <;> rfl
theorem spots_len (t : Nat) : (k.spots t).length = t + 1 := by simp [spots]
theorem ways_len (t : Nat) : (k.ways t).length = t + 1 := by simp [ways]
theorem walls_len (t : Nat) : (k.walls t).length ≤ t := by
  unfold walls
  refine Nat.le_trans (List.length_filterMap_le ..) (by simp)
end WalkD
theorem lt_cases (lo hi : Str) (a m p : Int) : lt lo hi a m p = lo ∨ lt lo hi a m p = hi ∨ lt lo hi a m p = "" := by
  unfold lt
  repeat' split
  · exact .inl rfl
  · exact .inr (.inl rfl)
  · exact .inr (.inr rfl)
theorem lt_ne (lo hi : Str) (a d m p : Int) (h : d = 0 ↔ a = 0) : lt lo hi d m p = lt lo hi a m p := by
  unfold lt
  simp only [ne_eq, h]
theorem name_cases (k : WalkD) (t : Nat) : (k.name t).length ≤ 2 ∧ PyData.strOk (k.name t) = true := by
  unfold WalkD.name
  rcases lt_cases "L" "R" k.a k.m (k.px t) with e | e | e <;> rcases lt_cases "B" "T" k.b k.n (k.py t) with f | f | f <;> rw [e, f] <;> decide +kernel
theorem ne_str {x : Str} (h : PyData.strOk x = true) (S : Sto) : neW (.str x) (.str "") S = some (.bl (!decide (x = "")), S) := by
  have h2 : PyData.strOk ("" : Str) = true := by decide +kernel
  have : (x == ("" : Str)) = decide (x = "") := by by_cases e : x = "" <;> simp [e]
  simp [neW, eqvW, toD, h, h2, PyData.eqv, this]
def wkB : Fs := sSeq (sPar3 8 9 13 (aCons (eOp addW (eVar 8) (eVar 3)) (aCons (eOp addW (eVar 9) (eVar 4)) (aCons (eC (.str "")) (aNil))))) (sSeq wkX (sSeq wkY (sSeq (sDrop (eMethL appendW (eVar 10) (aCons (eTup (aCons (eVar 8) (aCons (eVar 9) (aNil)))) (aNil)))) (sSeq (sDrop (eMethL appendW (eVar 11) (aCons (eTup (aCons (eVar 3) (aCons (eVar 4) (aNil)))) (aNil)))) (sIf (tVal (eOp neW (eVar 13) (eC (.str "")))) (sDrop (eMethL appendW (eVar 12) (aCons (eTup (aCons (eVar 5) (aCons (eVar 13) (aNil)))) (aNil)))) (sNext))))))
def wkEnv (k : WalkD) (run : W) (unit most : Int) (n t : Nat) (tick nm : Option W) : En :=
  [some run, some (.int unit), some (.int most), some (.int (k.dx t)), some (.int (k.dy t)), tick, some (.int k.m), some (.int k.n), some (.int (k.px t)), some (.int (k.py t)), some (.ref n), some (.ref (n + 1)), some (.ref (n + 2)), nm]
theorem app_ref {S : Sto} {n : Nat} {xs : List W} {v : W} (h : S[n]? = some (.lst xs)) (hl : xs.length < sizeLine) : appendW (.ref n) [v] S = some (.non, S.set n (.lst (xs ++ [v]))) := by
  simp only [appendW, h, hl, if_true]
theorem lt_empty (lo hi : Str) (a m p : Int) (h1 : lo.length ≤ 2) (h2 : hi.length ≤ 2) (e1 : lo ++ ("" : Str) = lo) (e2 : hi ++ ("" : Str) = hi) : (lt lo hi a m p).length ≤ 2 ∧ lt lo hi a m p ++ ("" : Str) = lt lo hi a m p := by
  rcases lt_cases lo hi a m p with e | e | e <;> rw [e]
  · exact ⟨h1, e1⟩
  · exact ⟨h2, e2⟩
  · exact ⟨by decide +kernel, by decide +kernel⟩
theorem wkB_ok (k : WalkD) (ok : k.Ok) (run : W) (unit most : Int) (S : Sto) (t : Nat) (nm : Option W) (hz : t + 2 < sizeLine) :
    wkB (wkEnv k run unit most S.length t (some (.int ((t + 1 : Nat) : Int))) nm) (S ++ [.lst (k.spots t), .lst (k.ways t), .lst (k.walls t)]) =
      some (.next (wkEnv k run unit most S.length (t + 1) (some (.int ((t + 1 : Nat) : Int))) (some (.str (k.name (t + 1))))), S ++ [.lst (k.spots (t + 1)), .lst (k.ways (t + 1)), .lst (k.walls (t + 1))]) := by
  obtain ⟨hm, hn, hx, hy, d1, d2, d3, d4⟩ := ok
  have ex : k.px t + k.dx t = k.px (t + 1) := (px_step hm d1 d2).symm
  have ey : k.py t + k.dy t = k.py (t + 1) := (px_step hn d3 d4).symm
  have fx : (if k.dx t = 0 then k.dx t else if k.px (t + 1) = 0 then ((k.dx t).natAbs : Int) else if k.px (t + 1) = k.m then -((k.dx t).natAbs : Int) else k.dx t) = k.dx (t + 1) := by
    rw [show k.dx (t + 1) = _ from dx_step hm d1 d2]
    show (if k.dx t = 0 then k.dx t else if k.px (t + 1) = 0 then ((k.dx t).natAbs : Int) else if k.px (t + 1) = k.m then -((k.dx t).natAbs : Int) else k.dx t) = (if k.px (t + 1) = 0 then ((k.dx t).natAbs : Int) else if k.px (t + 1) = k.m then -((k.dx t).natAbs : Int) else k.dx t)
    by_cases h0 : k.dx t = 0
    · rw [if_pos h0, h0]; simp
    · rw [if_neg h0]
  have fy : (if k.dy t = 0 then k.dy t else if k.py (t + 1) = 0 then ((k.dy t).natAbs : Int) else if k.py (t + 1) = k.n then -((k.dy t).natAbs : Int) else k.dy t) = k.dy (t + 1) := by
    rw [show k.dy (t + 1) = _ from dx_step hn d3 d4]
    show (if k.dy t = 0 then k.dy t else if k.py (t + 1) = 0 then ((k.dy t).natAbs : Int) else if k.py (t + 1) = k.n then -((k.dy t).natAbs : Int) else k.dy t) = (if k.py (t + 1) = 0 then ((k.dy t).natAbs : Int) else if k.py (t + 1) = k.n then -((k.dy t).natAbs : Int) else k.dy t)
    by_cases h0 : k.dy t = 0
    · rw [if_pos h0, h0]; simp
    · rw [if_neg h0]
  have lx : lt "L" "R" (k.dx t) k.m (k.px (t + 1)) = lt "L" "R" k.a k.m (k.px (t + 1)) := lt_ne _ _ _ _ _ _ dx_ne
  have ly : lt "B" "T" (k.dy t) k.n (k.py (t + 1)) = lt "B" "T" k.b k.n (k.py (t + 1)) := lt_ne _ _ _ _ _ _ dx_ne
  obtain ⟨z1, z2⟩ := lt_empty "L" "R" k.a k.m (k.px (t + 1)) (by decide +kernel) (by decide +kernel) (by decide +kernel) (by decide +kernel)
  have s1 : sPar3 8 9 13 (aCons (eOp addW (eVar 8) (eVar 3)) (aCons (eOp addW (eVar 9) (eVar 4)) (aCons (eC (.str "")) (aNil)))) (wkEnv k run unit most S.length t (some (.int ((t + 1 : Nat) : Int))) nm) (S ++ [.lst (k.spots t), .lst (k.ways t), .lst (k.walls t)]) = some (.next [some run, some (.int unit), some (.int most), some (.int (k.dx t)), some (.int (k.dy t)), some (.int ((t + 1 : Nat) : Int)), some (.int k.m), some (.int k.n), some (.int (k.px (t + 1))), some (.int (k.py (t + 1))), some (.ref S.length), some (.ref (S.length + 1)), some (.ref (S.length + 2)), some (.str "")], S ++ [.lst (k.spots t), .lst (k.ways t), .lst (k.walls t)]) := by
    unfold wkEnv
    rw [← ex, ← ey]
    simp only [fnB, en, List.map_cons, List.map_nil, List.length_cons, List.length_nil, List.replicate_succ, List.replicate_zero, List.cons_append, List.nil_append, List.append_nil, List.getElem?_cons_zero, List.getElem?_cons_succ, List.set_cons_zero, List.set_cons_succ,  Nat.zero_add, Nat.reduceAdd, Nat.reduceSub, Nat.sub_self, Nat.reduceEqDiff,  eVar, eC, eOp, eUn, aNil, aCons, eTup, eLst, eCall, eIf, eAnd, eOr, eNot, tVal, tAndW, tOrW, tNotW, eChain, sNext, sBrk, sCnt, sNever, sSeq, sRet, sRetN, sDrop, sIf, sAsg, sPar, sPar3, gN, gsNil, gsCons, gTupW, Option.bind_some, Option.bind_none,  s0, s1, s2, s3, s4, s6, subW, ltW, leW, gtW, geW, iop0, iop, modW, fdivW, powW, addW, mulW, negW, isi_int_int, isi_int_bool, isi_bl_int, isi_bl_bool, isi_non_int, isi_str_int, isi_tup_int, isi_tup_tup, eq_int, ne_int, len_p, len_6, len_l1, decide_true, decide_false, Int.reduceEq, Int.reduceNeg, absW, minW, ix_p0, ix_p1, ix_r0, ix_r1, ix_r2, ix_r3, ix_r4, ix_r5, if_true, if_false, ite_true, ite_false, Bool.not_true, Bool.not_false, Bool.false_eq_true, reduceIte, ↓reduceIte]
  unfold wkB
  rw [sSeq, s1]
  simp only [Option.bind_some]
  rw [sSeq, wkX_ok _ _ _ _ _ _ _ _ _ _ _ _ _ _ hm, lx, fx]
  simp only [Option.bind_some]
  rw [sSeq, wkY_ok _ _ _ _ _ _ _ _ _ _ _ _ _ _ _ hn z1 z2, ly, fy]
  simp only [Option.bind_some]
  have nmE : lt "L" "R" k.a k.m (k.px (t + 1)) ++ lt "B" "T" k.b k.n (k.py (t + 1)) = k.name (t + 1) := rfl
  rw [nmE]
  have l1 : (k.spots t).length < sizeLine := by rw [k.spots_len]; omega
  have l2 : (k.ways t).length < sizeLine := by rw [k.ways_len]; omega
  have l3 : (k.walls t).length < sizeLine := Nat.lt_of_le_of_lt (k.walls_len t) (by omega)
  have ns := ne_str (name_cases k (t + 1)).2
  have sp : k.spots (t + 1) = k.spots t ++ [.tup [.int (k.px (t + 1)), .int (k.py (t + 1))]] := k.spots_succ t
  have wy : k.ways (t + 1) = k.ways t ++ [.tup [.int (k.dx (t + 1)), .int (k.dy (t + 1))]] := k.ways_succ t
  rw [sp, wy, k.walls_succ]
  unfold wkEnv WalkD.wall
  clear nmE s1 fx fy lx ly ex ey sp wy
  by_cases hn0 : k.name (t + 1) = ""
  · simp only [hn0] at ns ⊢
    simp only [fnB, en, List.map_cons, List.map_nil, List.length_cons, List.length_nil, List.replicate_succ, List.replicate_zero, List.cons_append, List.nil_append, List.append_nil, List.getElem?_cons_zero, List.getElem?_cons_succ, List.set_cons_zero, List.set_cons_succ,  Nat.zero_add, Nat.reduceAdd, Nat.reduceSub, Nat.sub_self, Nat.reduceEqDiff,  eVar, eC, eOp, eUn, aNil, aCons, eTup, eLst, eCall, eIf, eAnd, eOr, eNot, tVal, tAndW, tOrW, tNotW, eChain, sNext, sBrk, sCnt, sNever, sSeq, sRet, sRetN, sDrop, sIf, sAsg, sPar, sPar3, gN, gsNil, gsCons, gTupW, Option.bind_some, Option.bind_none,  s0, s1, s2, s3, s4, s6, subW, ltW, leW, gtW, geW, iop0, iop, modW, fdivW, powW, addW, mulW, negW, isi_int_int, isi_int_bool, isi_bl_int, isi_bl_bool, isi_non_int, isi_str_int, isi_tup_int, isi_tup_tup, eq_int, ne_int, len_p, len_6, len_l1, decide_true, decide_false, Int.reduceEq, Int.reduceNeg, absW, minW, ix_p0, ix_p1, ix_r0, ix_r1, ix_r2, ix_r3, ix_r4, ix_r5, if_true, if_false, ite_true, ite_false, Bool.not_true, Bool.not_false, Bool.false_eq_true, reduceIte, ↓reduceIte, eMethL, lstOf, g3_0, g3_1, g3_2, t3_0, t3_1, t3_2, appendW, ne_eq, not_false_eq_true, and_self, and_false, false_and, true_and, and_true, *]
  · simp only [hn0, decide_false] at ns
    simp only [fnB, en, List.map_cons, List.map_nil, List.length_cons, List.length_nil, List.replicate_succ, List.replicate_zero, List.cons_append, List.nil_append, List.append_nil, List.getElem?_cons_zero, List.getElem?_cons_succ, List.set_cons_zero, List.set_cons_succ,  Nat.zero_add, Nat.reduceAdd, Nat.reduceSub, Nat.sub_self, Nat.reduceEqDiff,  eVar, eC, eOp, eUn, aNil, aCons, eTup, eLst, eCall, eIf, eAnd, eOr, eNot, tVal, tAndW, tOrW, tNotW, eChain, sNext, sBrk, sCnt, sNever, sSeq, sRet, sRetN, sDrop, sIf, sAsg, sPar, sPar3, gN, gsNil, gsCons, gTupW, Option.bind_some, Option.bind_none,  s0, s1, s2, s3, s4, s6, subW, ltW, leW, gtW, geW, iop0, iop, modW, fdivW, powW, addW, mulW, negW, isi_int_int, isi_int_bool, isi_bl_int, isi_bl_bool, isi_non_int, isi_str_int, isi_tup_int, isi_tup_tup, eq_int, ne_int, len_p, len_6, len_l1, decide_true, decide_false, Int.reduceEq, Int.reduceNeg, absW, minW, ix_p0, ix_p1, ix_r0, ix_r1, ix_r2, ix_r3, ix_r4, ix_r5, if_true, if_false, ite_true, ite_false, Bool.not_true, Bool.not_false, Bool.false_eq_true, reduceIte, ↓reduceIte, eMethL, lstOf, g3_0, g3_1, g3_2, t3_0, t3_1, t3_2, appendW, ne_eq, not_false_eq_true, and_self, and_false, false_and, true_and, and_true, *]
theorem wk_loop (k : WalkD) (ok : k.Ok) (run : W) (unit most : Int) (S : Sto) (chk : Sto → Prop) (hc : ∀ S, chk S) : ∀ (n t : Nat) (tick nm : Option W), t + n + 2 < sizeLine → ∃ tick' nm', forF (gN 5) wkB chk (intsW ((t + 1 : Nat) : Int) n) (wkEnv k run unit most S.length t tick nm) (S ++ [.lst (k.spots t), .lst (k.ways t), .lst (k.walls t)]) =
      some (.next (wkEnv k run unit most S.length (t + n) tick' nm'), S ++ [.lst (k.spots (t + n)), .lst (k.ways (t + n)), .lst (k.walls (t + n))])
  | 0, t, tick, nm, _ => ⟨tick, nm, by rw [intsW_zero, forF_nil, if_pos (hc _)]; rfl⟩
  | n + 1, t, tick, nm, hz => by
    obtain ⟨tick', nm', h⟩ := wk_loop k ok run unit most S chk hc n (t + 1) (some (.int ((t + 1 : Nat) : Int))) (some (.str (k.name (t + 1)))) (by omega)
    refine ⟨tick', nm', ?_⟩
    rw [intsW_succ, forF_cons, if_pos (hc _)]
    have g : gN 5 (.int ((t + 1 : Nat) : Int)) (wkEnv k run unit most S.length t tick nm) (S ++ [.lst (k.spots t), .lst (k.ways t), .lst (k.walls t)]) = some (wkEnv k run unit most S.length t (some (.int ((t + 1 : Nat) : Int))) nm, S ++ [.lst (k.spots t), .lst (k.ways t), .lst (k.walls t)]) := rfl
    rw [g]
    simp only [Option.bind_some]
    rw [wkB_ok k ok run unit most S t nm (by omega)]
    simp only [Option.bind_some]
    rw [show ((t + 1 : Nat) : Int) + 1 = ((t + 1 + 1 : Nat) : Int) by omega, h]
    rw [show t + 1 + n = t + (n + 1) by omega]
def wkOk (w h x y a b unit most : Int) : Prop := (0 < w ∧ w < 2 ^ 60) ∧ (0 < h ∧ h < 2 ^ 60) ∧ (0 ≤ x ∧ x ≤ w) ∧ (0 ≤ y ∧ y ≤ h) ∧ (a ≠ 0 → a ∣ unit) ∧ (b ≠ 0 → b ∣ unit) ∧ 0 < unit ∧ (-1 ≤ most ∧ most < 10000000)
def wkD (w h x y a b unit : Int) : WalkD := ⟨x * unit, y * unit, w * unit, h * unit, a, b⟩
open Classical in
noncomputable def G__law_walk : Fn
  | [.tup [.int w, .int h, .int x, .int y, .int a, .int b], .int unit, .int most], S => if wkOk w h x y a b unit most then
      some (.tup [.ref S.length, .ref (S.length + 1), .ref (S.length + 2)], S ++ [.lst ((wkD w h x y a b unit).spots most.toNat), .lst ((wkD w h x y a b unit).ways most.toNat), .lst ((wkD w h x y a b unit).walls most.toNat)]) else none
  | _, _ => none
theorem wkOk.ok {w h x y a b unit most : Int} (k : wkOk w h x y a b unit most) : (wkD w h x y a b unit).Ok := by
  obtain ⟨h1, h2, h3, h4, h5, h6, h7, h8⟩ := k
  refine ⟨Int.mul_pos h1.1 h7, Int.mul_pos h2.1 h7, ⟨Int.mul_nonneg h3.1 (by omega), Int.mul_le_mul_of_nonneg_right h3.2 (by omega)⟩, ⟨Int.mul_nonneg h4.1 (by omega), Int.mul_le_mul_of_nonneg_right h4.2 (by omega)⟩, fun z => ?_, fun z => ?_, fun z => ?_, fun z => ?_⟩
  · exact Int.dvd_mul_of_dvd_right (h5 z)
  · exact Int.dvd_mul_of_dvd_right (h5 z)
  · exact Int.dvd_mul_of_dvd_right (h6 z)
  · exact Int.dvd_mul_of_dvd_right (h6 z)
theorem app1 (S : Sto) (a b : O) : S ++ [a] ++ [b] = S ++ [a, b] := by simp
theorem app2 (S : Sto) (a b c : O) : S ++ [a, b] ++ [c] = S ++ [a, b, c] := by simp
theorem la1 (S : Sto) (a : O) : (S ++ [a]).length = S.length + 1 := by simp
theorem la2 (S : Sto) (a b : O) : (S ++ [a, b]).length = S.length + 2 := by simp
theorem ite_int (c : Prop) [Decidable c] (u v : Int) (S : Sto) : (if c then some (W.int u, S) else some (W.int v, S)) = some (W.int (if c then u else v), S) := by split <;> rfl
theorem t__law_walk : Tells 14 b__law_walk G__law_walk := by
  intro ws S r hh
  refine ⟨r, ?_, .same _⟩
  unfold G__law_walk at hh
  split at hh
  · rename_i w h x y a b unit most
    split at hh
    · rename_i hk
      cases hh
      have ok := hk.ok
      obtain ⟨h1, h2, h3, h4, h5, h6, h7, h8⟩ := id hk
      have c1 : okMul x unit := .inl (by omega)
      have c2 : okMul y unit := .inl (by omega)
      have c3 : okMul w unit := .inl (by omega)
      have c4 : okMul h unit := .inl (by omega)
      obtain ⟨hm, hn, hx, hy, _⟩ := id ok
      have sx : (wkD w h x y a b unit).px 0 = x * unit := px_zero hx.1 hx.2 hm
      have sy : (wkD w h x y a b unit).py 0 = y * unit := px_zero hy.1 hy.2 hn
      have qx : (wkD w h x y a b unit).dx 0 = (if x * unit = 0 then (a.natAbs : Int) else if x * unit = w * unit then -(a.natAbs : Int) else a) := dx_start hx.1 hx.2 hm
      have qy : (wkD w h x y a b unit).dy 0 = (if y * unit = 0 then (b.natAbs : Int) else if y * unit = h * unit then -(b.natAbs : Int) else b) := dx_start hy.1 hy.2 hn
      have sz : most.toNat + 2 < sizeLine := by
        have : (10000002 : Nat) < sizeLine := by decide
        omega
      obtain ⟨tick', nm', hl⟩ := wk_loop (wkD w h x y a b unit) ok (runW w h x y a b) unit most S (fun _ => True) (fun _ => trivial) most.toNat 0 none none (by omega)
      have e0 : (wkD w h x y a b unit).spots 0 = [.tup [.int (x * unit), .int (y * unit)]] := by
        rw [← sx, ← sy]; rfl
      have e1 : (wkD w h x y a b unit).ways 0 = [.tup [.int ((wkD w h x y a b unit).dx 0), .int ((wkD w h x y a b unit).dy 0)]] := rfl
      have e2 : (wkD w h x y a b unit).walls 0 = [] := rfl
      rw [e0, e1, e2, Nat.zero_add] at hl
      unfold wkEnv at hl
      rw [sx, sy] at hl
      have pre : ∀ rest : Fs, fnB 14 (sSeq (sAsg (eVar 0) (gTupW 6 (gsCons (gN 6) (gsCons (gN 7) (gsCons (gN 8) (gsCons (gN 9) (gsCons (gN 3) (gsCons (gN 4) (gsNil))))))))) (sSeq (sPar 8 9 (aCons (eOp mulW (eVar 8) (eVar 1)) (aCons (eOp mulW (eVar 9) (eVar 1)) (aNil)))) (sSeq (sPar 6 7 (aCons (eOp mulW (eVar 6) (eVar 1)) (aCons (eOp mulW (eVar 7) (eVar 1)) (aNil)))) (sSeq (sAsg (eIf (tVal (eOp eqW (eVar 8) (eC (.int 0)))) (eCall absW (aCons (eVar 3) (aNil))) (eIf (tVal (eOp eqW (eVar 8) (eVar 6))) (eUn negW (eCall absW (aCons (eVar 3) (aNil)))) (eVar 3))) (gN 3)) (sSeq (sAsg (eIf (tVal (eOp eqW (eVar 9) (eC (.int 0)))) (eCall absW (aCons (eVar 4) (aNil))) (eIf (tVal (eOp eqW (eVar 9) (eVar 7))) (eUn negW (eCall absW (aCons (eVar 4) (aNil)))) (eVar 4))) (gN 4)) (sSeq (sPar3 10 11 12 (aCons (eLst (aCons (eTup (aCons (eVar 8) (aCons (eVar 9) (aNil)))) (aNil))) (aCons (eLst (aCons (eTup (aCons (eVar 3) (aCons (eVar 4) (aNil)))) (aNil))) (aCons (eLst (aNil)) (aNil))))) rest)))))) [runW w h x y a b, .int unit, .int most] S =
          (rest [some (runW w h x y a b), some (.int unit), some (.int most), some (.int ((wkD w h x y a b unit).dx 0)), some (.int ((wkD w h x y a b unit).dy 0)), none, some (.int (w * unit)), some (.int (h * unit)), some (.int (x * unit)), some (.int (y * unit)), some (.ref S.length), some (.ref (S.length + 1)), some (.ref (S.length + 2)), none] (S ++ [.lst [.tup [.int (x * unit), .int (y * unit)]], .lst [.tup [.int ((wkD w h x y a b unit).dx 0), .int ((wkD w h x y a b unit).dy 0)]], .lst []])).bind fun p => match p.1 with
            | .next _ => some (.non, p.2)
            | .ret w => some (w, p.2)
            | _ => none := by
        intro rest
        rw [qx, qy]
        clear hl e0 e1 e2 qx qy sx sy
        simp only [fnB, en, List.map_cons, List.map_nil, List.length_cons, List.length_nil, List.replicate_succ, List.replicate_zero, List.cons_append, List.nil_append, List.append_nil, List.getElem?_cons_zero, List.getElem?_cons_succ, List.set_cons_zero, List.set_cons_succ,  Nat.zero_add, Nat.reduceAdd, Nat.reduceSub, Nat.sub_self, Nat.reduceEqDiff,  eVar, eC, eOp, eUn, aNil, aCons, eTup, eLst, eCall, eIf, eAnd, eOr, eNot, tVal, tAndW, tOrW, tNotW, eChain, sNext, sBrk, sCnt, sNever, sSeq, sRet, sRetN, sDrop, sIf, sAsg, sPar, sPar3, gN, gsNil, gsCons, gTupW, Option.bind_some, Option.bind_none,  s0, s1, s2, s3, s4, s6, subW, ltW, leW, gtW, geW, iop0, iop, modW, fdivW, powW, addW, mulW, negW, isi_int_int, isi_int_bool, isi_bl_int, isi_bl_bool, isi_non_int, isi_str_int, isi_tup_int, isi_tup_tup, eq_int, ne_int, len_p, len_6, len_l1, decide_true, decide_false, Int.reduceEq, Int.reduceNeg, absW, minW, ix_p0, ix_p1, ix_r0, ix_r1, ix_r2, ix_r3, ix_r4, ix_r5, if_true, if_false, ite_true, ite_false, Bool.not_true, Bool.not_false, Bool.false_eq_true, reduceIte, ↓reduceIte, abs_nat, List.append_assoc, la1, la2, decide_eq_true_eq, ite_int, ne_eq, not_false_eq_true, and_self, and_false, false_and, true_and, and_true, *]
        first | done | rfl
      unfold b__law_walk
      rw [pre]
      by_cases hmm : -1 ≤ most
      · have rng : iRange2 (aCons (eC (.int 1)) (aCons (eOp addW (eVar 2) (eC (.int 1))) (aNil))) [some (runW w h x y a b), some (.int unit), some (.int most), some (.int ((wkD w h x y a b unit).dx 0)), some (.int ((wkD w h x y a b unit).dy 0)), none, some (.int (w * unit)), some (.int (h * unit)), some (.int (x * unit)), some (.int (y * unit)), some (.ref S.length), some (.ref (S.length + 1)), some (.ref (S.length + 2)), none] (S ++ [.lst [.tup [.int (x * unit), .int (y * unit)]], .lst [.tup [.int ((wkD w h x y a b unit).dx 0), .int ((wkD w h x y a b unit).dy 0)]], .lst []]) = some (⟨intsW 1 most.toNat, fun _ => True⟩, S ++ [.lst [.tup [.int (x * unit), .int (y * unit)]], .lst [.tup [.int ((wkD w h x y a b unit).dx 0), .int ((wkD w h x y a b unit).dy 0)]], .lst []]) := by
          have z : -(2 ^ 62) ≤ (1 : Int) ∧ (1 : Int) < 2 ^ 62 ∧ -(2 ^ 62) ≤ most + 1 ∧ most + 1 < 2 ^ 62 := by omega
          have z2 : (most + 1 - 1).toNat = most.toNat := by omega
          simp only [iRange2, aCons, aNil, eC, eOp, eVar, addW, Option.bind_some, List.getElem?_cons_succ, List.getElem?_cons_zero, z, and_self, if_true, z2]
        have hl' := hl
        simp only [sSeq, sFor]
        rw [rng]
        simp only [Option.bind_some]
        have one : ((0 + 1 : Nat) : Int) = 1 := rfl
        rw [one] at hl'
        rw [show (wkB : Fs) = _ from rfl] at hl'
        unfold wkB at hl'
        erw [hl']
        simp only [Option.bind_some, sRet, eTup, aCons, aNil, eVar, List.getElem?_cons_succ, List.getElem?_cons_zero, List.length_cons, List.length_nil, Nat.zero_add, Nat.reduceAdd, s3, if_true]
      · exact absurd h8.1 hmm
    · cases hh
  · cases hh
theorem l__law_walk : ∀ ws S r, G__law_walk ws S = some r → ws.length = 3 := by
  intro ws S r h
  unfold G__law_walk at h
  split at h <;> first | rfl | cases h
end Bp

/-! Mt2: the period (no program). -/
namespace Bp
set_option autoImplicit false
theorem gcd_facts {a b : Int} (ha : 0 < a) : ∃ k l : Int, a = (Int.gcd a b : Nat) * k ∧ b = (Int.gcd a b : Nat) * l ∧ 0 < k ∧ 0 < ((Int.gcd a b : Nat) : Int) := by
  have gp : 0 < Int.gcd a b := by rw [Int.gcd_comm]; exact gcd_pos (by omega)
  obtain ⟨k, hk⟩ : ((Int.gcd a b : Nat) : Int) ∣ a := Int.gcd_dvd_left ..
  obtain ⟨l, hl⟩ : ((Int.gcd a b : Nat) : Int) ∣ b := Int.gcd_dvd_right ..
  exact ⟨k, l, hk, hl, Int.pos_of_mul_pos_right (a := ((Int.gcd a b : Nat) : Int)) (by rw [← hk]; exact ha) (by omega), by omega⟩
/-- the least common multiple of two fractions is a multiple of both -/
theorem lm_mul {p q : Int × Int} (h1 : 0 < p.1) (h2 : 0 < p.2) (h3 : 0 < q.1) (h4 : 0 < q.2) :
    0 < (lm p q).1 ∧ 0 < (lm p q).2 ∧ (∃ k, 0 < k ∧ (lm p q).1 * p.2 = k * p.1 * (lm p q).2) ∧ ∃ l, 0 < l ∧ (lm p q).1 * q.2 = l * q.1 * (lm p q).2 := by
  obtain ⟨a, b⟩ := p
  obtain ⟨c, d⟩ := q
  simp only at h1 h2 h3 h4 ⊢
  obtain ⟨k, l, e1, e2, kp, gp⟩ := gcd_facts (b := c) h1
  obtain ⟨m, n, e3, e4, mp, gq⟩ := gcd_facts (b := d) h2
  have lp : 0 < l := Int.pos_of_mul_pos_right (a := ((Int.gcd a c : Nat) : Int)) (by rw [← e2]; exact h3) gp
  have np : 0 < n := Int.pos_of_mul_pos_right (a := ((Int.gcd b d : Nat) : Int)) (by rw [← e4]; exact h4) gq
  have top : (a * c).fdiv (Int.gcd a c : Nat) = a * l := by
    rw [Int.fdiv_eq_ediv_of_nonneg _ (by omega)]
    conv => lhs; lhs; rw [e2]
    rw [show a * (((Int.gcd a c : Nat) : Int) * l) = ((Int.gcd a c : Nat) : Int) * (a * l) by grind]
    exact Int.mul_ediv_cancel_left _ (by omega)
  have el : lm (a, b) (c, d) = low (a * l) (Int.gcd b d : Nat) := by unfold lm; simp only [top]
  obtain ⟨s1, s2, s3⟩ := low_spec (n := a * l) gq
  rw [el]
  generalize low (a * l) (Int.gcd b d : Nat) = r at *
  have r1 : 0 < r.1 := by
    have : 0 < r.1 * (Int.gcd b d : Nat) := by rw [← s2]; exact Int.mul_pos (Int.mul_pos h1 lp) s1
    exact Int.pos_of_mul_pos_left this gq
  refine ⟨r1, s1, ⟨l * m, Int.mul_pos lp mp, ?_⟩, ⟨k * n, Int.mul_pos kp np, ?_⟩⟩
  · conv => lhs; rhs; rw [e3]
    have : r.1 * (((Int.gcd b d : Nat) : Int) * m) = (r.1 * (Int.gcd b d : Nat)) * m := by grind
    rw [this, ← s2]; grind
  · conv => lhs; rhs; rw [e4]
    have : r.1 * (((Int.gcd b d : Nat) : Int) * n) = (r.1 * (Int.gcd b d : Nat)) * n := by grind
    rw [this, ← s2]
    have e5 : a * l = k * c := by
      conv => lhs; lhs; rw [e1]
      conv => rhs; rhs; rw [e2]
      grind
    rw [e5]; grind
theorem low_pos' {n d : Int} (hn : 0 < n) (hd : 0 < d) : 0 < (low n d).1 := by
  obtain ⟨s1, s2, _⟩ := low_spec (n := n) hd
  exact Int.pos_of_mul_pos_left (by rw [← s2]; exact Int.mul_pos hn s1) hd
/-- after a period both coordinates stand where they stood -/
theorem per_mul {w h x y a b : Int} (ok : okRun w h x y a b) : 0 < (per w h a b).1 ∧ 0 < (per w h a b).2 ∧ (∃ k, a * (per w h a b).1 = 2 * w * (per w h a b).2 * k) ∧ ∃ l, b * (per w h a b).1 = 2 * h * (per w h a b).2 * l := by
  obtain ⟨h1, h2, h3, h4, h5, h6, h7⟩ := ok
  unfold per
  by_cases ha : a = 0
  · subst ha
    have hb : b ≠ 0 := fun z => h7 ⟨rfl, z⟩
    rw [if_pos rfl]
    have bp : (0 : Int) < (b.natAbs : Nat) := by omega
    obtain ⟨s1, s2, _⟩ := low_spec (n := 2 * h) bp
    refine ⟨low_pos' (by omega) bp, s1, ⟨0, by simp⟩, ?_⟩
    by_cases hb2 : 0 < b
    · exact ⟨1, by rw [show ((b.natAbs : Nat) : Int) = b by omega] at *; rw [Int.mul_comm b, ← s2]; grind⟩
    · refine ⟨-1, ?_⟩
      have e : b = -((b.natAbs : Nat) : Int) := by omega
      generalize ((b.natAbs : Nat) : Int) = c at *
      rw [e]
      have : -c * (low (2 * h) c).1 = -((low (2 * h) c).1 * c) := by grind
      rw [this, ← s2]; grind
  · rw [if_neg ha]
    have ap : (0 : Int) < (a.natAbs : Nat) := by omega
    obtain ⟨s1, s2, _⟩ := low_spec (n := 2 * w) ap
    have sg : ∀ (c : Int), ∃ e : Int, c = e * (c.natAbs : Nat) := fun c => by
      by_cases hc : 0 ≤ c
      · exact ⟨1, by omega⟩
      · exact ⟨-1, by omega⟩
    by_cases hb : b = 0
    · subst hb
      rw [if_pos rfl]
      refine ⟨low_pos' (by omega) ap, s1, ?_, ⟨0, by simp⟩⟩
      obtain ⟨e, he⟩ := sg a
      refine ⟨e, ?_⟩
      generalize ((a.natAbs : Nat) : Int) = c at *
      rw [he]
      have : e * c * (low (2 * w) c).1 = e * ((low (2 * w) c).1 * c) := by grind
      rw [this, ← s2]; grind
    · rw [if_neg hb]
      have bp : (0 : Int) < (b.natAbs : Nat) := by omega
      obtain ⟨t1, t2, _⟩ := low_spec (n := 2 * h) bp
      obtain ⟨m1, m2, ⟨k, kp, m3⟩, ⟨l, lp, m4⟩⟩ := lm_mul (p := low (2 * w) (a.natAbs : Nat)) (q := low (2 * h) (b.natAbs : Nat)) (low_pos' (by omega) ap) s1 (low_pos' (by omega) bp) t1
      refine ⟨m1, m2, ?_, ?_⟩
      · obtain ⟨e, he⟩ := sg a
        refine ⟨e * k, ?_⟩
        generalize lm (low (2 * w) (a.natAbs : Nat)) (low (2 * h) (b.natAbs : Nat)) = R at *
        generalize ((a.natAbs : Nat) : Int) = c at *
        apply Int.eq_of_mul_eq_mul_left (a := (low (2 * w) c).2) (by omega)
        rw [he]
        have g1 : (low (2 * w) c).2 * (e * c * R.1) = e * c * (R.1 * (low (2 * w) c).2) := by grind
        rw [g1, m3]
        have g2 : e * c * (k * (low (2 * w) c).1 * R.2) = e * k * R.2 * ((low (2 * w) c).1 * c) := by grind
        rw [g2, ← s2]; grind
      · obtain ⟨e, he⟩ := sg b
        refine ⟨e * l, ?_⟩
        generalize lm (low (2 * w) (a.natAbs : Nat)) (low (2 * h) (b.natAbs : Nat)) = R at *
        generalize ((b.natAbs : Nat) : Int) = c at *
        apply Int.eq_of_mul_eq_mul_left (a := (low (2 * h) c).2) (by omega)
        rw [he]
        have g1 : (low (2 * h) c).2 * (e * c * R.1) = e * c * (R.1 * (low (2 * h) c).2) := by grind
        rw [g1, m4]
        have g2 : e * c * (l * (low (2 * h) c).1 * R.2) = e * l * R.2 * ((low (2 * h) c).1 * c) := by grind
        rw [g2, ← t2]; grind
/-! ### places at times -/
theorem plc_scale {w x a : Int} {p q c : Int} (hc : 0 < c) (hq : 0 < q) : plc w x a (c * p, c * q) = plc w x a (p, q) := by
  unfold plc
  simp only
  rw [show x * (c * q) + a * (c * p) = c * (x * q + a * p) by grind, show w * (c * q) = c * (w * q) by grind, foldI_scale hc, low_scale hc hq]
/-- the same time -/
theorem plc_same {w x a : Int} {p q p' q' : Int} (hq : 0 < q) (hq' : 0 < q') (h : p * q' = p' * q) : plc w x a (p, q) = plc w x a (p', q') := by
  rw [← plc_scale (p := p) hq' hq, ← plc_scale (p := p') hq hq', Int.mul_comm q' p, h, Int.mul_comm p' q, Int.mul_comm q' q]
/-- later by multiples of the period of a coordinate -/
theorem plc_later {w x a : Int} {p q P Q n k : Int} (hq : 0 < q) (hQ : 0 < Q) (h : a * P = 2 * w * Q * k) : plc w x a (p * Q + n * P * q, q * Q) = plc w x a (p, q) := by
  rw [← plc_scale (p := p) hQ hq]
  unfold plc
  simp only
  rw [show q * Q = Q * q by grind]
  congr 1
  rw [show x * (Q * q) + a * (p * Q + n * P * q) = x * (Q * q) + a * (Q * p) + 2 * (w * (Q * q)) * (n * k) by
    have : a * (n * P * q) = n * q * (a * P) := by grind
    have e : a * (p * Q + n * P * q) = a * (Q * p) + n * q * (a * P) := by grind
    rw [e, h]; grind]
  exact foldI_add
theorem plc_walk {w x a unit bottom top : Int} (hu : 0 < unit) (hb : 0 < bottom) (hd : bottom ∣ unit) : plc w x a (top, bottom) = low (foldI (x * unit + a * (top * unit / bottom)) (w * unit)) unit := by
  obtain ⟨c, rfl⟩ := hd
  have cp : 0 < c := Int.pos_of_mul_pos_right (a := bottom) hu (by omega)
  have e : top * (bottom * c) / bottom = top * c := by
    rw [show top * (bottom * c) = bottom * (top * c) by grind]
    exact Int.mul_ediv_cancel_left _ (by omega)
  rw [e]
  have := plc_scale (w := w) (x := x) (a := a) (p := top) (c := c) cp hb
  rw [← this]
  unfold plc
  simp only
  rw [show c * bottom = bottom * c by grind, show c * top = top * c by grind]
end Bp

/-! Mt3: the period is the least (no program). -/
namespace Bp
set_option autoImplicit false
theorem euclid {a b c : Int} (h : c ∣ a * b) (g : Int.gcd c a = 1) : c ∣ b := by
  have h1 : c ∣ c * b := Int.dvd_mul_right ..
  have h2 : c ∣ ((Int.gcd (b * c) (b * a) : Nat) : Int) := Int.dvd_coe_gcd (by rw [Int.mul_comm]; exact h1) (by rw [Int.mul_comm]; exact h)
  rw [Int.gcd_mul_left, g, Nat.mul_one] at h2
  exact Int.dvd_natAbs.mp h2
theorem gcd_of_dvd {a n : Int} {p q : Int} (h1 : a ∣ n * p) (h2 : a ∣ n * q) : a ∣ n * (Int.gcd p q : Nat) := by
  have h := Int.dvd_coe_gcd h1 h2
  rw [Int.gcd_mul_left] at h
  have e : ((n.natAbs * Int.gcd p q : Nat) : Int) = (n.natAbs : Int) * (Int.gcd p q : Nat) := by simp
  rw [e] at h
  by_cases hn : 0 ≤ n
  · rw [show ((n.natAbs : Nat) : Int) = n by omega] at h; exact h
  · rw [show ((n.natAbs : Nat) : Int) = -n by omega, Int.neg_mul] at h
    exact Int.dvd_neg.mp h
theorem lcm_of_dvd {a c m : Int} (ha : 0 < a) (hc : 0 < c) (h1 : a ∣ m) (h2 : c ∣ m) : (a * c).fdiv (Int.gcd a c : Nat) ∣ m := by
  obtain ⟨k, l, e1, e2, kp, gp⟩ := gcd_facts (b := c) ha
  have top : (a * c).fdiv (Int.gcd a c : Nat) = a * l := by
    rw [Int.fdiv_eq_ediv_of_nonneg _ (by omega)]
    conv => lhs; lhs; rw [e2]
    rw [show a * (((Int.gcd a c : Nat) : Int) * l) = ((Int.gcd a c : Nat) : Int) * (a * l) by grind]
    exact Int.mul_ediv_cancel_left _ (by omega)
  rw [top]
  have cop : Int.gcd l k = 1 := by
    have z := Int.gcd_mul_left ((Int.gcd a c : Nat) : Int) k l
    rw [← e1, ← e2] at z
    have g0 : 0 < Int.gcd a c := by omega
    have : Int.gcd a c * Int.gcd k l = Int.gcd a c * 1 := by
      have : (Int.gcd a c) = (((Int.gcd a c : Nat) : Int)).natAbs * Int.gcd k l := z
      simp only [Int.natAbs_natCast] at this
      omega
    rw [Int.gcd_comm]
    exact Nat.eq_of_mul_eq_mul_left g0 this
  obtain ⟨s, hs⟩ := h1
  obtain ⟨t, ht⟩ := h2
  have h3 : l ∣ k * s := by
    refine ⟨t, ?_⟩
    apply Int.eq_of_mul_eq_mul_left (a := ((Int.gcd a c : Nat) : Int)) (by omega)
    have a1 : ((Int.gcd a c : Nat) : Int) * (k * s) = (((Int.gcd a c : Nat) : Int) * k) * s := by grind
    have a2 : ((Int.gcd a c : Nat) : Int) * (l * t) = (((Int.gcd a c : Nat) : Int) * l) * t := by grind
    rw [a1, a2, ← e1, ← e2, ← hs, ← ht]
  obtain ⟨u, hu⟩ := euclid h3 cop
  exact ⟨u, by rw [hs, hu]; grind⟩
/-- a common multiple of two fractions in lowest terms is a multiple of the least one -/
theorem lm_min {p q : Int × Int} (h1 : 0 < p.1) (h2 : 0 < p.2) (h3 : 0 < q.1) (h4 : 0 < q.2) (cp : Int.gcd p.1 p.2 = 1) (cq : Int.gcd q.1 q.2 = 1) {n d k l : Int} (hd : 0 < d) (e1 : n * p.2 = k * p.1 * d) (e2 : n * q.2 = l * q.1 * d) :
    ∃ j, n * (lm p q).2 = j * (lm p q).1 * d := by
  obtain ⟨a, b⟩ := p
  obtain ⟨c, e⟩ := q
  simp only at *
  have x1 : k * a * e = l * c * b := by
    apply Int.eq_of_mul_eq_mul_left (a := d) (by omega)
    have a1 : d * (k * a * e) = (k * a * d) * e := by grind
    have a2 : d * (l * c * b) = (l * c * d) * b := by grind
    rw [a1, a2, ← e1, ← e2]; grind
  have y1 : a ∣ l * c := by
    refine euclid (a := b) ⟨k * e, ?_⟩ cp
    rw [Int.mul_comm b, ← x1]; grind
  have y2 : c ∣ k * a := by
    refine euclid (a := e) ⟨l * b, ?_⟩ cq
    rw [Int.mul_comm e, x1]; grind
  have z1 : a * d ∣ n * (Int.gcd b e : Nat) := by
    refine gcd_of_dvd ⟨k, by rw [e1]; grind⟩ ?_
    obtain ⟨s, hs⟩ := y1
    exact ⟨s, by rw [e2, hs]; grind⟩
  have z2 : c * d ∣ n * (Int.gcd b e : Nat) := by
    refine gcd_of_dvd ?_ ⟨l, by rw [e2]; grind⟩
    obtain ⟨s, hs⟩ := y2
    exact ⟨s, by rw [e1, hs]; grind⟩
  obtain ⟨m, hm⟩ : d ∣ n * (Int.gcd b e : Nat) := Int.dvd_trans (Int.dvd_mul_left ..) z1
  have m1 : a ∣ m := by
    obtain ⟨s, hs⟩ := z1
    refine ⟨s, Int.eq_of_mul_eq_mul_left (a := d) (by omega) ?_⟩
    rw [← hm, hs]; grind
  have m2 : c ∣ m := by
    obtain ⟨s, hs⟩ := z2
    refine ⟨s, Int.eq_of_mul_eq_mul_left (a := d) (by omega) ?_⟩
    rw [← hm, hs]; grind
  obtain ⟨j, hj⟩ := lcm_of_dvd h1 h3 m1 m2
  have gq : (0 : Int) < (Int.gcd b e : Nat) := by
    have := gcd_pos (n := b) (d := e) (by omega)
    omega
  refine ⟨j, ?_⟩
  have el : lm (a, b) (c, e) = low ((a * c).fdiv (Int.gcd a c : Nat)) (Int.gcd b e : Nat) := rfl
  obtain ⟨s1, s2, _⟩ := low_spec (n := (a * c).fdiv (Int.gcd a c : Nat)) gq
  rw [← el] at s1 s2
  generalize lm (a, b) (c, e) = R at *
  generalize (a * c).fdiv (Int.gcd a c : Nat) = L at *
  generalize ((Int.gcd b e : Nat) : Int) = g at *
  apply Int.eq_of_mul_eq_mul_left (a := g) (by omega)
  have a1 : g * (n * R.2) = (n * g) * R.2 := by grind
  have a2 : g * (j * R.1 * d) = j * d * (R.1 * g) := by grind
  rw [a1, a2, ← s2, hm, hj]; grind
theorem sgn_dvd {a : Int} : ∃ e : Int, (e = 1 ∨ e = -1) ∧ a = e * (a.natAbs : Nat) := by
  by_cases hc : 0 ≤ a
  · exact ⟨1, .inl rfl, by omega⟩
  · exact ⟨-1, .inr rfl, by omega⟩
/-- one coordinate: a time by which it comes round is a multiple of its own -/
theorem one_min {w a n d k : Int} (hw : 0 < w) (ha : a ≠ 0) (hd : 0 < d) (e : a * n = 2 * w * d * k) : ∃ j, n * (low (2 * w) (a.natAbs : Nat)).2 = j * (low (2 * w) (a.natAbs : Nat)).1 * d := by
  have ap : (0 : Int) < (a.natAbs : Nat) := by omega
  obtain ⟨s1, s2, s3⟩ := low_spec (n := 2 * w) ap
  obtain ⟨f, hf, ef⟩ := sgn_dvd (a := a)
  generalize ((a.natAbs : Nat) : Int) = c at *
  generalize hR : low (2 * w) c = R at *
  refine ⟨f * k, ?_⟩
  have ff : f * f = 1 := by rcases hf with rfl | rfl <;> rfl
  apply Int.eq_of_mul_eq_mul_left (a := c) (by omega)
  have a0 : c * n = f * (2 * w * d * k) := by
    rw [← e, ef]
    have : f * (f * c * n) = (f * f) * (c * n) := by grind
    rw [this, ff]; grind
  have a1 : c * (n * R.2) = (c * n) * R.2 := by grind
  rw [a1, a0]
  have a2 : f * (2 * w * d * k) * R.2 = f * k * d * (2 * w * R.2) := by grind
  rw [a2, s2]; grind
theorem per_min {w h x y a b n d : Int} (ok : okRun w h x y a b) (hd : 0 < d) (e1 : a ≠ 0 → ∃ k, a * n = 2 * w * d * k) (e2 : b ≠ 0 → ∃ l, b * n = 2 * h * d * l) : ∃ j, n * (per w h a b).2 = j * (per w h a b).1 * d := by
  obtain ⟨h1, h2, h3, h4, h5, h6, h7⟩ := ok
  unfold per
  by_cases ha : a = 0
  · have hb : b ≠ 0 := fun z => h7 ⟨ha, z⟩
    rw [if_pos ha]
    obtain ⟨l, hl⟩ := e2 hb
    exact one_min (by omega) hb hd hl
  · rw [if_neg ha]
    obtain ⟨k, hk⟩ := e1 ha
    by_cases hb : b = 0
    · rw [if_pos hb]
      exact one_min (by omega) ha hd hk
    · rw [if_neg hb]
      obtain ⟨l, hl⟩ := e2 hb
      obtain ⟨k', hk'⟩ := one_min (by omega) ha hd hk
      obtain ⟨l', hl'⟩ := one_min (by omega) hb hd hl
      have ap : (0 : Int) < (a.natAbs : Nat) := by omega
      have bp : (0 : Int) < (b.natAbs : Nat) := by omega
      obtain ⟨s1, s2, s3⟩ := low_spec (n := 2 * w) ap
      obtain ⟨t1, t2, t3⟩ := low_spec (n := 2 * h) bp
      exact lm_min (low_pos' (by omega) ap) s1 (low_pos' (by omega) bp) t1 s3 t3 hd hk' hl'
/-- the period is in lowest terms -/
theorem per_low {w h x y a b : Int} (ok : okRun w h x y a b) : ∃ n d, 0 < d ∧ per w h a b = low n d := by
  obtain ⟨h1, h2, h3, h4, h5, h6, h7⟩ := ok
  unfold per
  by_cases ha : a = 0
  · have hb : b ≠ 0 := fun z => h7 ⟨ha, z⟩
    rw [if_pos ha]
    exact ⟨_, _, by omega, rfl⟩
  · rw [if_neg ha]
    by_cases hb : b = 0
    · rw [if_pos hb]; exact ⟨_, _, by omega, rfl⟩
    · rw [if_neg hb]
      unfold lm
      have bp : (0 : Int) < (b.natAbs : Nat) := by omega
      obtain ⟨t1, t2, t3⟩ := low_spec (n := 2 * h) bp
      have := gcd_pos (n := (low (2 * w) (a.natAbs : Nat)).2) (d := (low (2 * h) (b.natAbs : Nat)).2) (by omega)
      exact ⟨_, _, by omega, rfl⟩
theorem low_low {n d : Int} (hd : 0 < d) : low (low n d).1 (low n d).2 = low n d := by
  obtain ⟨s1, s2, _⟩ := low_spec (n := n) hd
  exact (low_eq hd s1 s2).symm
theorem gcd_low {n d : Int} (hd : 0 < d) : Int.gcd (low n d).1 (low n d).2 = 1 := (low_spec hd).2.2
end Bp

/-! Lw4: steps through a law's own body; lists of pairs compared, slices. -/
namespace Bp
set_option autoImplicit false
open PySem L2
/-! ### lists of pairs -/
def frD (p : Int × Int) : PyData := .tuple [.int p.1, .int p.2]
theorem mapO_fr {S : Sto} {k : Nat} : ∀ ps : List (Int × Int), mapO (toD S (k + 2)) (ps.map fr) = some (ps.map frD)
  | [] => rfl
  | p :: ps => by simp [mapO, toD, mapO_fr ps, frD]
theorem eqv_fr (p q : Int × Int) : PyData.eqv (frD p) (frD q) = decide (p = q) := by
  have : (p.1 == q.1 && p.2 == q.2) = decide (p = q) := by
    obtain ⟨a, b⟩ := p; obtain ⟨c, d⟩ := q
    by_cases h1 : a = c <;> by_cases h2 : b = d <;> simp [h1, h2]
  simp [frD, PyData.eqv, PyData.eqvAll, this]
theorem eqvAll_fr : ∀ ps qs : List (Int × Int), PyData.eqvAll (ps.map frD) (qs.map frD) = decide (ps = qs)
  | [], [] => by simp [PyData.eqvAll]
  | [], q :: qs => by simp [PyData.eqvAll]
  | p :: ps, [] => by simp [PyData.eqvAll]
  | p :: ps, q :: qs => by
    simp only [List.map_cons, PyData.eqvAll, eqv_fr, eqvAll_fr ps qs]
    by_cases h1 : p = q <;> by_cases h2 : ps = qs <;> simp [h1, h2]
theorem eqv_frs {S : Sto} {n m : Nat} {ps qs : List (Int × Int)} (hn : S[n]? = some (.lst (ps.map fr))) (hm : S[m]? = some (.lst (qs.map fr))) : eqvW S (.ref n) (.ref m) = some (decide (ps = qs)) := by
  simp only [eqvW, toD, hn, hm, mapO_fr, Option.bind_some, PyData.eqv, eqvAll_fr]
theorem eq_frs {S : Sto} {n m : Nat} {ps qs : List (Int × Int)} (hn : S[n]? = some (.lst (ps.map fr))) (hm : S[m]? = some (.lst (qs.map fr))) : eqW (.ref n) (.ref m) S = some (.bl (decide (ps = qs)), S) := by
  simp only [eqW, eqv_frs hn hm, Option.bind_some]
theorem ne_frs {S : Sto} {n m : Nat} {ps qs : List (Int × Int)} (hn : S[n]? = some (.lst (ps.map fr))) (hm : S[m]? = some (.lst (qs.map fr))) : neW (.ref n) (.ref m) S = some (.bl (!decide (ps = qs)), S) := by
  simp only [neW, eqv_frs hn hm, Option.bind_some]
/-! ### slices -/
theorem cut_take {α : Type} (xs : List α) (k : Nat) : cutL xs none (some (k : Int)) = xs.take k := by
  unfold cutL
  rw [HT.sIx_none, HT.sIx_nat]
  simp only [List.drop_zero, Nat.sub_zero]
  by_cases h : k ≤ xs.length
  · rw [Nat.min_eq_left h]
  · rw [Nat.min_eq_right (by omega), List.take_of_length_le (by omega), List.take_of_length_le (by omega)]
theorem cut_drop {α : Type} (xs : List α) (k : Nat) : cutL xs (some (k : Int)) none = xs.drop k := by
  unfold cutL
  rw [HT.sIx_none, HT.sIx_nat]
  by_cases h : k ≤ xs.length
  · rw [Nat.min_eq_left h, List.take_of_length_le (by simp)]
  · rw [Nat.min_eq_right (by omega), List.drop_eq_nil_of_le (by omega), List.drop_eq_nil_of_le (by omega)]
    simp
theorem cut_mid {α : Type} (xs : List α) (k l : Nat) (h : k + l ≤ xs.length) : cutL xs (some (k : Int)) (some ((k + l : Nat) : Int)) = (xs.drop k).take l := by
  unfold cutL
  rw [HT.sIx_nat, HT.sIx_nat, Nat.min_eq_left (by omega), Nat.min_eq_left (by omega), Nat.add_sub_cancel_left]
theorem slice_lst {S : Sto} {n : Nat} {xs : List W} {lo hi : Option Int} (h : S[n]? = some (.lst xs)) : sliceW (.ref n) lo hi S = some (.ref S.length, S ++ [.lst (cutL xs lo hi)]) := by
  simp only [sliceW, h]
theorem slice_r4 (a b c d e f : W) (S : Sto) : sliceW (.tup [a, b, c, d, e, f]) (some 4) none S = some (.tup [e, f], S) := rfl
theorem slice_r2 (a b c d e f : W) (S : Sto) : sliceW (.tup [a, b, c, d, e, f]) none (some 2) S = some (.tup [a, b], S) := rfl
theorem slice_rt (a b c d e f : W) (S : Sto) : sliceW (.tup [a, b, c, d, e, f]) (some 2) none S = some (.tup [c, d, e, f], S) := rfl
theorem unit_tup2 (a b : Int) (S : Sto) (ha : a.natAbs < 2 ^ 64) (hb : b.natAbs < 2 ^ 64) : G__law_unit [.tup [.int a, .int b]] S = some (.int (unitR [a, b] 1), S) := by
  have nums : ∀ n ∈ [a, b], n.natAbs < 2 ^ 64 := by intro n hn; simp at hn; rcases hn with rfl | rfl <;> assumption
  simp only [G__law_unit, okNums, seqOf, Option.bind_some, intsOf]
  rw [if_pos nums]
/-! ### the walk's places as pairs -/
namespace WalkD
def sp (k : WalkD) (t : Nat) : Int × Int := (k.px t, k.py t)
theorem spots_fr (k : WalkD) (t : Nat) : k.spots t = ((List.range (t + 1)).map k.sp).map fr := by
  unfold spots
  rw [List.map_map]
  rfl
end WalkD
/-- what a law's walk by its unit is -/
theorem unit_facts {a b : Int} {A : Int} (ha : a.natAbs ≤ A) (hb : b.natAbs ≤ A) (hA : 0 < A) : 0 < unitR [a, b] 1 ∧ unitR [a, b] 1 ≤ A * A ∧ (a ≠ 0 → a ∣ unitR [a, b] 1) ∧ (b ≠ 0 → b ∣ unitR [a, b] 1) := by
  obtain ⟨h1, h2, h3⟩ := unitR_pos (ns := [a, b]) (u := 1) (by decide)
  have h4 := unitR_le (ns := [a, b]) (u := 1) (B := A) (by decide) (by intro n hn; simp at hn; rcases hn with rfl | rfl <;> assumption) hA
  refine ⟨h1, ?_, h3 a (by simp), h3 b (by simp)⟩
  have e : A ^ 2 = A * A := by grind
  simp only [List.length_cons, List.length_nil, Nat.zero_add, Nat.reduceAdd, Int.one_mul] at h4
  rw [e] at h4
  exact h4
theorem per_dvd {w h x y a b u : Int} (ok : okRun w h x y a b) (ha : a ≠ 0 → a ∣ u) (hb : b ≠ 0 → b ∣ u) : (per w h a b).2 ∣ u := by
  obtain ⟨p1, p2, ⟨k, e1⟩, ⟨l, e2⟩⟩ := per_mul ok
  obtain ⟨n, d, hd, hl⟩ := per_low ok
  have g : Int.gcd (per w h a b).2 (per w h a b).1 = 1 := by rw [Int.gcd_comm, hl]; exact gcd_low hd
  have q1 : (per w h a b).2 ∣ a := euclid (a := (per w h a b).1) ⟨2 * w * k, by rw [Int.mul_comm, e1]; grind⟩ g
  have q2 : (per w h a b).2 ∣ b := euclid (a := (per w h a b).1) ⟨2 * h * l, by rw [Int.mul_comm, e2]; grind⟩ g
  by_cases h0 : a = 0
  · have : b ≠ 0 := fun z => ok.2.2.2.2.2.2 ⟨h0, z⟩
    exact Int.dvd_trans q2 (hb this)
  · exact Int.dvd_trans q1 (ha h0)
theorem low_le {n d : Int} (hn : 0 < n) (hd : 0 < d) : (low n d).1 ≤ n ∧ (low n d).2 ≤ d := by
  obtain ⟨h1, h2, h3, h4⟩ := low_small (n := n) (d := d) (by omega) hd
  have := low_pos' hn hd
  exact ⟨by omega, h4⟩
/-- a period is at most 288, whole or not -/
theorem per_le {w h x y a b : Int} (ok : okRun w h x y a b) : (per w h a b).1 ≤ 576 ∧ (per w h a b).2 ≤ 6 := by
  obtain ⟨h1, h2, h3, h4, h5, h6, h7⟩ := ok
  unfold per
  by_cases ha : a = 0
  · have hb : b ≠ 0 := fun z => h7 ⟨ha, z⟩
    rw [if_pos ha]
    obtain ⟨q1, q2⟩ := low_le (n := 2 * h) (d := (b.natAbs : Nat)) (by omega) (by omega)
    omega
  · rw [if_neg ha]
    obtain ⟨q1, q2⟩ := low_le (n := 2 * w) (d := (a.natAbs : Nat)) (by omega) (by omega)
    by_cases hb : b = 0
    · rw [if_pos hb]; omega
    · rw [if_neg hb]
      obtain ⟨r1, r2⟩ := low_le (n := 2 * h) (d := (b.natAbs : Nat)) (by omega) (by omega)
      have p1 := low_pos' (n := 2 * w) (d := (a.natAbs : Nat)) (by omega) (by omega)
      have p2 := low_pos' (n := 2 * h) (d := (b.natAbs : Nat)) (by omega) (by omega)
      obtain ⟨s1, _, _⟩ := low_spec (n := 2 * w) (d := (a.natAbs : Nat)) (by omega)
      obtain ⟨t1, _, _⟩ := low_spec (n := 2 * h) (d := (b.natAbs : Nat)) (by omega)
      generalize low (2 * w) (a.natAbs : Nat) = R at *
      generalize low (2 * h) (b.natAbs : Nat) = T at *
      unfold lm
      have g1 := gcd_pos (n := R.2) (d := T.2) (by omega)
      have g2 := gcd_le (n := R.2) (d := T.2) (by omega)
      have g3 := gcd_pos (n := R.1) (d := T.1) (by omega)
      have m1 : R.1 * T.1 ≤ 24 * 24 := by
        have := Int.mul_le_mul (a := R.1) (b := T.1) (c := 24) (d := 24) (by omega) (by omega) (by omega) (by decide)
        omega
      have m0 : 0 < R.1 * T.1 := Int.mul_pos p1 p2
      have m2 : (R.1 * T.1).fdiv (Int.gcd R.1 T.1 : Nat) ≤ R.1 * T.1 := by
        rw [Int.fdiv_eq_ediv_of_nonneg _ (by omega)]
        exact Int.ediv_le_self _ (by omega)
      have m3 : 0 < (R.1 * T.1).fdiv (Int.gcd R.1 T.1 : Nat) := by
        rw [Int.fdiv_eq_ediv_of_nonneg _ (by omega)]
        apply Int.ediv_pos_of_pos_of_dvd m0 (by omega)
        exact Int.dvd_mul_of_dvd_left (Int.gcd_dvd_left ..)
      obtain ⟨u1, u2⟩ := low_le (n := (R.1 * T.1).fdiv (Int.gcd R.1 T.1 : Nat)) (d := (Int.gcd R.2 T.2 : Nat)) m3 (by omega)
      omega
end Bp

/-! Mt4: the walk comes round after its period, and not before (no program). -/
namespace Bp
set_option autoImplicit false
/-- a coordinate comes round -/
theorem px_round {x m a : Int} {s : Nat} {k : Int} (h : a * (s : Int) = 2 * m * k) (t : Nat) : px x m a (t + s) = px x m a t := by
  unfold px
  rw [show x + a * ((t + s : Nat) : Int) = x + a * (t : Int) + 2 * m * k by
    rw [← h]
    have : ((t + s : Nat) : Int) = (t : Int) + (s : Int) := by omega
    rw [this]; grind]
  exact foldI_add
/-- where it stands at the wall 0 -/
theorem fold_zero {z m : Int} (hm : 0 < m) (h : foldI z m = 0) : ∃ k, z = 2 * m * k := by
  obtain ⟨b1, b2⟩ := emod_bounds (z := z) hm
  unfold foldI at h
  have e : z % (2 * m) = 0 := by split at h <;> omega
  obtain ⟨k, hk⟩ := Int.dvd_of_emod_eq_zero e
  exact ⟨k, hk⟩
/-- if a coordinate stands at all times where it stands s later, s is a time by which it comes round -/
theorem px_round_inv {x m a : Int} {s : Nat} (hm : 0 < m) (ha : a ≠ 0) (h1 : a ∣ x) (h2 : a ∣ m) (h : ∀ t, px x m a (t + s) = px x m a t) : ∃ k, a * (s : Int) = 2 * m * k := by
  -- a time at which it stands at 0
  obtain ⟨u, hu⟩ := h1
  obtain ⟨v, hv⟩ := h2
  have v0 : v ≠ 0 := fun z => by rw [z] at hv; simp at hv; omega
  -- x + a t = 2 m j with t = 2 v j - u, j with the sign of v and large
  let j : Int := v * (u.natAbs : Int)
  have vv : 1 ≤ v * v := by
    have : 0 < v * v := by
      rcases Int.lt_or_gt_of_ne v0 with q | q
      · exact Int.mul_pos_of_neg_of_neg q q
      · exact Int.mul_pos q q
    omega
  have tp : 0 ≤ 2 * v * j - u := by
    have e : 2 * v * j = 2 * ((v * v) * (u.natAbs : Int)) := by show 2 * v * (v * (u.natAbs : Int)) = _; grind
    have g : 1 * (u.natAbs : Int) ≤ (v * v) * (u.natAbs : Int) := Int.mul_le_mul_of_nonneg_right vv (by omega)
    omega
  have ex : x + a * (2 * v * j - u) = 2 * m * j := by rw [hu, hv]; grind
  obtain ⟨t, ht⟩ : ∃ t : Nat, (t : Int) = 2 * v * j - u := ⟨(2 * v * j - u).toNat, by omega⟩
  have z0 : px x m a t = 0 := by
    unfold px
    rw [ht, ex, show 2 * m * j = 0 + 2 * m * j by omega, foldI_add]
    exact foldI_self (by omega) (by omega) hm
  have z1 := h t
  rw [z0] at z1
  unfold px at z1
  obtain ⟨k, hk⟩ := fold_zero hm z1
  refine ⟨k - j, ?_⟩
  have e2 : x + a * ((t + s : Nat) : Int) = 2 * m * j + a * (s : Int) := by
    have : ((t + s : Nat) : Int) = (t : Int) + (s : Int) := by omega
    rw [this, ht, ← ex]; grind
  rw [e2] at hk
  grind
theorem range_take {α : Type} (f : Nat → α) (n k : Nat) (h : k ≤ n) : ((List.range n).map f).take k = (List.range k).map f := by
  rw [← List.map_take, List.take_range, Nat.min_eq_left h]
theorem range_drop {α : Type} (f : Nat → α) (n k : Nat) : ((List.range (k + n)).map f).drop k = (List.range n).map (fun i => f (k + i)) := by
  rw [← List.map_drop]
  have : (List.range (k + n)).drop k = (List.range n).map (k + ·) := by
    apply List.ext_getElem?
    intro i
    rw [List.getElem?_drop]
    by_cases h : i < n
    · rw [List.getElem?_range (by omega), List.getElem?_map, List.getElem?_range h]; rfl
    · rw [List.getElem?_eq_none (by simp; omega), List.getElem?_eq_none (by simp; omega)]
  rw [this, List.map_map]
  rfl
theorem range_mid {α : Type} (f : Nat → α) (n k l : Nat) (h : k + l ≤ n) : (((List.range n).map f).drop k).take l = (List.range l).map (fun i => f (k + i)) := by
  obtain ⟨m, rfl⟩ : ∃ m, n = k + m := ⟨n - k, by omega⟩
  rw [range_drop, range_take _ _ _ (by omega)]
theorem map_range_inj {α : Type} {f g : Nat → α} {n : Nat} (h : (List.range n).map f = (List.range n).map g) : ∀ i, i < n → f i = g i := by
  intro i hi
  have := congrArg (fun l => l[i]?) h
  simp only [List.getElem?_map, List.getElem?_range hi, Option.map_some] at this
  exact Option.some.inj this
/-- the walk of a run, by its unit: after P * U / Q parts it comes round, and at no fewer -/
structure Round (k : WalkD) (T : Nat) : Prop where
  pos : 0 < T
  turn : ∀ t, k.sp (t + T) = k.sp t
  least : ∀ s, 0 < s → s < T → (∀ t, k.sp (t + s) = k.sp t) → False
theorem Round.mod {k : WalkD} {T : Nat} (r : Round k T) : ∀ t, k.sp t = k.sp (t % T) := by
  intro t
  induction t using Nat.strongRecOn with
  | _ t ih =>
    by_cases h : t < T
    · rw [Nat.mod_eq_of_lt h]
    · have hp := r.pos
      have e : t = (t - T) + T := by omega
      rw [e, r.turn, ih (t - T) (by omega)]
      congr 1
      rw [Nat.add_mod_right]
theorem run_round {w h x y a b U T : Int} (ok : okRun w h x y a b) (hU : 0 < U) (da : a ≠ 0 → a ∣ U) (db : b ≠ 0 → b ∣ U) (hT : (per w h a b).1 * U = (per w h a b).2 * T) : 0 < T ∧ Round (wkD w h x y a b U) T.toNat := by
  obtain ⟨p1, p2, ⟨k, e1⟩, ⟨l, e2⟩⟩ := per_mul ok
  obtain ⟨h1, h2, h3, h4, h5, h6, h7⟩ := id ok
  have Tp : 0 < T := Int.pos_of_mul_pos_right (a := (per w h a b).2) (by rw [← hT]; exact Int.mul_pos p1 hU) p2
  have ct : ((T.toNat : Nat) : Int) = T := by omega
  refine ⟨Tp, ⟨by omega, fun t => ?_, fun s s1 s2 hs => ?_⟩⟩
  · have r1 : a * ((T.toNat : Nat) : Int) = 2 * (w * U) * k := by
      rw [ct]
      apply Int.eq_of_mul_eq_mul_left (a := (per w h a b).2) (by omega)
      have q : (per w h a b).2 * (a * T) = a * ((per w h a b).2 * T) := by grind
      rw [q, ← hT]
      have q2 : a * ((per w h a b).1 * U) = (a * (per w h a b).1) * U := by grind
      rw [q2, e1]; grind
    have r2 : b * ((T.toNat : Nat) : Int) = 2 * (h * U) * l := by
      rw [ct]
      apply Int.eq_of_mul_eq_mul_left (a := (per w h a b).2) (by omega)
      have q : (per w h a b).2 * (b * T) = b * ((per w h a b).2 * T) := by grind
      rw [q, ← hT]
      have q2 : b * ((per w h a b).1 * U) = (b * (per w h a b).1) * U := by grind
      rw [q2, e2]; grind
    unfold WalkD.sp
    rw [show (wkD w h x y a b U).px (t + T.toNat) = (wkD w h x y a b U).px t from px_round r1 t, show (wkD w h x y a b U).py (t + T.toNat) = (wkD w h x y a b U).py t from px_round r2 t]
  · have f1 : a ≠ 0 → ∃ k, a * (s : Int) = 2 * w * U * k := fun z => by
      obtain ⟨k, hk⟩ := px_round_inv (x := x * U) (m := w * U) (a := a) (s := s) (Int.mul_pos (by omega) hU) z (Int.dvd_mul_of_dvd_right (da z)) (Int.dvd_mul_of_dvd_right (da z)) fun t => congrArg Prod.fst (hs t)
      exact ⟨k, by rw [hk]; grind⟩
    have f2 : b ≠ 0 → ∃ k, b * (s : Int) = 2 * h * U * k := fun z => by
      obtain ⟨k, hk⟩ := px_round_inv (x := y * U) (m := h * U) (a := b) (s := s) (Int.mul_pos (by omega) hU) z (Int.dvd_mul_of_dvd_right (db z)) (Int.dvd_mul_of_dvd_right (db z)) fun t => congrArg Prod.snd (hs t)
      exact ⟨k, by rw [hk]; grind⟩
    obtain ⟨j, hj⟩ := per_min ok hU f1 f2
    have e : (per w h a b).2 * (s : Int) = (per w h a b).2 * (j * T) := by
      have q : (per w h a b).2 * (j * T) = j * ((per w h a b).2 * T) := by grind
      rw [q, ← hT, Int.mul_comm]
      rw [hj]; grind
    have e2 := Int.eq_of_mul_eq_mul_left (by omega) e
    have jp : 0 < j := Int.pos_of_mul_pos_left (b := T) (by rw [← e2]; omega) Tp
    have : 1 * T ≤ j * T := Int.mul_le_mul_of_nonneg_right (by omega) (by omega)
    omega
end Bp

/-! Pg3: wait_for_wall, is_less, walls_at, hit_after, hits_of, hits. -/
namespace Bp
set_option autoImplicit false
open PySem L2
/-- is_less(one, two); slots 0:one 1:two -/
noncomputable def b_is_less : Fs := sRet (eOp ltW (eOp mulW (eOp ixW (eVar 0) (eC (.int 0))) (eOp ixW (eVar 1) (eC (.int 1)))) (eOp mulW (eOp ixW (eVar 1) (eC (.int 0))) (eOp ixW (eVar 0) (eC (.int 1)))))
def less (p q : Int × Int) : Prop := p.1 * q.2 < q.1 * p.2
instance (p q : Int × Int) : Decidable (less p q) := inferInstanceAs (Decidable (_ < _))
def G_is_less : Fn
  | [.tup [.int a, .int b], .tup [.int c, .int d]], S => if b.natAbs < 2 ^ 64 ∧ d.natAbs < 2 ^ 64 then some (.bl (decide (less (a, b) (c, d))), S) else none
  | _, _ => none
theorem t_is_less : Tells 2 b_is_less G_is_less := by
  intro ws S r h
  refine ⟨r, ?_, .same _⟩
  unfold b_is_less
  unfold G_is_less at h
  split at h
  · split at h
    · rename_i a b c d hb
      cases h
      have k1 : okMul a d := .inr (.inl hb.2)
      have k2 : okMul c b := .inr (.inl hb.1)
      simp only [fnB, en, List.map_cons, List.map_nil, List.length_cons, List.length_nil, List.replicate_succ, List.replicate_zero, List.cons_append, List.nil_append, List.append_nil, List.getElem?_cons_zero, List.getElem?_cons_succ, List.set_cons_zero, List.set_cons_succ,  Nat.zero_add, Nat.reduceAdd, Nat.reduceSub, Nat.sub_self, Nat.reduceEqDiff,  eVar, eC, eOp, eUn, aNil, aCons, eTup, eLst, eCall, eIf, eAnd, eOr, eNot, tVal, tAndW, tOrW, tNotW, eChain, sNext, sBrk, sCnt, sNever, sSeq, sRet, sRetN, sDrop, sIf, sAsg, sPar, sPar3, gN, gsNil, gsCons, gTupW, Option.bind_some, Option.bind_none,  s0, s1, s2, s3, s4, s6, subW, ltW, leW, gtW, geW, iop0, iop, modW, fdivW, powW, addW, mulW, negW, isi_int_int, isi_int_bool, isi_bl_int, isi_bl_bool, isi_non_int, isi_str_int, isi_tup_int, isi_tup_tup, eq_int, ne_int, len_p, len_6, len_l1, decide_true, decide_false, Int.reduceEq, Int.reduceNeg, absW, minW, ix_p0, ix_p1, ix_r0, ix_r1, ix_r2, ix_r3, ix_r4, ix_r5, if_true, if_false, ite_true, ite_false, Bool.not_true, Bool.not_false, Bool.false_eq_true, reduceIte, ↓reduceIte, less, ne_eq, not_false_eq_true, and_self, and_false, false_and, true_and, and_true, *]
      first | done | rfl | (congr)
    · cases h
  · cases h
theorem l_is_less : ∀ ws S r, G_is_less ws S = some r → ws.length = 2 := by
  intro ws S r h
  unfold G_is_less at h
  split at h <;> first | rfl | cases h
/-! ### the wait for a wall -/
/-- wait_for_wall(start, speed, side, time); slots 0:start 1:speed 2:side 3:time 4:ahead 5:here 6:unit -/
noncomputable def b_wait_for_wall : Fs := sSeq (sIf (tVal (eOp eqW (eVar 1) (eC (.int 0)))) (sRet (eC .non)) (sNext)) (sSeq (sPar 5 6 (aCons (eOp addW (eOp mulW (eVar 0) (eOp ixW (eVar 3) (eC (.int 1)))) (eOp mulW (eVar 1) (eOp ixW (eVar 3) (eC (.int 0))))) (aCons (eOp mulW (eVar 2) (eOp ixW (eVar 3) (eC (.int 1)))) (aNil)))) (sSeq (sAsg (eIf (tVal (eOp gtW (eVar 1) (eC (.int 0)))) (eOp addW (eOp fdivW (eVar 5) (eVar 6)) (eC (.int 1))) (eOp subW (eUn negW (eOp fdivW (eUn negW (eVar 5)) (eVar 6))) (eC (.int 1)))) (gN 4)) (sRet (eCall G_lowest (aCons (eOp subW (eOp mulW (eVar 4) (eVar 2)) (eVar 0)) (aCons (eVar 1) (aNil)))))))
def wall (x a m : Int) (t : Int × Int) : Int := if 0 < a then (x * t.2 + a * t.1) / (m * t.2) + 1 else -(-(x * t.2 + a * t.1) / (m * t.2)) - 1
def wfw (x a m : Int) (t : Int × Int) : Int × Int := low (wall x a m t * m - x) a
def okWait (x a m q : Int) : Prop := x.natAbs < 2 ^ 32 ∧ a.natAbs < 2 ^ 32 ∧ (0 < m ∧ m < 2 ^ 32) ∧ 0 < q ∧ q < 2 ^ 64
instance (x a m q : Int) : Decidable (okWait x a m q) := inferInstanceAs (Decidable (_ ∧ _))
def optW : Option (Int × Int) → W
  | none => .non
  | some p => fr p
def wfo (x a m : Int) (t : Int × Int) : Option (Int × Int) := if a = 0 then none else some (wfw x a m t)
def G_wait_for_wall : Fn
  | [.int x, .int a, .int m, .tup [.int p, .int q]], S => if okWait x a m q then some (optW (wfo x a m (p, q)), S) else none
  | _, _ => none
theorem t_wait_for_wall : Tells 7 b_wait_for_wall G_wait_for_wall := by
  intro ws S r h
  refine ⟨r, ?_, .same _⟩
  unfold b_wait_for_wall
  unfold G_wait_for_wall at h
  split at h
  · split at h
    · rename_i x a m p q hb
      cases h
      obtain ⟨h1, h2, h3, h4, h5⟩ := hb
      by_cases ha : a = 0
      · subst ha
        simp only [wfo, if_true, optW]
        simp only [fnB, en, List.map_cons, List.map_nil, List.length_cons, List.length_nil, List.replicate_succ, List.replicate_zero, List.cons_append, List.nil_append, List.append_nil, List.getElem?_cons_zero, List.getElem?_cons_succ, List.set_cons_zero, List.set_cons_succ,  Nat.zero_add, Nat.reduceAdd, Nat.reduceSub, Nat.sub_self, Nat.reduceEqDiff,  eVar, eC, eOp, eUn, aNil, aCons, eTup, eLst, eCall, eIf, eAnd, eOr, eNot, tVal, tAndW, tOrW, tNotW, eChain, sNext, sBrk, sCnt, sNever, sSeq, sRet, sRetN, sDrop, sIf, sAsg, sPar, sPar3, gN, gsNil, gsCons, gTupW, Option.bind_some, Option.bind_none,  s0, s1, s2, s3, s4, s6, subW, ltW, leW, gtW, geW, iop0, iop, modW, fdivW, powW, addW, mulW, negW, isi_int_int, isi_int_bool, isi_bl_int, isi_bl_bool, isi_non_int, isi_str_int, isi_tup_int, isi_tup_tup, eq_int, ne_int, len_p, len_6, len_l1, decide_true, decide_false, Int.reduceEq, Int.reduceNeg, absW, minW, ix_p0, ix_p1, ix_r0, ix_r1, ix_r2, ix_r3, ix_r4, ix_r5, if_true, if_false, ite_true, ite_false, Bool.not_true, Bool.not_false, Bool.false_eq_true, reduceIte, ↓reduceIte, G_lowest, ne_eq, not_false_eq_true, and_self, and_false, false_and, true_and, and_true, *]
      · have k1 : okMul x q := .inl (by omega)
        have k2 : okMul a p := .inl (by omega)
        have k3 : okMul m q := .inl (by omega)
        have mq : 0 < m * q := Int.mul_pos h3.1 h4
        have mq2 : m * q ≤ 2 ^ 96 := by
          have := Int.mul_le_mul (a := m) (b := q) (c := 2 ^ 32) (d := 2 ^ 64) (by omega) (by omega) (by omega) (by decide)
          omega
        have k4 : okDiv (m * q) := okDiv_of (by omega) (Nat.lt_trans (show (m * q).natAbs < 2 ^ 97 by omega) (by unfold big; exact Nat.pow_lt_pow_right (by decide) (by decide)))
        have f1 : (x * q + a * p).fdiv (m * q) = (x * q + a * p) / (m * q) := Int.fdiv_eq_ediv_of_nonneg _ (by omega)
        have f2 : (-(x * q + a * p)).fdiv (m * q) = -(x * q + a * p) / (m * q) := Int.fdiv_eq_ediv_of_nonneg _ (by omega)
        have k5 : ∀ z, okMul z m := fun z => .inr (.inl (by omega))
        have a2 : a.natAbs < big := big_lt (by omega)
        by_cases hp : 0 < a
        · have e : wfo x a m (p, q) = some (low (((x * q + a * p) / (m * q) + 1) * m - x) a) := by
            simp only [wfo, ha, if_false, wfw, wall, hp, if_true]
          rw [e]
          simp only [optW]
          clear e
          simp only [fnB, en, List.map_cons, List.map_nil, List.length_cons, List.length_nil, List.replicate_succ, List.replicate_zero, List.cons_append, List.nil_append, List.append_nil, List.getElem?_cons_zero, List.getElem?_cons_succ, List.set_cons_zero, List.set_cons_succ,  Nat.zero_add, Nat.reduceAdd, Nat.reduceSub, Nat.sub_self, Nat.reduceEqDiff,  eVar, eC, eOp, eUn, aNil, aCons, eTup, eLst, eCall, eIf, eAnd, eOr, eNot, tVal, tAndW, tOrW, tNotW, eChain, sNext, sBrk, sCnt, sNever, sSeq, sRet, sRetN, sDrop, sIf, sAsg, sPar, sPar3, gN, gsNil, gsCons, gTupW, Option.bind_some, Option.bind_none,  s0, s1, s2, s3, s4, s6, subW, ltW, leW, gtW, geW, iop0, iop, modW, fdivW, powW, addW, mulW, negW, isi_int_int, isi_int_bool, isi_bl_int, isi_bl_bool, isi_non_int, isi_str_int, isi_tup_int, isi_tup_tup, eq_int, ne_int, len_p, len_6, len_l1, decide_true, decide_false, Int.reduceEq, Int.reduceNeg, absW, minW, ix_p0, ix_p1, ix_r0, ix_r1, ix_r2, ix_r3, ix_r4, ix_r5, if_true, if_false, ite_true, ite_false, Bool.not_true, Bool.not_false, Bool.false_eq_true, reduceIte, ↓reduceIte, G_lowest, ne_eq, not_false_eq_true, and_self, and_false, false_and, true_and, and_true, *]
        · have e : wfo x a m (p, q) = some (low ((-(-(x * q + a * p) / (m * q)) - 1) * m - x) a) := by
            simp only [wfo, ha, if_false, wfw, wall, hp]
          rw [e]
          simp only [optW]
          clear e
          simp only [fnB, en, List.map_cons, List.map_nil, List.length_cons, List.length_nil, List.replicate_succ, List.replicate_zero, List.cons_append, List.nil_append, List.append_nil, List.getElem?_cons_zero, List.getElem?_cons_succ, List.set_cons_zero, List.set_cons_succ,  Nat.zero_add, Nat.reduceAdd, Nat.reduceSub, Nat.sub_self, Nat.reduceEqDiff,  eVar, eC, eOp, eUn, aNil, aCons, eTup, eLst, eCall, eIf, eAnd, eOr, eNot, tVal, tAndW, tOrW, tNotW, eChain, sNext, sBrk, sCnt, sNever, sSeq, sRet, sRetN, sDrop, sIf, sAsg, sPar, sPar3, gN, gsNil, gsCons, gTupW, Option.bind_some, Option.bind_none,  s0, s1, s2, s3, s4, s6, subW, ltW, leW, gtW, geW, iop0, iop, modW, fdivW, powW, addW, mulW, negW, isi_int_int, isi_int_bool, isi_bl_int, isi_bl_bool, isi_non_int, isi_str_int, isi_tup_int, isi_tup_tup, eq_int, ne_int, len_p, len_6, len_l1, decide_true, decide_false, Int.reduceEq, Int.reduceNeg, absW, minW, ix_p0, ix_p1, ix_r0, ix_r1, ix_r2, ix_r3, ix_r4, ix_r5, if_true, if_false, ite_true, ite_false, Bool.not_true, Bool.not_false, Bool.false_eq_true, reduceIte, ↓reduceIte, G_lowest, ne_eq, not_false_eq_true, and_self, and_false, false_and, true_and, and_true, *]
    · cases h
  · cases h
theorem l_wait_for_wall : ∀ ws S r, G_wait_for_wall ws S = some r → ws.length = 4 := by
  intro ws S r h
  unfold G_wait_for_wall at h
  split at h <;> first | rfl | cases h
/-! ### the walls at a time -/
/-- walls_at(run, time); slots 0:run 1:time 2:spot 3:walls -/
noncomputable def b_walls_at : Fs := sSeq (sPar 2 3 (aCons (eCall G_place_at (aCons (eVar 0) (aCons (eVar 1) (aNil)))) (aCons (eC (.str "")) (aNil)))) (sSeq (sIf (tVal (eOp neW (eOp ixW (eVar 0) (eC (.int 4))) (eC (.int 0)))) (sAug 3 (eIf (tVal (eOp eqW (eOp ixW (eVar 2) (eC (.int 0))) (eTup (aCons (eC (.int 0)) (aCons (eC (.int 1)) (aNil)))))) (eC (.str "L")) (eIf (tVal (eOp eqW (eOp ixW (eVar 2) (eC (.int 0))) (eTup (aCons (eOp ixW (eVar 0) (eC (.int 0))) (aCons (eC (.int 1)) (aNil)))))) (eC (.str "R")) (eC (.str "")))) augW) (sNext)) (sSeq (sIf (tVal (eOp neW (eOp ixW (eVar 0) (eC (.int 5))) (eC (.int 0)))) (sAug 3 (eIf (tVal (eOp eqW (eOp ixW (eVar 2) (eC (.int 1))) (eTup (aCons (eC (.int 0)) (aCons (eC (.int 1)) (aNil)))))) (eC (.str "B")) (eIf (tVal (eOp eqW (eOp ixW (eVar 2) (eC (.int 1))) (eTup (aCons (eOp ixW (eVar 0) (eC (.int 1))) (aCons (eC (.int 1)) (aNil)))))) (eC (.str "T")) (eC (.str "")))) augW) (sNext)) (sRet (eVar 3))))
def wl (lo hi : Str) (a m : Int) (p : Int × Int) : Str := if a = 0 then "" else if p = (0, 1) then lo else if p = (m, 1) then hi else ""
def wallsAt (w h x y a b : Int) (t : Int × Int) : Str := wl "L" "R" a w (plc w x a t) ++ wl "B" "T" b h (plc h y b t)
def G_walls_at : Fn
  | [.tup [.int w, .int h, .int x, .int y, .int a, .int b], .tup [.int p, .int q]], S => if okBox w h x y a b ∧ 0 < q ∧ q.natAbs < big then some (.str (wallsAt w h x y a b (p, q)), S) else none
  | _, _ => none
theorem wl_len (lo hi : Str) (a m : Int) (p : Int × Int) (h1 : lo.length ≤ 2) (h2 : hi.length ≤ 2) : (wl lo hi a m p).length ≤ 2 := by
  unfold wl
  repeat' split
  all_goals first | assumption | decide
theorem sl_2 (y z : Str) (h0 : y.length ≤ 2) (h : z.length ≤ 2) : (y.length + z.length ≤ sizeLine) = True := by
  simp only [eq_iff_iff, iff_true]
  exact Nat.le_trans (show y.length + z.length ≤ 4 by omega) (show 4 ≤ sizeLine by decide)
def wlS (k j : Nat) (i : Int) (z : Int) (lo hi : Str) : Fs := sIf (tVal (eOp neW (eOp ixW (eVar 0) (eC (.int i))) (eC (.int 0)))) (sAug 3 (eIf (tVal (eOp eqW (eOp ixW (eVar 2) (eC (.int z))) (eTup (aCons (eC (.int 0)) (aCons (eC (.int 1)) (aNil)))))) (eC (.str lo)) (eIf (tVal (eOp eqW (eOp ixW (eVar 2) (eC (.int z))) (eTup (aCons (eOp ixW (eVar 0) (eC (.int z))) (aCons (eC (.int 1)) (aNil)))))) (eC (.str hi)) (eC (.str "")))) augW) (sNext)
theorem eq_fr2 (p : Int × Int) (a b : Int) (S : Sto) : eqW (fr p) (.tup [.int a, .int b]) S = some (.bl (decide (p = (a, b))), S) := eq_fr p (a, b) S
theorem wls_ok (w h x y a b : Int) (t : W) (X Y : Int × Int) (s : Str) (S : Sto) (hs : s.length ≤ 2) : wlS 4 0 4 0 "L" "R" [some (runW w h x y a b), some t, some (.tup [fr X, fr Y]), some (.str s)] S = some (.next [some (runW w h x y a b), some t, some (.tup [fr X, fr Y]), some (.str (s ++ wl "L" "R" a w X))], S) := by
  have l1 := sl_2 s "L" hs (by decide)
  have l2 := sl_2 s "R" hs (by decide)
  have l3 := sl_2 s "" hs (by decide)
  unfold wlS wl
  by_cases ha : a = 0
  · subst ha
    simp only [fnB, en, List.map_cons, List.map_nil, List.length_cons, List.length_nil, List.replicate_succ, List.replicate_zero, List.cons_append, List.nil_append, List.append_nil, List.getElem?_cons_zero, List.getElem?_cons_succ, List.set_cons_zero, List.set_cons_succ,  Nat.zero_add, Nat.reduceAdd, Nat.reduceSub, Nat.sub_self, Nat.reduceEqDiff,  eVar, eC, eOp, eUn, aNil, aCons, eTup, eLst, eCall, eIf, eAnd, eOr, eNot, tVal, tAndW, tOrW, tNotW, eChain, sNext, sBrk, sCnt, sNever, sSeq, sRet, sRetN, sDrop, sIf, sAsg, sPar, sPar3, gN, gsNil, gsCons, gTupW, Option.bind_some, Option.bind_none,  s0, s1, s2, s3, s4, s6, subW, ltW, leW, gtW, geW, iop0, iop, modW, fdivW, powW, addW, mulW, negW, isi_int_int, isi_int_bool, isi_bl_int, isi_bl_bool, isi_non_int, isi_str_int, isi_tup_int, isi_tup_tup, eq_int, ne_int, len_p, len_6, len_l1, decide_true, decide_false, Int.reduceEq, Int.reduceNeg, absW, minW, ix_p0, ix_p1, ix_r0, ix_r1, ix_r2, ix_r3, ix_r4, ix_r5, if_true, if_false, ite_true, ite_false, Bool.not_true, Bool.not_false, Bool.false_eq_true, reduceIte, ↓reduceIte, sAug, augW, eq_fr2, str_e, ne_eq, not_false_eq_true, and_self, and_false, false_and, true_and, and_true, *]
    simp only [str_app_e]
  · by_cases h1 : X = (0, 1)
    · simp only [fnB, en, List.map_cons, List.map_nil, List.length_cons, List.length_nil, List.replicate_succ, List.replicate_zero, List.cons_append, List.nil_append, List.append_nil, List.getElem?_cons_zero, List.getElem?_cons_succ, List.set_cons_zero, List.set_cons_succ,  Nat.zero_add, Nat.reduceAdd, Nat.reduceSub, Nat.sub_self, Nat.reduceEqDiff,  eVar, eC, eOp, eUn, aNil, aCons, eTup, eLst, eCall, eIf, eAnd, eOr, eNot, tVal, tAndW, tOrW, tNotW, eChain, sNext, sBrk, sCnt, sNever, sSeq, sRet, sRetN, sDrop, sIf, sAsg, sPar, sPar3, gN, gsNil, gsCons, gTupW, Option.bind_some, Option.bind_none,  s0, s1, s2, s3, s4, s6, subW, ltW, leW, gtW, geW, iop0, iop, modW, fdivW, powW, addW, mulW, negW, isi_int_int, isi_int_bool, isi_bl_int, isi_bl_bool, isi_non_int, isi_str_int, isi_tup_int, isi_tup_tup, eq_int, ne_int, len_p, len_6, len_l1, decide_true, decide_false, Int.reduceEq, Int.reduceNeg, absW, minW, ix_p0, ix_p1, ix_r0, ix_r1, ix_r2, ix_r3, ix_r4, ix_r5, if_true, if_false, ite_true, ite_false, Bool.not_true, Bool.not_false, Bool.false_eq_true, reduceIte, ↓reduceIte, sAug, augW, eq_fr2, str_e, ne_eq, not_false_eq_true, and_self, and_false, false_and, true_and, and_true, *]
    · by_cases h2 : X = (w, 1)
      · simp only [ha, h1, h2, if_false, if_true]
        have h3 : ¬ (w, (1 : Int)) = (0, 1) := fun z => h1 (h2.trans z)
        simp only [h3, if_false]
        clear h1
        subst h2
        simp only [fnB, en, List.map_cons, List.map_nil, List.length_cons, List.length_nil, List.replicate_succ, List.replicate_zero, List.cons_append, List.nil_append, List.append_nil, List.getElem?_cons_zero, List.getElem?_cons_succ, List.set_cons_zero, List.set_cons_succ,  Nat.zero_add, Nat.reduceAdd, Nat.reduceSub, Nat.sub_self, Nat.reduceEqDiff,  eVar, eC, eOp, eUn, aNil, aCons, eTup, eLst, eCall, eIf, eAnd, eOr, eNot, tVal, tAndW, tOrW, tNotW, eChain, sNext, sBrk, sCnt, sNever, sSeq, sRet, sRetN, sDrop, sIf, sAsg, sPar, sPar3, gN, gsNil, gsCons, gTupW, Option.bind_some, Option.bind_none,  s0, s1, s2, s3, s4, s6, subW, ltW, leW, gtW, geW, iop0, iop, modW, fdivW, powW, addW, mulW, negW, isi_int_int, isi_int_bool, isi_bl_int, isi_bl_bool, isi_non_int, isi_str_int, isi_tup_int, isi_tup_tup, eq_int, ne_int, len_p, len_6, len_l1, decide_true, decide_false, Int.reduceEq, Int.reduceNeg, absW, minW, ix_p0, ix_p1, ix_r0, ix_r1, ix_r2, ix_r3, ix_r4, ix_r5, if_true, if_false, ite_true, ite_false, Bool.not_true, Bool.not_false, Bool.false_eq_true, reduceIte, ↓reduceIte, sAug, augW, eq_fr2, str_e, ne_eq, not_false_eq_true, and_self, and_false, false_and, true_and, and_true, *]
      · simp only [fnB, en, List.map_cons, List.map_nil, List.length_cons, List.length_nil, List.replicate_succ, List.replicate_zero, List.cons_append, List.nil_append, List.append_nil, List.getElem?_cons_zero, List.getElem?_cons_succ, List.set_cons_zero, List.set_cons_succ,  Nat.zero_add, Nat.reduceAdd, Nat.reduceSub, Nat.sub_self, Nat.reduceEqDiff,  eVar, eC, eOp, eUn, aNil, aCons, eTup, eLst, eCall, eIf, eAnd, eOr, eNot, tVal, tAndW, tOrW, tNotW, eChain, sNext, sBrk, sCnt, sNever, sSeq, sRet, sRetN, sDrop, sIf, sAsg, sPar, sPar3, gN, gsNil, gsCons, gTupW, Option.bind_some, Option.bind_none,  s0, s1, s2, s3, s4, s6, subW, ltW, leW, gtW, geW, iop0, iop, modW, fdivW, powW, addW, mulW, negW, isi_int_int, isi_int_bool, isi_bl_int, isi_bl_bool, isi_non_int, isi_str_int, isi_tup_int, isi_tup_tup, eq_int, ne_int, len_p, len_6, len_l1, decide_true, decide_false, Int.reduceEq, Int.reduceNeg, absW, minW, ix_p0, ix_p1, ix_r0, ix_r1, ix_r2, ix_r3, ix_r4, ix_r5, if_true, if_false, ite_true, ite_false, Bool.not_true, Bool.not_false, Bool.false_eq_true, reduceIte, ↓reduceIte, sAug, augW, eq_fr2, str_e, ne_eq, not_false_eq_true, and_self, and_false, false_and, true_and, and_true, *]
theorem wls_ok2 (w h x y a b : Int) (t : W) (X Y : Int × Int) (s : Str) (S : Sto) (hs : s.length ≤ 2) : wlS 5 1 5 1 "B" "T" [some (runW w h x y a b), some t, some (.tup [fr X, fr Y]), some (.str s)] S = some (.next [some (runW w h x y a b), some t, some (.tup [fr X, fr Y]), some (.str (s ++ wl "B" "T" b h Y))], S) := by
  have l1 := sl_2 s "B" hs (by decide)
  have l2 := sl_2 s "T" hs (by decide)
  have l3 := sl_2 s "" hs (by decide)
  unfold wlS wl
  by_cases ha : b = 0
  · subst ha
    simp only [fnB, en, List.map_cons, List.map_nil, List.length_cons, List.length_nil, List.replicate_succ, List.replicate_zero, List.cons_append, List.nil_append, List.append_nil, List.getElem?_cons_zero, List.getElem?_cons_succ, List.set_cons_zero, List.set_cons_succ,  Nat.zero_add, Nat.reduceAdd, Nat.reduceSub, Nat.sub_self, Nat.reduceEqDiff,  eVar, eC, eOp, eUn, aNil, aCons, eTup, eLst, eCall, eIf, eAnd, eOr, eNot, tVal, tAndW, tOrW, tNotW, eChain, sNext, sBrk, sCnt, sNever, sSeq, sRet, sRetN, sDrop, sIf, sAsg, sPar, sPar3, gN, gsNil, gsCons, gTupW, Option.bind_some, Option.bind_none,  s0, s1, s2, s3, s4, s6, subW, ltW, leW, gtW, geW, iop0, iop, modW, fdivW, powW, addW, mulW, negW, isi_int_int, isi_int_bool, isi_bl_int, isi_bl_bool, isi_non_int, isi_str_int, isi_tup_int, isi_tup_tup, eq_int, ne_int, len_p, len_6, len_l1, decide_true, decide_false, Int.reduceEq, Int.reduceNeg, absW, minW, ix_p0, ix_p1, ix_r0, ix_r1, ix_r2, ix_r3, ix_r4, ix_r5, if_true, if_false, ite_true, ite_false, Bool.not_true, Bool.not_false, Bool.false_eq_true, reduceIte, ↓reduceIte, sAug, augW, eq_fr2, str_e, ne_eq, not_false_eq_true, and_self, and_false, false_and, true_and, and_true, *]
    simp only [str_app_e]
  · by_cases h1 : Y = (0, 1)
    · simp only [fnB, en, List.map_cons, List.map_nil, List.length_cons, List.length_nil, List.replicate_succ, List.replicate_zero, List.cons_append, List.nil_append, List.append_nil, List.getElem?_cons_zero, List.getElem?_cons_succ, List.set_cons_zero, List.set_cons_succ,  Nat.zero_add, Nat.reduceAdd, Nat.reduceSub, Nat.sub_self, Nat.reduceEqDiff,  eVar, eC, eOp, eUn, aNil, aCons, eTup, eLst, eCall, eIf, eAnd, eOr, eNot, tVal, tAndW, tOrW, tNotW, eChain, sNext, sBrk, sCnt, sNever, sSeq, sRet, sRetN, sDrop, sIf, sAsg, sPar, sPar3, gN, gsNil, gsCons, gTupW, Option.bind_some, Option.bind_none,  s0, s1, s2, s3, s4, s6, subW, ltW, leW, gtW, geW, iop0, iop, modW, fdivW, powW, addW, mulW, negW, isi_int_int, isi_int_bool, isi_bl_int, isi_bl_bool, isi_non_int, isi_str_int, isi_tup_int, isi_tup_tup, eq_int, ne_int, len_p, len_6, len_l1, decide_true, decide_false, Int.reduceEq, Int.reduceNeg, absW, minW, ix_p0, ix_p1, ix_r0, ix_r1, ix_r2, ix_r3, ix_r4, ix_r5, if_true, if_false, ite_true, ite_false, Bool.not_true, Bool.not_false, Bool.false_eq_true, reduceIte, ↓reduceIte, sAug, augW, eq_fr2, str_e, ne_eq, not_false_eq_true, and_self, and_false, false_and, true_and, and_true, *]
    · by_cases h2 : Y = (h, 1)
      · simp only [ha, h1, h2, if_false, if_true]
        have h3 : ¬ (h, (1 : Int)) = (0, 1) := fun z => h1 (h2.trans z)
        simp only [h3, if_false]
        clear h1
        subst h2
        simp only [fnB, en, List.map_cons, List.map_nil, List.length_cons, List.length_nil, List.replicate_succ, List.replicate_zero, List.cons_append, List.nil_append, List.append_nil, List.getElem?_cons_zero, List.getElem?_cons_succ, List.set_cons_zero, List.set_cons_succ,  Nat.zero_add, Nat.reduceAdd, Nat.reduceSub, Nat.sub_self, Nat.reduceEqDiff,  eVar, eC, eOp, eUn, aNil, aCons, eTup, eLst, eCall, eIf, eAnd, eOr, eNot, tVal, tAndW, tOrW, tNotW, eChain, sNext, sBrk, sCnt, sNever, sSeq, sRet, sRetN, sDrop, sIf, sAsg, sPar, sPar3, gN, gsNil, gsCons, gTupW, Option.bind_some, Option.bind_none,  s0, s1, s2, s3, s4, s6, subW, ltW, leW, gtW, geW, iop0, iop, modW, fdivW, powW, addW, mulW, negW, isi_int_int, isi_int_bool, isi_bl_int, isi_bl_bool, isi_non_int, isi_str_int, isi_tup_int, isi_tup_tup, eq_int, ne_int, len_p, len_6, len_l1, decide_true, decide_false, Int.reduceEq, Int.reduceNeg, absW, minW, ix_p0, ix_p1, ix_r0, ix_r1, ix_r2, ix_r3, ix_r4, ix_r5, if_true, if_false, ite_true, ite_false, Bool.not_true, Bool.not_false, Bool.false_eq_true, reduceIte, ↓reduceIte, sAug, augW, eq_fr2, str_e, ne_eq, not_false_eq_true, and_self, and_false, false_and, true_and, and_true, *]
      · simp only [fnB, en, List.map_cons, List.map_nil, List.length_cons, List.length_nil, List.replicate_succ, List.replicate_zero, List.cons_append, List.nil_append, List.append_nil, List.getElem?_cons_zero, List.getElem?_cons_succ, List.set_cons_zero, List.set_cons_succ,  Nat.zero_add, Nat.reduceAdd, Nat.reduceSub, Nat.sub_self, Nat.reduceEqDiff,  eVar, eC, eOp, eUn, aNil, aCons, eTup, eLst, eCall, eIf, eAnd, eOr, eNot, tVal, tAndW, tOrW, tNotW, eChain, sNext, sBrk, sCnt, sNever, sSeq, sRet, sRetN, sDrop, sIf, sAsg, sPar, sPar3, gN, gsNil, gsCons, gTupW, Option.bind_some, Option.bind_none,  s0, s1, s2, s3, s4, s6, subW, ltW, leW, gtW, geW, iop0, iop, modW, fdivW, powW, addW, mulW, negW, isi_int_int, isi_int_bool, isi_bl_int, isi_bl_bool, isi_non_int, isi_str_int, isi_tup_int, isi_tup_tup, eq_int, ne_int, len_p, len_6, len_l1, decide_true, decide_false, Int.reduceEq, Int.reduceNeg, absW, minW, ix_p0, ix_p1, ix_r0, ix_r1, ix_r2, ix_r3, ix_r4, ix_r5, if_true, if_false, ite_true, ite_false, Bool.not_true, Bool.not_false, Bool.false_eq_true, reduceIte, ↓reduceIte, sAug, augW, eq_fr2, str_e, ne_eq, not_false_eq_true, and_self, and_false, false_and, true_and, and_true, *]
theorem t_walls_at : Tells 4 b_walls_at G_walls_at := by
  intro ws S r hh
  refine ⟨r, ?_, .same _⟩
  unfold G_walls_at at hh
  split at hh
  · split at hh
    · rename_i w h x y a b p q hb
      cases hh
      obtain ⟨h1, h2, h3⟩ := hb
      have s0' : (sPar 2 3 (aCons (eCall G_place_at (aCons (eVar 0) (aCons (eVar 1) (aNil)))) (aCons (eC (.str "")) (aNil)))) (en 4 [runW w h x y a b, .tup [.int p, .int q]]) S = some (.next [some (runW w h x y a b), some (.tup [.int p, .int q]), some (.tup [fr (plc w x a (p, q)), fr (plc h y b (p, q))]), some (.str "")], S) := by
        simp only [fnB, en, List.map_cons, List.map_nil, List.length_cons, List.length_nil, List.replicate_succ, List.replicate_zero, List.cons_append, List.nil_append, List.append_nil, List.getElem?_cons_zero, List.getElem?_cons_succ, List.set_cons_zero, List.set_cons_succ,  Nat.zero_add, Nat.reduceAdd, Nat.reduceSub, Nat.sub_self, Nat.reduceEqDiff,  eVar, eC, eOp, eUn, aNil, aCons, eTup, eLst, eCall, eIf, eAnd, eOr, eNot, tVal, tAndW, tOrW, tNotW, eChain, sNext, sBrk, sCnt, sNever, sSeq, sRet, sRetN, sDrop, sIf, sAsg, sPar, sPar3, gN, gsNil, gsCons, gTupW, Option.bind_some, Option.bind_none,  s0, s1, s2, s3, s4, s6, subW, ltW, leW, gtW, geW, iop0, iop, modW, fdivW, powW, addW, mulW, negW, isi_int_int, isi_int_bool, isi_bl_int, isi_bl_bool, isi_non_int, isi_str_int, isi_tup_int, isi_tup_tup, eq_int, ne_int, len_p, len_6, len_l1, decide_true, decide_false, Int.reduceEq, Int.reduceNeg, absW, minW, ix_p0, ix_p1, ix_r0, ix_r1, ix_r2, ix_r3, ix_r4, ix_r5, if_true, if_false, ite_true, ite_false, Bool.not_true, Bool.not_false, Bool.false_eq_true, reduceIte, ↓reduceIte, G_place_at, sAug, ne_eq, not_false_eq_true, and_self, and_false, false_and, true_and, and_true, *]
      have s1' := wls_ok w h x y a b (.tup [.int p, .int q]) (plc w x a (p, q)) (plc h y b (p, q)) "" S (by decide)
      have s2' := wls_ok2 w h x y a b (.tup [.int p, .int q]) (plc w x a (p, q)) (plc h y b (p, q)) ("" ++ wl "L" "R" a w (plc w x a (p, q))) S (by rw [str_e]; exact wl_len _ _ _ _ _ (by decide) (by decide))
      have e : b_walls_at = sSeq (sPar 2 3 (aCons (eCall G_place_at (aCons (eVar 0) (aCons (eVar 1) (aNil)))) (aCons (eC (.str "")) (aNil)))) (sSeq (wlS 4 0 4 0 "L" "R") (sSeq (wlS 5 1 5 1 "B" "T") (sRet (eVar 3)))) := rfl
      rw [e]
      unfold fnB
      rw [seq_next s0', seq_next s1', seq_next s2']
      simp only [sRet, eVar, List.getElem?_cons_zero, List.getElem?_cons_succ, Option.bind_some, str_e, wallsAt]
    · cases hh
  · cases hh
theorem l_walls_at : ∀ ws S r, G_walls_at ws S = some r → ws.length = 2 := by
  intro ws S r h
  unfold G_walls_at at h
  split at h <;> first | rfl | cases h
/-! ### the next hit -/
/-- hit_after(run, time); slots 0:run 1:time 2:times 3:first 4:one -/
noncomputable def b_hit_after : Fs := sSeq (sAsg (eLst (aCons (eCall G_wait_for_wall (aCons (eOp ixW (eVar 0) (eC (.int 2))) (aCons (eOp ixW (eVar 0) (eC (.int 4))) (aCons (eOp ixW (eVar 0) (eC (.int 0))) (aCons (eVar 1) (aNil)))))) (aCons (eCall G_wait_for_wall (aCons (eOp ixW (eVar 0) (eC (.int 3))) (aCons (eOp ixW (eVar 0) (eC (.int 5))) (aCons (eOp ixW (eVar 0) (eC (.int 1))) (aCons (eVar 1) (aNil)))))) (aNil)))) (gN 2)) (sSeq (sAsg (eLc (iSeq (eVar 2)) (gN 4) (tVal (eOp notNW (eVar 4) (eC .non))) (eVar 4) [4]) (gN 2)) (sSeq (sAsg (eIf (tOrW (tVal (eOp eqW (eCall lenW (aCons (eVar 2) (aNil))) (eC (.int 1)))) (tNotW (tVal (eCall G_is_less (aCons (eOp ixW (eVar 2) (eC (.int 1))) (aCons (eOp ixW (eVar 2) (eC (.int 0))) (aNil))))))) (eOp ixW (eVar 2) (eC (.int 0))) (eOp ixW (eVar 2) (eC (.int 1)))) (gN 3)) (sRet (eTup (aCons (eVar 3) (aCons (eCall G_walls_at (aCons (eVar 0) (aCons (eVar 3) (aNil)))) (aNil)))))))
def first (w h x y a b : Int) (t : Int × Int) : Int × Int :=
  if a = 0 then wfw y b h t else if b = 0 then wfw x a w t else if less (wfw y b h t) (wfw x a w t) then wfw y b h t else wfw x a w t
def hitAft (w h x y a b : Int) (t : Int × Int) : (Int × Int) × Str := (first w h x y a b t, wallsAt w h x y a b (first w h x y a b t))
@[reducible] def hitW (p : (Int × Int) × Str) : W := .tup [fr p.1, .str p.2]
def G_hit_after : Fn
  | [.tup [.int w, .int h, .int x, .int y, .int a, .int b], .tup [.int p, .int q]], S => if okRun w h x y a b ∧ 0 < q ∧ q < 2 ^ 64 then some (hitW (hitAft w h x y a b (p, q)), S) else none
  | _, _ => none
theorem low_den {n d : Int} (hd : d ≠ 0) (hb : d.natAbs ≤ 6) : 0 < (low n d).2 ∧ (low n d).2 ≤ 6 := by
  have gp := gcd_pos (n := n) hd
  obtain ⟨l, hl⟩ : ((Int.gcd n d : Nat) : Int) ∣ d := Int.gcd_dvd_right ..
  have l0 : l ≠ 0 := fun z => by rw [z] at hl; simp at hl; exact hd hl
  have q : ∀ c : Int, d = ((Int.gcd n d : Nat) : Int) * c → c.natAbs ≤ 6 := fun c hc => by
    have e : d.natAbs = Int.gcd n d * c.natAbs := by
      conv => lhs; rw [hc]
      rw [Int.natAbs_mul]; simp
    have : 1 * c.natAbs ≤ Int.gcd n d * c.natAbs := Nat.mul_le_mul_right _ gp
    omega
  have ql := q l hl
  unfold low
  by_cases h : d < 0
  · rw [if_pos h]
    have e : d.fdiv (-((Int.gcd n d : Nat) : Int)) = -l := by
      conv => lhs; lhs; rw [hl]
      rw [show ((Int.gcd n d : Nat) : Int) * l = (-((Int.gcd n d : Nat) : Int)) * (-l) by grind]
      exact Int.mul_fdiv_cancel_left _ (by omega)
    simp only [e]
    have : l < 0 := by
      have z : ((Int.gcd n d : Nat) : Int) * l < 0 := by rw [← hl]; exact h
      rcases Int.lt_or_gt_of_ne l0 with q | q
      · exact q
      · have := Int.mul_pos (show (0 : Int) < ((Int.gcd n d : Nat) : Int) by omega) q
        omega
    omega
  · rw [if_neg h]
    have e : d.fdiv ((Int.gcd n d : Nat) : Int) = l := by
      conv => lhs; lhs; rw [hl]
      exact Int.mul_fdiv_cancel_left _ (by omega)
    simp only [e]
    have : 0 < l := Int.pos_of_mul_pos_right (a := ((Int.gcd n d : Nat) : Int)) (by rw [← hl]; omega) (by omega)
    omega
theorem g_less {p q : Int × Int} (h1 : p.2.natAbs < 2 ^ 64) (h2 : q.2.natAbs < 2 ^ 64) (S : Sto) : G_is_less [fr p, fr q] S = some (.bl (decide (less p q)), S) := by
  simp only [G_is_less, h1, h2, and_self, if_true]
theorem wait_some {x a m p q : Int} (hk : okWait x a m q) (ha : a ≠ 0) (S : Sto) : G_wait_for_wall [.int x, .int a, .int m, .tup [.int p, .int q]] S = some (fr (wfw x a m (p, q)), S) := by
  simp only [G_wait_for_wall, hk, if_true, wfo, ha, if_false, optW]
theorem wait_none {x m p q : Int} (hk : okWait x 0 m q) (S : Sto) : G_wait_for_wall [.int x, .int 0, .int m, .tup [.int p, .int q]] S = some (.non, S) := by
  simp only [G_wait_for_wall, hk, if_true, wfo, optW]
theorem notN_fr (p : Int × Int) (S : Sto) : notNW (fr p) .non S = some (.bl true, S) := rfl
theorem notN_non (S : Sto) : notNW .non .non S = some (.bl false, S) := rfl
theorem seq1 {S : Sto} {xs : List W} : (S ++ [.lst xs])[S.length]? = some (.lst xs) := get_last
theorem g2_0 {S : Sto} {a b : O} : (S ++ [a, b])[S.length]? = some a := by simp
theorem g2_1 {S : Sto} {a b : O} : (S ++ [a, b])[S.length + 1]? = some b := by simp
theorem t2_1 {S : Sto} {a b c : O} : (S ++ [a, b]).set (S.length + 1) c = S ++ [a, c] := by simp [List.set_append]
theorem la1' (S : Sto) (a : O) : (S ++ [a]).length = S.length + 1 := by simp
theorem len2_1 {S : Sto} {o : O} {xs : List W} : lenW [.ref (S.length + 1)] (S ++ [o, .lst xs]) = some (.int (xs.length : Nat), S ++ [o, .lst xs]) := len_lst g2_1
theorem ix2_0 {S : Sto} {o : O} {x : W} {xs : List W} : ixW (.ref (S.length + 1)) (.int 0) (S ++ [o, .lst (x :: xs)]) = some (x, S ++ [o, .lst (x :: xs)]) := ix_lst (k := 0) g2_1 rfl
theorem ix2_1 {S : Sto} {o : O} {x y : W} {xs : List W} : ixW (.ref (S.length + 1)) (.int 1) (S ++ [o, .lst (x :: y :: xs)]) = some (y, S ++ [o, .lst (x :: y :: xs)]) := ix_lst (k := 1) g2_1 rfl
theorem t_hit_after : Tells 5 b_hit_after G_hit_after := by
  intro ws S r hh
  unfold b_hit_after
  unfold G_hit_after at hh
  split at hh
  · split at hh
    · rename_i w h x y a b p q hb
      cases hh
      obtain ⟨ok, q1, q2⟩ := hb
      have bx := ok.box
      obtain ⟨h1, h2, h3, h4, h5, h6, h7⟩ := id ok
      have kx : okWait x a w q := ⟨by omega, by omega, ⟨by omega, by omega⟩, q1, q2⟩
      have ky : okWait y b h q := ⟨by omega, by omega, ⟨by omega, by omega⟩, q1, q2⟩
      have WA : ∀ t : Int × Int, 0 < t.2 → t.2 ≤ 6 → ∀ S, G_walls_at [runW w h x y a b, fr t] S = some (.str (wallsAt w h x y a b t), S) := fun t z1 z2 S => by
        have z3 : t.2.natAbs < big := big_lt (by omega)
        simp only [G_walls_at, bx, z1, z3, and_self, if_true]
      unfold hitAft first
      by_cases ha : a = 0
      · subst ha
        have hb0 : b ≠ 0 := fun z => h7 ⟨rfl, z⟩
        have dy := low_den (n := wall y b h (p, q) * h - y) hb0 (by omega)
        have W1 : ∀ S, G_wait_for_wall [.int x, .int 0, .int w, .tup [.int p, .int q]] S = some (.non, S) := wait_none kx
        have W2 : ∀ S, G_wait_for_wall [.int y, .int b, .int h, .tup [.int p, .int q]] S = some (fr (wfw y b h (p, q)), S) := wait_some ky hb0
        have WB := WA (wfw y b h (p, q)) dy.1 dy.2
        refine ⟨(hitW (wfw y b h (p, q), wallsAt w h x y 0 b (wfw y b h (p, q))), S ++ [.lst [.non, fr (wfw y b h (p, q))], .lst [fr (wfw y b h (p, q))]]), ?_, ?_⟩
        · generalize wfw y b h (p, q) = T at *
          simp only [fnB, en, List.map_cons, List.map_nil, List.length_cons, List.length_nil, List.replicate_succ, List.replicate_zero, List.cons_append, List.nil_append, List.append_nil, List.getElem?_cons_zero, List.getElem?_cons_succ, List.set_cons_zero, List.set_cons_succ,  Nat.zero_add, Nat.reduceAdd, Nat.reduceSub, Nat.sub_self, Nat.reduceEqDiff,  eVar, eC, eOp, eUn, aNil, aCons, eTup, eLst, eCall, eIf, eAnd, eOr, eNot, tVal, tAndW, tOrW, tNotW, eChain, sNext, sBrk, sCnt, sNever, sSeq, sRet, sRetN, sDrop, sIf, sAsg, sPar, sPar3, gN, gsNil, gsCons, gTupW, Option.bind_some, Option.bind_none,  s0, s1, s2, s3, s4, s6, subW, ltW, leW, gtW, geW, iop0, iop, modW, fdivW, powW, addW, mulW, negW, isi_int_int, isi_int_bool, isi_bl_int, isi_bl_bool, isi_non_int, isi_str_int, isi_tup_int, isi_tup_tup, eq_int, ne_int, len_p, len_6, len_l1, decide_true, decide_false, Int.reduceEq, Int.reduceNeg, absW, minW, ix_p0, ix_p1, ix_r0, ix_r1, ix_r2, ix_r3, ix_r4, ix_r5, if_true, if_false, ite_true, ite_false, Bool.not_true, Bool.not_false, Bool.false_eq_true, reduceIte, ↓reduceIte, eLc, iSeq, lcF_cons, lcF_nil, wipeW, notN_fr, notN_non, g2_0, g2_1, t2_1, la1', seq1, List.append_assoc, l1s, l2s, len2_1, ix2_0, ix2_1, Int.cast_ofNat_Int, Int.natCast_one, ne_eq, not_false_eq_true, and_self, and_false, false_and, true_and, and_true, *]
        · simp only [if_true]
          exact .val _ _ (by simp [below, belows])
      · have dx := low_den (n := wall x a w (p, q) * w - x) ha (by omega)
        have W1 : ∀ S, G_wait_for_wall [.int x, .int a, .int w, .tup [.int p, .int q]] S = some (fr (wfw x a w (p, q)), S) := wait_some kx ha
        by_cases hb0 : b = 0
        · subst hb0
          have W2 : ∀ S, G_wait_for_wall [.int y, .int 0, .int h, .tup [.int p, .int q]] S = some (.non, S) := wait_none ky
          have WB := WA (wfw x a w (p, q)) dx.1 dx.2
          refine ⟨(hitW (wfw x a w (p, q), wallsAt w h x y a 0 (wfw x a w (p, q))), S ++ [.lst [fr (wfw x a w (p, q)), .non], .lst [fr (wfw x a w (p, q))]]), ?_, ?_⟩
          · generalize wfw x a w (p, q) = T at *
            simp only [fnB, en, List.map_cons, List.map_nil, List.length_cons, List.length_nil, List.replicate_succ, List.replicate_zero, List.cons_append, List.nil_append, List.append_nil, List.getElem?_cons_zero, List.getElem?_cons_succ, List.set_cons_zero, List.set_cons_succ,  Nat.zero_add, Nat.reduceAdd, Nat.reduceSub, Nat.sub_self, Nat.reduceEqDiff,  eVar, eC, eOp, eUn, aNil, aCons, eTup, eLst, eCall, eIf, eAnd, eOr, eNot, tVal, tAndW, tOrW, tNotW, eChain, sNext, sBrk, sCnt, sNever, sSeq, sRet, sRetN, sDrop, sIf, sAsg, sPar, sPar3, gN, gsNil, gsCons, gTupW, Option.bind_some, Option.bind_none,  s0, s1, s2, s3, s4, s6, subW, ltW, leW, gtW, geW, iop0, iop, modW, fdivW, powW, addW, mulW, negW, isi_int_int, isi_int_bool, isi_bl_int, isi_bl_bool, isi_non_int, isi_str_int, isi_tup_int, isi_tup_tup, eq_int, ne_int, len_p, len_6, len_l1, decide_true, decide_false, Int.reduceEq, Int.reduceNeg, absW, minW, ix_p0, ix_p1, ix_r0, ix_r1, ix_r2, ix_r3, ix_r4, ix_r5, if_true, if_false, ite_true, ite_false, Bool.not_true, Bool.not_false, Bool.false_eq_true, reduceIte, ↓reduceIte, eLc, iSeq, lcF_cons, lcF_nil, wipeW, notN_fr, notN_non, g2_0, g2_1, t2_1, la1', seq1, List.append_assoc, l1s, l2s, len2_1, ix2_0, ix2_1, Int.cast_ofNat_Int, Int.natCast_one, ne_eq, not_false_eq_true, and_self, and_false, false_and, true_and, and_true, *]
          · simp only [ha, if_true, if_false]
            exact .val _ _ (by simp [below, belows])
        · have dy := low_den (n := wall y b h (p, q) * h - y) hb0 (by omega)
          have W2 : ∀ S, G_wait_for_wall [.int y, .int b, .int h, .tup [.int p, .int q]] S = some (fr (wfw y b h (p, q)), S) := wait_some ky hb0
          have LS : ∀ S, G_is_less [fr (wfw y b h (p, q)), fr (wfw x a w (p, q))] S = some (.bl (decide (less (wfw y b h (p, q)) (wfw x a w (p, q)))), S) := g_less (by show (low _ b).2.natAbs < _; omega) (by show (low _ a).2.natAbs < _; omega)
          have WB := WA (wfw x a w (p, q)) dx.1 dx.2
          have WC := WA (wfw y b h (p, q)) dy.1 dy.2
          by_cases hl : less (wfw y b h (p, q)) (wfw x a w (p, q))
          · refine ⟨(hitW (wfw y b h (p, q), wallsAt w h x y a b (wfw y b h (p, q))), S ++ [.lst [fr (wfw x a w (p, q)), fr (wfw y b h (p, q))], .lst [fr (wfw x a w (p, q)), fr (wfw y b h (p, q))]]), ?_, ?_⟩
            · simp only [hl, decide_true] at LS
              clear hl
              generalize wfw x a w (p, q) = T at *
              generalize wfw y b h (p, q) = T' at *
              simp only [fnB, en, List.map_cons, List.map_nil, List.length_cons, List.length_nil, List.replicate_succ, List.replicate_zero, List.cons_append, List.nil_append, List.append_nil, List.getElem?_cons_zero, List.getElem?_cons_succ, List.set_cons_zero, List.set_cons_succ,  Nat.zero_add, Nat.reduceAdd, Nat.reduceSub, Nat.sub_self, Nat.reduceEqDiff,  eVar, eC, eOp, eUn, aNil, aCons, eTup, eLst, eCall, eIf, eAnd, eOr, eNot, tVal, tAndW, tOrW, tNotW, eChain, sNext, sBrk, sCnt, sNever, sSeq, sRet, sRetN, sDrop, sIf, sAsg, sPar, sPar3, gN, gsNil, gsCons, gTupW, Option.bind_some, Option.bind_none,  s0, s1, s2, s3, s4, s6, subW, ltW, leW, gtW, geW, iop0, iop, modW, fdivW, powW, addW, mulW, negW, isi_int_int, isi_int_bool, isi_bl_int, isi_bl_bool, isi_non_int, isi_str_int, isi_tup_int, isi_tup_tup, eq_int, ne_int, len_p, len_6, len_l1, decide_true, decide_false, Int.reduceEq, Int.reduceNeg, absW, minW, ix_p0, ix_p1, ix_r0, ix_r1, ix_r2, ix_r3, ix_r4, ix_r5, if_true, if_false, ite_true, ite_false, Bool.not_true, Bool.not_false, Bool.false_eq_true, reduceIte, ↓reduceIte, eLc, iSeq, lcF_cons, lcF_nil, wipeW, notN_fr, notN_non, g2_0, g2_1, t2_1, la1', seq1, List.append_assoc, l1s, l2s, len2_1, ix2_0, ix2_1, Int.cast_ofNat_Int, Int.natCast_one, ne_eq, not_false_eq_true, and_self, and_false, false_and, true_and, and_true, *]
            · simp only [ha, hb0, hl, if_true, if_false]
              exact .val _ _ (by simp [below, belows])
          · refine ⟨(hitW (wfw x a w (p, q), wallsAt w h x y a b (wfw x a w (p, q))), S ++ [.lst [fr (wfw x a w (p, q)), fr (wfw y b h (p, q))], .lst [fr (wfw x a w (p, q)), fr (wfw y b h (p, q))]]), ?_, ?_⟩
            · simp only [hl, decide_false] at LS
              clear hl
              generalize wfw x a w (p, q) = T at *
              generalize wfw y b h (p, q) = T' at *
              simp only [fnB, en, List.map_cons, List.map_nil, List.length_cons, List.length_nil, List.replicate_succ, List.replicate_zero, List.cons_append, List.nil_append, List.append_nil, List.getElem?_cons_zero, List.getElem?_cons_succ, List.set_cons_zero, List.set_cons_succ,  Nat.zero_add, Nat.reduceAdd, Nat.reduceSub, Nat.sub_self, Nat.reduceEqDiff,  eVar, eC, eOp, eUn, aNil, aCons, eTup, eLst, eCall, eIf, eAnd, eOr, eNot, tVal, tAndW, tOrW, tNotW, eChain, sNext, sBrk, sCnt, sNever, sSeq, sRet, sRetN, sDrop, sIf, sAsg, sPar, sPar3, gN, gsNil, gsCons, gTupW, Option.bind_some, Option.bind_none,  s0, s1, s2, s3, s4, s6, subW, ltW, leW, gtW, geW, iop0, iop, modW, fdivW, powW, addW, mulW, negW, isi_int_int, isi_int_bool, isi_bl_int, isi_bl_bool, isi_non_int, isi_str_int, isi_tup_int, isi_tup_tup, eq_int, ne_int, len_p, len_6, len_l1, decide_true, decide_false, Int.reduceEq, Int.reduceNeg, absW, minW, ix_p0, ix_p1, ix_r0, ix_r1, ix_r2, ix_r3, ix_r4, ix_r5, if_true, if_false, ite_true, ite_false, Bool.not_true, Bool.not_false, Bool.false_eq_true, reduceIte, ↓reduceIte, eLc, iSeq, lcF_cons, lcF_nil, wipeW, notN_fr, notN_non, g2_0, g2_1, t2_1, la1', seq1, List.append_assoc, l1s, l2s, len2_1, ix2_0, ix2_1, Int.cast_ofNat_Int, Int.natCast_one, ne_eq, not_false_eq_true, and_self, and_false, false_and, true_and, and_true, *]
            · simp only [ha, hb0, hl, if_true, if_false]
              exact .val _ _ (by simp [below, belows])
    · cases hh
  · cases hh
theorem l_hit_after : ∀ ws S r, G_hit_after ws S = some r → ws.length = 2 := by
  intro ws S r h
  unfold G_hit_after at h
  split at h <;> first | rfl | cases h
end Bp

/-! Pg4: hits_of, hits. -/
namespace Bp
set_option autoImplicit false
open PySem L2
structure RunD where
  (w h x y a b : Int)
namespace RunD
variable (r : RunD)
@[reducible] def W : Bp.W := runW r.w r.h r.x r.y r.a r.b
def Ok : Prop := okRun r.w r.h r.x r.y r.a r.b
instance : Decidable r.Ok := inferInstanceAs (Decidable (okRun ..))
def aft (t : Int × Int) : (Int × Int) × Str := hitAft r.w r.h r.x r.y r.a r.b t
/-- the time ahead of the hit number i -/
def tm : Nat → Int × Int
  | 0 => (0, 1)
  | i + 1 => (r.aft (tm i)).1
def hit (i : Nat) : (Int × Int) × Str := r.aft (r.tm i)
def hits (n : Nat) : List Bp.W := (List.range n).map fun i => hitW (r.hit i)
theorem hits_succ (n : Nat) : r.hits (n + 1) = r.hits n ++ [hitW (r.hit n)] := by
  unfold hits; rw [List.range_succ, List.map_append]; rfl
theorem hits_len (n : Nat) : (r.hits n).length = n := by simp [hits]
end RunD
theorem first_den {w h x y a b : Int} (ok : okRun w h x y a b) (t : Int × Int) : 0 < (first w h x y a b t).2 ∧ (first w h x y a b t).2 ≤ 6 := by
  obtain ⟨h1, h2, h3, h4, h5, h6, h7⟩ := id ok
  unfold first
  by_cases ha : a = 0
  · rw [if_pos ha]
    exact low_den (fun z => h7 ⟨ha, z⟩) (by omega)
  · rw [if_neg ha]
    by_cases hb : b = 0
    · rw [if_pos hb]; exact low_den ha (by omega)
    · rw [if_neg hb]
      split
      · exact low_den hb (by omega)
      · exact low_den ha (by omega)
theorem RunD.tm_den {r : RunD} (ok : r.Ok) : ∀ i, 0 < (r.tm i).2 ∧ (r.tm i).2 ≤ 6
  | 0 => by unfold RunD.tm; decide
  | i + 1 => first_den ok _
theorem aft_ok {r : RunD} (ok : r.Ok) (i : Nat) (S : Sto) : G_hit_after [r.W, fr (r.tm i)] S = some (hitW (r.hit i), S) := by
  obtain ⟨d1, d2⟩ := RunD.tm_den ok i
  have ok' : okRun r.w r.h r.x r.y r.a r.b := ok
  have d3 : (r.tm i).2 < 2 ^ 64 := by omega
  simp only [G_hit_after, ok', d1, d3, and_self, if_true]
  rfl
/-- hits_of(run, many); slots 0:run 1:many 2:number 3:found 4:time -/
noncomputable def b_hits_of : Fs := sSeq (sPar 3 4 (aCons (eLst (aNil)) (aCons (eTup (aCons (eC (.int 0)) (aCons (eC (.int 1)) (aNil)))) (aNil)))) (sSeq (sFor (iRange1 (aCons (eVar 1) (aNil))) (gN 2) (sSeq (sDrop (eMethL appendW (eVar 3) (aCons (eCall G_hit_after (aCons (eVar 0) (aCons (eVar 4) (aNil)))) (aNil)))) (sAsg (eOp ixW (eOp ixW (eVar 3) (eUn negW (eC (.int 1)))) (eC (.int 0))) (gN 4)))) (sRet (eVar 3)))
def hofB : Fs := sSeq (sDrop (eMethL appendW (eVar 3) (aCons (eCall G_hit_after (aCons (eVar 0) (aCons (eVar 4) (aNil)))) (aNil)))) (sAsg (eOp ixW (eOp ixW (eVar 3) (eUn negW (eC (.int 1)))) (eC (.int 0))) (gN 4))
theorem ix_hit0 (p : (Int × Int) × Str) (S : Sto) : ixW (hitW p) (.int 0) S = some (fr p.1, S) := rfl
theorem hof_turn (r : RunD) (ok : r.Ok) (v1 v2 : Option W) (S : Sto) (i : Nat) (hz : i < sizeLine) : hofB [some r.W, v1, v2, some (.ref S.length), some (fr (r.tm i))] (S ++ [.lst (r.hits i)]) = some (.next [some r.W, v1, v2, some (.ref S.length), some (fr (r.tm (i + 1)))], S ++ [.lst (r.hits (i + 1))]) := by
  have q := aft_ok ok i
  have l : (r.hits i).length < sizeLine := by rw [r.hits_len]; exact hz
  have il := ix_last (S := S ++ [.lst (r.hits i ++ [hitW (r.hit i)])]) (n := S.length) (xs := r.hits i) (v := hitW (r.hit i)) get_last
  have e : r.tm (i + 1) = (r.hit i).1 := rfl
  rw [r.hits_succ, e]
  unfold hofB
  generalize r.hit i = H at *
  generalize r.hits i = L at *
  generalize r.tm i = T at *
  generalize r.W = R at *
  clear e
  simp only [fnB, en, List.map_cons, List.map_nil, List.length_cons, List.length_nil, List.replicate_succ, List.replicate_zero, List.cons_append, List.nil_append, List.append_nil, List.getElem?_cons_zero, List.getElem?_cons_succ, List.set_cons_zero, List.set_cons_succ,  Nat.zero_add, Nat.reduceAdd, Nat.reduceSub, Nat.sub_self, Nat.reduceEqDiff,  eVar, eC, eOp, eUn, aNil, aCons, eTup, eLst, eCall, eIf, eAnd, eOr, eNot, tVal, tAndW, tOrW, tNotW, eChain, sNext, sBrk, sCnt, sNever, sSeq, sRet, sRetN, sDrop, sIf, sAsg, sPar, sPar3, gN, gsNil, gsCons, gTupW, Option.bind_some, Option.bind_none,  s0, s1, s2, s3, s4, s6, subW, ltW, leW, gtW, geW, iop0, iop, modW, fdivW, powW, addW, mulW, negW, isi_int_int, isi_int_bool, isi_bl_int, isi_bl_bool, isi_non_int, isi_str_int, isi_tup_int, isi_tup_tup, eq_int, ne_int, len_p, len_6, len_l1, decide_true, decide_false, Int.reduceEq, Int.reduceNeg, absW, minW, ix_p0, ix_p1, ix_r0, ix_r1, ix_r2, ix_r3, ix_r4, ix_r5, if_true, if_false, ite_true, ite_false, Bool.not_true, Bool.not_false, Bool.false_eq_true, reduceIte, ↓reduceIte, eMethL, lstOf, get_last, set_last, appendW, bNeg, ix_hit0, ne_eq, not_false_eq_true, and_self, and_false, false_and, true_and, and_true, *]
theorem hof_loop (r : RunD) (ok : r.Ok) (v1 : Option W) (S : Sto) (chk : Sto → Prop) (hc : ∀ S, chk S) : ∀ (n i : Nat) (v2 : Option W), i + n < sizeLine → ∃ v2', forF (gN 2) hofB chk (intsW (i : Nat) n) [some r.W, v1, v2, some (.ref S.length), some (fr (r.tm i))] (S ++ [.lst (r.hits i)]) = some (.next [some r.W, v1, v2', some (.ref S.length), some (fr (r.tm (i + n)))], S ++ [.lst (r.hits (i + n))])
  | 0, i, v2, _ => ⟨v2, by rw [intsW_zero, forF_nil, if_pos (hc _)]; rfl⟩
  | n + 1, i, v2, hz => by
    obtain ⟨v2', h⟩ := hof_loop r ok v1 S chk hc n (i + 1) (some (.int (i : Nat))) (by omega)
    refine ⟨v2', ?_⟩
    rw [intsW_succ, forF_cons, if_pos (hc _)]
    have g : gN 2 (.int (i : Nat)) [some r.W, v1, v2, some (.ref S.length), some (fr (r.tm i))] (S ++ [.lst (r.hits i)]) = some ([some r.W, v1, some (.int (i : Nat)), some (.ref S.length), some (fr (r.tm i))], S ++ [.lst (r.hits i)]) := rfl
    rw [g]
    simp only [Option.bind_some]
    rw [hof_turn r ok _ _ S i (by omega)]
    simp only [Option.bind_some]
    rw [show ((i : Nat) : Int) + 1 = ((i + 1 : Nat) : Int) by omega, h, show i + 1 + n = i + (n + 1) by omega]
def G_hits_of : Fn
  | [.tup [.int w, .int h, .int x, .int y, .int a, .int b], .int n], S => if okRun w h x y a b ∧ 0 ≤ n ∧ n < 1000000 then some (.ref S.length, S ++ [.lst ((RunD.mk w h x y a b).hits n.toNat)]) else none
  | _, _ => none
theorem t_hits_of : Tells 5 b_hits_of G_hits_of := by
  intro ws S r hh
  refine ⟨r, ?_, .same _⟩
  unfold G_hits_of at hh
  split at hh
  · split at hh
    · rename_i w h x y a b n hb
      cases hh
      obtain ⟨ok, n0, n1⟩ := hb
      have sz : n.toNat < sizeLine := Nat.lt_trans (show n.toNat < 1000000 by omega) (by decide)
      obtain ⟨v2, hl⟩ := hof_loop (RunD.mk w h x y a b) ok (some (.int n)) S (fun _ => True) (fun _ => trivial) n.toNat 0 none (by omega)
      rw [Nat.zero_add] at hl
      have s1' : (sPar 3 4 (aCons (eLst (aNil)) (aCons (eTup (aCons (eC (.int 0)) (aCons (eC (.int 1)) (aNil)))) (aNil)))) (en 5 [runW w h x y a b, .int n]) S = some (.next [some (runW w h x y a b), some (.int n), none, some (.ref S.length), some (fr (0, 1))], S ++ [.lst []]) := by
        simp only [fnB, en, List.map_cons, List.map_nil, List.length_cons, List.length_nil, List.replicate_succ, List.replicate_zero, List.cons_append, List.nil_append, List.append_nil, List.getElem?_cons_zero, List.getElem?_cons_succ, List.set_cons_zero, List.set_cons_succ,  Nat.zero_add, Nat.reduceAdd, Nat.reduceSub, Nat.sub_self, Nat.reduceEqDiff,  eVar, eC, eOp, eUn, aNil, aCons, eTup, eLst, eCall, eIf, eAnd, eOr, eNot, tVal, tAndW, tOrW, tNotW, eChain, sNext, sBrk, sCnt, sNever, sSeq, sRet, sRetN, sDrop, sIf, sAsg, sPar, sPar3, gN, gsNil, gsCons, gTupW, Option.bind_some, Option.bind_none,  s0, s1, s2, s3, s4, s6, subW, ltW, leW, gtW, geW, iop0, iop, modW, fdivW, powW, addW, mulW, negW, isi_int_int, isi_int_bool, isi_bl_int, isi_bl_bool, isi_non_int, isi_str_int, isi_tup_int, isi_tup_tup, eq_int, ne_int, len_p, len_6, len_l1, decide_true, decide_false, Int.reduceEq, Int.reduceNeg, absW, minW, ix_p0, ix_p1, ix_r0, ix_r1, ix_r2, ix_r3, ix_r4, ix_r5, if_true, if_false, ite_true, ite_false, Bool.not_true, Bool.not_false, Bool.false_eq_true, reduceIte, ↓reduceIte, ne_eq, not_false_eq_true, and_self, and_false, false_and, true_and, and_true, *]
      have rg : iRange1 (aCons (eVar 1) (aNil)) [some (runW w h x y a b), some (.int n), none, some (.ref S.length), some (fr (0, 1))] (S ++ [.lst []]) = some (⟨intsW 0 n.toNat, fun _ => True⟩, S ++ [.lst []]) := range1_of rfl (by omega)
      have s2' : sFor (iRange1 (aCons (eVar 1) (aNil))) (gN 2) hofB [some (runW w h x y a b), some (.int n), none, some (.ref S.length), some (fr (0, 1))] (S ++ [.lst []]) = some (.next [some (runW w h x y a b), some (.int n), v2, some (.ref S.length), some (fr ((RunD.mk w h x y a b).tm n.toNat))], S ++ [.lst ((RunD.mk w h x y a b).hits n.toNat)]) := by
        simp only [sFor, rg, Option.bind_some]
        exact hl
      have e : b_hits_of = sSeq (sPar 3 4 (aCons (eLst (aNil)) (aCons (eTup (aCons (eC (.int 0)) (aCons (eC (.int 1)) (aNil)))) (aNil)))) (sSeq (sFor (iRange1 (aCons (eVar 1) (aNil))) (gN 2) hofB) (sRet (eVar 3))) := rfl
      rw [e]
      unfold fnB
      rw [seq_next s1', seq_next s2']
      simp only [sRet, eVar, List.getElem?_cons_zero, List.getElem?_cons_succ, Option.bind_some]
    · cases hh
  · cases hh
theorem l_hits_of : ∀ ws S r, G_hits_of ws S = some r → ws.length = 2 := by
  intro ws S r h
  unfold G_hits_of at h
  split at h <;> first | rfl | cases h
/-- hits(run, many); slots 0:run 1:many -/
noncomputable def b_hits : Fs := sSeq (sDrop (eCall G_need_run (aCons (eVar 0) (aNil)))) (sSeq (sIf (tNotW (tVal (eCall G_is_count (aCons (eVar 1) (aCons (eC (.int 0)) (aCons (eC (.int 300)) (aNil))))))) (sNever) (sNext)) (sRet (eCall G_hits_of (aCons (eVar 0) (aCons (eVar 1) (aNil))))))
def G_hits : Fn
  | [.tup [.int w, .int h, .int x, .int y, .int a, .int b], .int n], S => if okRun w h x y a b ∧ 0 ≤ n ∧ n ≤ 300 then some (.ref S.length, S ++ [.lst ((RunD.mk w h x y a b).hits n.toNat)]) else none
  | _, _ => none
theorem t_hits : Tells 2 b_hits G_hits := by
  intro ws S r hh
  refine ⟨r, ?_, .same _⟩
  unfold b_hits
  unfold G_hits at hh
  split at hh
  · split at hh
    · rename_i w h x y a b n hb
      cases hh
      obtain ⟨ok, n0, n1⟩ := hb
      have n2 : n < 1000000 := by omega
      simp only [fnB, en, List.map_cons, List.map_nil, List.length_cons, List.length_nil, List.replicate_succ, List.replicate_zero, List.cons_append, List.nil_append, List.append_nil, List.getElem?_cons_zero, List.getElem?_cons_succ, List.set_cons_zero, List.set_cons_succ,  Nat.zero_add, Nat.reduceAdd, Nat.reduceSub, Nat.sub_self, Nat.reduceEqDiff,  eVar, eC, eOp, eUn, aNil, aCons, eTup, eLst, eCall, eIf, eAnd, eOr, eNot, tVal, tAndW, tOrW, tNotW, eChain, sNext, sBrk, sCnt, sNever, sSeq, sRet, sRetN, sDrop, sIf, sAsg, sPar, sPar3, gN, gsNil, gsCons, gTupW, Option.bind_some, Option.bind_none,  s0, s1, s2, s3, s4, s6, subW, ltW, leW, gtW, geW, iop0, iop, modW, fdivW, powW, addW, mulW, negW, isi_int_int, isi_int_bool, isi_bl_int, isi_bl_bool, isi_non_int, isi_str_int, isi_tup_int, isi_tup_tup, eq_int, ne_int, len_p, len_6, len_l1, decide_true, decide_false, Int.reduceEq, Int.reduceNeg, absW, minW, ix_p0, ix_p1, ix_r0, ix_r1, ix_r2, ix_r3, ix_r4, ix_r5, if_true, if_false, ite_true, ite_false, Bool.not_true, Bool.not_false, Bool.false_eq_true, reduceIte, ↓reduceIte, G_need_run, G_is_count, G_hits_of, ne_eq, not_false_eq_true, and_self, and_false, false_and, true_and, and_true, *]
    · cases hh
  · cases hh
theorem l_hits : ∀ ws S r, G_hits ws S = some r → ws.length = 2 := by
  intro ws S r h
  unfold G_hits at h
  split at h <;> first | rfl | cases h
end Bp

/-! Mt5: the hits by parts of time (no program). -/
namespace Bp
set_option autoImplicit false
open PySem
theorem fold_wall {z m : Int} (hm : 0 < m) : (foldI z m = 0 ∨ foldI z m = m) ↔ m ∣ z := by
  obtain ⟨b1, b2⟩ := emod_bounds (z := z) hm
  have q := Int.emod_add_mul_ediv z (2 * m)
  unfold foldI
  constructor
  · intro h
    have : z % (2 * m) = 0 ∨ z % (2 * m) = m := by
      rcases h with h | h <;> split at h <;> omega
    rcases this with e | e
    · rw [e] at q
      exact ⟨2 * (z / (2 * m)), by rw [← q]; grind⟩
    · rw [e] at q
      exact ⟨2 * (z / (2 * m)) + 1, by rw [← q]; grind⟩
  · rintro ⟨k, hk⟩
    have d : m ∣ z % (2 * m) := dvd_emod ⟨k, hk⟩ (Int.dvd_mul_left ..)
    obtain ⟨j, hj⟩ := d
    have j0 : 0 ≤ j := by
      by_cases h : 0 ≤ j
      · exact h
      · have := Int.mul_le_mul_of_nonneg_left (show j ≤ -1 by omega) (Int.le_of_lt hm)
        omega
    have j1 : j < 2 := by
      by_cases h : j < 2
      · exact h
      · have := Int.mul_le_mul_of_nonneg_left (show 2 ≤ j by omega) (Int.le_of_lt hm)
        omega
    have : j = 0 ∨ j = 1 := by omega
    rcases this with rfl | rfl
    · left; rw [hj]; split <;> omega
    · right; rw [hj]; split <;> omega
theorem lt_wall {lo hi : Str} {a m z : Int} (hm : 0 < m) (h1 : lo ≠ "") (h2 : hi ≠ "") : lt lo hi a m (foldI z m) = "" ↔ ¬ (a ≠ 0 ∧ m ∣ z) := by
  rw [← fold_wall hm]
  unfold lt
  constructor
  · intro h
    split at h
    · exact absurd h h1
    · split at h
      · exact absurd h h2
      · rename_i q1 q2
        rintro ⟨ha, e | e⟩
        · exact q1 ⟨ha, e⟩
        · exact q2 ⟨ha, e⟩
  · intro h
    rw [if_neg (fun z => h ⟨z.1, .inl z.2⟩), if_neg (fun z => h ⟨z.1, .inr z.2⟩)]
/-- the wall ahead, by parts of time -/
def wallI (x a m : Int) (t : Nat) : Int := if 0 < a then (x + a * (t : Int)) / m + 1 else -(-(x + a * (t : Int)) / m) - 1
theorem wall_next {x m a : Int} (hm : 0 < m) (ha : a ≠ 0) (h1 : a ∣ x) (h2 : a ∣ m) (t : Nat) :
    ∃ s : Nat, wallI x a m t * m - x = a * (s : Int) ∧ t < s ∧ m ∣ x + a * (s : Int) ∧ ∀ r : Nat, t < r → r < s → ¬ m ∣ x + a * (r : Int) := by
  obtain ⟨u, hu⟩ := h1
  obtain ⟨v, hv⟩ := h2
  by_cases hp : 0 < a
  · have l1 := Int.lt_ediv_add_one_mul_self (x + a * (t : Int)) hm
    have l2 := Int.ediv_mul_le (x + a * (t : Int)) (show m ≠ 0 by omega)
    have e0 : wallI x a m t = (x + a * (t : Int)) / m + 1 := by unfold wallI; rw [if_pos hp]
    generalize hk : (x + a * (t : Int)) / m = k at *
    have e1 : (k + 1) * m - x = a * ((k + 1) * v - u) := by rw [hu, hv]; grind
    have g : (t : Int) < (k + 1) * v - u := by
      refine Int.lt_of_mul_lt_mul_left (a := a) ?_ (Int.le_of_lt hp)
      rw [← e1]; omega
    refine ⟨((k + 1) * v - u).toNat, ?_, by omega, ?_, fun r r1 r2 hd => ?_⟩
    · rw [e0, e1, show ((((k + 1) * v - u).toNat : Nat) : Int) = (k + 1) * v - u by omega]
    · rw [show ((((k + 1) * v - u).toNat : Nat) : Int) = (k + 1) * v - u by omega, ← e1]
      exact ⟨k + 1, by grind⟩
    · obtain ⟨j, hj⟩ := hd
      have c1 : a * (t : Int) < a * (r : Int) := Int.mul_lt_mul_of_pos_left (by omega) hp
      have c2 : a * (r : Int) < a * ((k + 1) * v - u) := Int.mul_lt_mul_of_pos_left (by omega) hp
      have c3 : k * m < m * j := by omega
      have c4 : m * j < (k + 1) * m := by omega
      have d1 : k < j := Int.lt_of_mul_lt_mul_left (a := m) (by rw [Int.mul_comm m k]; exact c3) (by omega)
      have d2 : j < k + 1 := Int.lt_of_mul_lt_mul_left (a := m) (by rw [Int.mul_comm m (k + 1)]; exact c4) (by omega)
      omega
  · have hn : 0 < -a := by omega
    have l1 := Int.lt_ediv_add_one_mul_self (-(x + a * (t : Int))) hm
    have l2 := Int.ediv_mul_le (-(x + a * (t : Int))) (show m ≠ 0 by omega)
    have e0 : wallI x a m t = -(-(x + a * (t : Int)) / m) - 1 := by unfold wallI; rw [if_neg hp]
    generalize hk : -(x + a * (t : Int)) / m = k at *
    have e1 : (-k - 1) * m - x = a * ((-k - 1) * v - u) := by rw [hu, hv]; grind
    have e2 : (-k - 1) * m = -((k + 1) * m) := by grind
    have g : (t : Int) < (-k - 1) * v - u := by
      refine Int.lt_of_mul_lt_mul_left (a := -a) ?_ (Int.le_of_lt hn)
      rw [Int.neg_mul, Int.neg_mul, ← e1]; omega
    refine ⟨((-k - 1) * v - u).toNat, ?_, by omega, ?_, fun r r1 r2 hd => ?_⟩
    · rw [e0, e1, show ((((-k - 1) * v - u).toNat : Nat) : Int) = (-k - 1) * v - u by omega]
    · rw [show ((((-k - 1) * v - u).toNat : Nat) : Int) = (-k - 1) * v - u by omega, ← e1]
      exact ⟨-k - 1, by grind⟩
    · obtain ⟨j, hj⟩ := hd
      have c1 : -a * (t : Int) < -a * (r : Int) := Int.mul_lt_mul_of_pos_left (by omega) hn
      have c2 : -a * (r : Int) < -a * ((-k - 1) * v - u) := Int.mul_lt_mul_of_pos_left (by omega) hn
      rw [Int.neg_mul, Int.neg_mul] at c1 c2
      have e3 : -k * m = -(k * m) := by grind
      have c3 : (-k - 1) * m < m * j := by omega
      have c4 : m * j < -k * m := by omega
      have d1 : -k - 1 < j := Int.lt_of_mul_lt_mul_left (a := m) (by rw [Int.mul_comm m (-k - 1)]; exact c3) (by omega)
      have d2 : j < -k := Int.lt_of_mul_lt_mul_left (a := m) (by rw [Int.mul_comm m (-k)]; exact c4) (by omega)
      omega
theorem ediv_cross {n d n' d' : Int} (hd : 0 < d) (hd' : 0 < d') (h : n * d' = n' * d) : n / d = n' / d' := by
  rw [← Int.mul_ediv_mul_of_pos n d hd', ← Int.mul_ediv_mul_of_pos n' d' hd, Int.mul_comm d' n, h, Int.mul_comm n' d, Int.mul_comm d' d]
theorem low_neg {n d : Int} (hd : d < 0) : low n d = low (-n) (-d) := by
  unfold low
  rw [if_pos hd, if_neg (by omega), Int.gcd_neg, Int.neg_gcd]
  have f : ∀ c : Int, ∀ g : Nat, 0 < g → ((g : Nat) : Int) ∣ c → c.fdiv (-((g : Nat) : Int)) = (-c).fdiv ((g : Nat) : Int) := fun c g g0 ⟨k, hk⟩ => by
    rw [hk, show ((g : Nat) : Int) * k = (-((g : Nat) : Int)) * (-k) by grind, Int.mul_fdiv_cancel_left _ (by omega), show -(-((g : Nat) : Int) * -k) = ((g : Nat) : Int) * (-k) by grind, Int.mul_fdiv_cancel_left _ (by omega)]
  have gp := gcd_pos (n := n) (d := d) (by omega)
  rw [f n _ gp (Int.gcd_dvd_left ..), f d _ gp (Int.gcd_dvd_right ..)]
/-- the next wall of one coordinate, from a time of so many parts -/
theorem wfw_tick {x a m U : Int} (hm : 0 < m) (hU : 0 < U) (ha : a ≠ 0) (hd : a ∣ U) (t : Nat) :
    ∃ s : Nat, wfw x a m (low (t : Int) U) = low (s : Int) U ∧ t < s ∧ m * U ∣ x * U + a * (s : Int) ∧ ∀ r : Nat, t < r → r < s → ¬ m * U ∣ x * U + a * (r : Int) := by
  obtain ⟨s, e1, e2, e3, e4⟩ := wall_next (x := x * U) (m := m * U) (a := a) (Int.mul_pos hm hU) ha (Int.dvd_mul_of_dvd_right hd) (Int.dvd_mul_of_dvd_right hd) t
  refine ⟨s, ?_, e2, e3, e4⟩
  obtain ⟨q1, q2, _⟩ := low_spec (n := (t : Int)) hU
  generalize low (t : Int) U = R at *
  obtain ⟨p, q⟩ := R
  simp only at q1 q2
  have c1 : (x * q + a * p) / (m * q) = (x * U + a * (t : Int)) / (m * U) := by
    refine ediv_cross (Int.mul_pos hm q1) (Int.mul_pos hm hU) ?_
    have z1 : (x * q + a * p) * (m * U) = m * (x * q * U + a * (p * U)) := by grind
    rw [z1, ← q2]; grind
  have c2 : -(x * q + a * p) / (m * q) = -(x * U + a * (t : Int)) / (m * U) := by
    refine ediv_cross (Int.mul_pos hm q1) (Int.mul_pos hm hU) ?_
    have z1 : -(x * q + a * p) * (m * U) = -(m * (x * q * U + a * (p * U))) := by grind
    rw [z1, ← q2]; grind
  have wq : wall x a m (p, q) = wallI (x * U) a (m * U) t := by
    unfold wall wallI
    simp only [c1, c2]
  unfold wfw
  rw [wq]
  generalize wallI (x * U) a (m * U) t = k at *
  have e5 : (k * m - x) * U = (s : Int) * a := by
    have : (k * m - x) * U = k * (m * U) - x * U := by grind
    rw [this, e1]; grind
  by_cases hp : 0 < a
  · exact low_eq hp hU e5
  · rw [low_neg (by omega)]
    refine low_eq (by omega) hU ?_
    have : -(k * m - x) * U = -((k * m - x) * U) := by grind
    rw [this, e5]; grind
theorem less_low {m n : Int} {U : Int} (hU : 0 < U) : less (low m U) (low n U) ↔ m < n := by
  obtain ⟨q1, q2, _⟩ := low_spec (n := m) hU
  obtain ⟨r1, r2, _⟩ := low_spec (n := n) hU
  unfold less
  generalize low m U = A at *
  generalize low n U = B at *
  have k : 0 < A.2 * B.2 := Int.mul_pos q1 r1
  have e1 : U * (A.1 * B.2) = A.2 * B.2 * m := by
    have : U * (A.1 * B.2) = (A.1 * U) * B.2 := by grind
    rw [this, ← q2]; grind
  have e2 : U * (B.1 * A.2) = A.2 * B.2 * n := by
    have : U * (B.1 * A.2) = (B.1 * U) * A.2 := by grind
    rw [this, ← r2]; grind
  constructor
  · intro h
    have : U * (A.1 * B.2) < U * (B.1 * A.2) := Int.mul_lt_mul_of_pos_left h hU
    rw [e1, e2] at this
    exact Int.lt_of_mul_lt_mul_left this (Int.le_of_lt k)
  · intro h
    have : A.2 * B.2 * m < A.2 * B.2 * n := Int.mul_lt_mul_of_pos_left h k
    rw [← e1, ← e2] at this
    exact Int.lt_of_mul_lt_mul_left this (Int.le_of_lt hU)
theorem plc_tick {w x a U : Int} (hU : 0 < U) (t : Nat) : plc w x a (low (t : Int) U) = low (px (x * U) (w * U) a t) U := by
  obtain ⟨q1, q2, _⟩ := low_spec (n := (t : Int)) hU
  have := plc_same (w := w) (x := x) (a := a) (p := (low (t : Int) U).1) (q := (low (t : Int) U).2) (p' := (t : Int)) (q' := U) q1 hU q2.symm
  rw [show low (t : Int) U = ((low (t : Int) U).1, (low (t : Int) U).2) from rfl, this]
  rfl
theorem low_is {n U c : Int} (hU : 0 < U) : low n U = (c, 1) ↔ n = c * U := by
  constructor
  · intro h
    have : low n U = low c 1 := by rw [h, low_one]
    have := low_inj hU (by decide) this
    rw [Int.mul_one] at this
    exact this
  · intro h
    rw [← low_one c]
    exact low_eq hU (by decide) (by rw [h]; grind)
theorem wl_tick {lo hi : Str} {w x a U : Int} (hw : 0 < w) (hU : 0 < U) (t : Nat) : wl lo hi a w (plc w x a (low (t : Int) U)) = lt lo hi a (w * U) (px (x * U) (w * U) a t) := by
  rw [plc_tick hU]
  unfold wl lt
  have z0 : low (px (x * U) (w * U) a t) U = (0, 1) ↔ px (x * U) (w * U) a t = 0 := by rw [low_is hU, Int.zero_mul]
  have z1 : low (px (x * U) (w * U) a t) U = (w, 1) ↔ px (x * U) (w * U) a t = w * U := low_is hU
  by_cases ha : a = 0
  · simp [ha]
  · simp only [ha, z0, z1, ne_eq, not_false_eq_true, true_and, if_false]
end Bp

/-! Mt6: the hits of a run are the parts of time at which a wall is met; they come again with the period (no program). -/
namespace Bp
set_option autoImplicit false
open PySem
def RunD.wk (r : RunD) (U : Int) : WalkD := wkD r.w r.h r.x r.y r.a r.b U
/-- a unit of time for a run -/
structure UOk (r : RunD) (U : Int) : Prop where
  pos : 0 < U
  da : r.a ≠ 0 → r.a ∣ U
  db : r.b ≠ 0 → r.b ∣ U
theorem app_empty {s t : Str} : s ++ t = "" ↔ s = "" ∧ t = "" := by
  constructor
  · intro h
    have e : (s ++ t : Str) = Str.append s t := rfl
    rw [e] at h
    unfold Str.append at h
    have h2 := congrArg Str.cps h
    simp only at h2
    have h3 : (("" : Str).cps) = #[] := by decide
    rw [h3] at h2
    have h4 := Array.append_eq_empty_iff.mp h2
    have em : ("" : Str) = ⟨#[]⟩ := by decide
    rw [em]
    cases s; cases t
    simp only at h4
    rw [h4.1, h4.2]
    exact ⟨rfl, rfl⟩
  · rintro ⟨rfl, rfl⟩; decide
theorem name_empty {r : RunD} (ok : r.Ok) {U : Int} (u : UOk r U) (t : Nat) : (r.wk U).name t = "" ↔ ¬ (r.a ≠ 0 ∧ r.w * U ∣ r.x * U + r.a * (t : Int)) ∧ ¬ (r.b ≠ 0 ∧ r.h * U ∣ r.y * U + r.b * (t : Int)) := by
  obtain ⟨h1, h2, _⟩ : okRun r.w r.h r.x r.y r.a r.b := ok
  unfold WalkD.name
  rw [app_empty]
  have e1 := lt_wall (lo := "L") (hi := "R") (a := r.a) (m := r.w * U) (z := r.x * U + r.a * (t : Int)) (Int.mul_pos (by omega) u.pos) (by decide) (by decide)
  have e2 := lt_wall (lo := "B") (hi := "T") (a := r.b) (m := r.h * U) (z := r.y * U + r.b * (t : Int)) (Int.mul_pos (by omega) u.pos) (by decide) (by decide)
  exact and_congr e1 e2
theorem next_hit {r : RunD} (ok : r.Ok) {U : Int} (u : UOk r U) (t : Nat) : ∃ s : Nat, t < s ∧ r.aft (low (t : Int) U) = (low (s : Int) U, (r.wk U).name s) ∧ (r.wk U).name s ≠ "" ∧ ∀ v, t < v → v < s → (r.wk U).name v = "" := by
  have ok' : okRun r.w r.h r.x r.y r.a r.b := ok
  obtain ⟨h1, h2, h3, h4, h5, h6, h7⟩ := ok'
  have W : ∀ s : Nat, wallsAt r.w r.h r.x r.y r.a r.b (low (s : Int) U) = (r.wk U).name s := fun s => by
    unfold wallsAt WalkD.name
    rw [wl_tick (by omega) u.pos, wl_tick (by omega) u.pos]
    rfl
  have fin : ∀ s : Nat, first r.w r.h r.x r.y r.a r.b (low (t : Int) U) = low (s : Int) U → r.aft (low (t : Int) U) = (low (s : Int) U, (r.wk U).name s) := fun s hs => by
    unfold RunD.aft hitAft
    rw [hs, W]
  by_cases ha : r.a = 0
  · have hb : r.b ≠ 0 := fun z => h7 ⟨ha, z⟩
    obtain ⟨s, e1, e2, e3, e4⟩ := wfw_tick (x := r.y) (a := r.b) (m := r.h) (by omega) u.pos hb (u.db hb) t
    refine ⟨s, e2, fin s (by unfold first; rw [if_pos ha]; exact e1), fun z => ?_, fun v v1 v2 => ?_⟩
    · exact ((name_empty ok u s).mp z).2 ⟨hb, e3⟩
    · exact (name_empty ok u v).mpr ⟨fun z => z.1 ha, fun z => e4 v v1 v2 z.2⟩
  · obtain ⟨s, e1, e2, e3, e4⟩ := wfw_tick (x := r.x) (a := r.a) (m := r.w) (by omega) u.pos ha (u.da ha) t
    by_cases hb : r.b = 0
    · refine ⟨s, e2, fin s (by unfold first; rw [if_neg ha, if_pos hb]; exact e1), fun z => ?_, fun v v1 v2 => ?_⟩
      · exact ((name_empty ok u s).mp z).1 ⟨ha, e3⟩
      · exact (name_empty ok u v).mpr ⟨fun z => e4 v v1 v2 z.2, fun z => z.1 hb⟩
    · obtain ⟨s', f1, f2, f3, f4⟩ := wfw_tick (x := r.y) (a := r.b) (m := r.h) (by omega) u.pos hb (u.db hb) t
      by_cases hl : s' < s
      · refine ⟨s', f2, fin s' ?_, fun z => ?_, fun v v1 v2 => ?_⟩
        · unfold first
          rw [if_neg ha, if_neg hb, e1, f1, if_pos ((less_low u.pos).mpr (by omega))]
        · exact ((name_empty ok u s').mp z).2 ⟨hb, f3⟩
        · exact (name_empty ok u v).mpr ⟨fun z => e4 v v1 (by omega) z.2, fun z => f4 v v1 v2 z.2⟩
      · refine ⟨s, e2, fin s ?_, fun z => ?_, fun v v1 v2 => ?_⟩
        · unfold first
          rw [if_neg ha, if_neg hb, e1, f1, if_neg (fun z => hl (by have := (less_low u.pos).mp z; omega))]
        · exact ((name_empty ok u s).mp z).1 ⟨ha, e3⟩
        · exact (name_empty ok u v).mpr ⟨fun z => e4 v v1 v2 z.2, fun z => f4 v v1 (by omega) z.2⟩
/-- the parts of time of a run's hits -/
structure HitT (r : RunD) (U : Int) (T : Nat → Nat) : Prop where
  zero : T 0 = 0
  tm : ∀ i : Nat, r.tm i = low ((T i : Nat) : Int) U
  lt : ∀ i, T i < T (i + 1)
  hit : ∀ i, r.hit i = (low ((T (i + 1) : Nat) : Int) U, (r.wk U).name (T (i + 1)))
  on : ∀ i, (r.wk U).name (T (i + 1)) ≠ ""
  off : ∀ i v, T i < v → v < T (i + 1) → (r.wk U).name v = ""
def itr (f : Nat → Nat) : Nat → Nat
  | 0 => 0
  | i + 1 => f (itr f i)
theorem low_zero {U : Int} (hU : 0 < U) : low 0 U = (0, 1) := (low_is hU).mpr (by simp)
theorem hitT {r : RunD} (ok : r.Ok) {U : Int} (u : UOk r U) : ∃ T, HitT r U T := by
  obtain ⟨f, hf⟩ := Classical.axiomOfChoice (next_hit ok u)
  obtain ⟨T, T0, Ts⟩ : ∃ T : Nat → Nat, T 0 = 0 ∧ ∀ i, T (i + 1) = f (T i) := ⟨itr f, rfl, fun _ => rfl⟩
  have tm : ∀ i, r.tm i = low ((T i : Nat) : Int) U := by
    intro i
    induction i with
    | zero =>
      rw [T0]
      show (0, 1) = low ((0 : Nat) : Int) U
      rw [show ((0 : Nat) : Int) = 0 from rfl, low_zero u.pos]
    | succ i ih =>
      show (r.aft (r.tm i)).1 = _
      rw [ih, (hf (T i)).2.1, Ts]
  refine ⟨T, T0, tm, fun i => ?_, fun i => ?_, fun i => ?_, fun i v v1 v2 => ?_⟩
  · rw [Ts]; exact (hf (T i)).1
  · show r.aft (r.tm i) = _
    rw [tm, (hf (T i)).2.1, Ts]
  · rw [Ts]; exact (hf (T i)).2.2.1
  · rw [Ts] at v2; exact (hf (T i)).2.2.2 v v1 v2
namespace HitT
variable {r : RunD} {U : Int} {T : Nat → Nat}
theorem mono (h : HitT r U T) : ∀ {i j : Nat}, i < j → T i < T j
  | i, 0, e => absurd e (by omega)
  | i, j + 1, e => by
    have := h.lt j
    by_cases q : i = j
    · subst q; exact this
    · have := h.mono (i := i) (j := j) (by omega)
      omega
theorem le_T (h : HitT r U T) : ∀ i, i ≤ T i
  | 0 => by omega
  | i + 1 => by have := h.le_T i; have := h.lt i; omega
/-- a time with a wall is one of them -/
theorem onto (h : HitT r U T) {v : Nat} (hv : 0 < v) (hn : (r.wk U).name v ≠ "") : ∃ i, T (i + 1) = v := by
  have key : ∀ n, v ≤ T n → ∃ i, T (i + 1) = v := by
    intro n
    induction n with
    | zero => intro q; rw [h.zero] at q; omega
    | succ n ih =>
      intro q
      by_cases e : T (n + 1) = v
      · exact ⟨n, e⟩
      · by_cases e2 : v ≤ T n
        · exact ih e2
        · exact absurd (h.off n v (by omega) (by omega)) hn
  exact key v (h.le_T v)
theorem inj (h : HitT r U T) {i j : Nat} (e : T i = T j) : i = j := by
  rcases Nat.lt_trichotomy i j with q | q | q
  · have := h.mono q; omega
  · exact q
  · have := h.mono q; omega
/-- the walls met so far, in the walk -/
theorem walls_skip (k : WalkD) (n : Nat) : ∀ d, (∀ v, n < v → v ≤ n + d → k.name v = "") → k.walls (n + d) = k.walls n
  | 0, _ => rfl
  | d + 1, hv => by
    rw [show n + (d + 1) = (n + d) + 1 by omega, k.walls_succ, walls_skip k n d (fun v a b => hv v a (by omega))]
    have : k.wall (n + d + 1) = none := by unfold WalkD.wall; rw [if_pos (hv _ (by omega) (by omega))]
    rw [this]
    simp
theorem walls (h : HitT r U T) : ∀ j, (r.wk U).walls (T j) = (List.range j).map fun i => W.tup [.int (T (i + 1) : Nat), .str ((r.wk U).name (T (i + 1)))]
  | 0 => by rw [h.zero]; rfl
  | j + 1 => by
    have lt := h.lt j
    obtain ⟨d, hd⟩ : ∃ d, T (j + 1) = (T j + d) + 1 := ⟨T (j + 1) - T j - 1, by omega⟩
    have sk := walls_skip (r.wk U) (T j) d fun v a b => h.off j v a (by omega)
    rw [List.range_succ, List.map_append, ← h.walls j, ← sk]
    have e : (r.wk U).walls (T (j + 1)) = (r.wk U).walls (T j + d) ++ [W.tup [.int (T (j + 1) : Nat), .str ((r.wk U).name (T (j + 1)))]] := by
      conv => lhs; rw [hd]
      rw [WalkD.walls_succ, ← hd]
      have : (r.wk U).wall (T (j + 1)) = some (W.tup [.int (T (j + 1) : Nat), .str ((r.wk U).name (T (j + 1)))]) := by unfold WalkD.wall; rw [if_neg (h.on j)]
      rw [this]
    rw [e]
    rfl
/-- .. come again with a period P of the letters: N of them are not behind P -/
theorem shift (h : HitT r U T) {P N : Nat} (hP : ∀ v, 0 < v → (r.wk U).name (v + P) = (r.wk U).name v) (h1 : T N ≤ P) (h2 : P < T (N + 1)) : ∀ i, T (N + (i + 1)) = T (i + 1) + P
  | 0 => by
    -- the first behind P
    have a1 : (r.wk U).name (T (0 + 1) + P) ≠ "" := by
      rw [hP _ (by have := h.lt 0; omega)]; exact h.on 0
    have p1 : 0 < T (0 + 1) := by have := h.lt 0; omega
    rcases Nat.lt_trichotomy (T (N + 1)) (T (0 + 1) + P) with q | q | q
    · -- T (N+1) - P would be an earlier one
      have e : (r.wk U).name (T (N + 1) - P) = "" := h.off 0 _ (by rw [h.zero]; omega) (by omega)
      have := hP (T (N + 1) - P) (by omega)
      rw [e, show T (N + 1) - P + P = T (N + 1) by omega] at this
      exact absurd this (h.on N)
    · exact q
    · exact absurd (h.off N _ (by omega) q) a1
  | i + 1 => by
    have ih := h.shift hP h1 h2 i
    have l1 := h.lt (N + (i + 1))
    have l2 := h.lt (i + 1)
    have a1 : (r.wk U).name (T (i + 1 + 1) + P) ≠ "" := by rw [hP _ (by omega)]; exact h.on (i + 1)
    rcases Nat.lt_trichotomy (T (N + (i + 1) + 1)) (T (i + 1 + 1) + P) with q | q | q
    · have e : (r.wk U).name (T (N + (i + 1) + 1) - P) = "" := h.off (i + 1) _ (by omega) (by omega)
      have := hP (T (N + (i + 1) + 1) - P) (by omega)
      rw [e, show T (N + (i + 1) + 1) - P + P = T (N + (i + 1) + 1) by omega] at this
      exact absurd this (h.on (N + (i + 1)))
    · exact q
    · exact absurd (h.off (N + (i + 1)) _ (by omega) q) a1
/-- how many lie not behind P -/
theorem count (h : HitT r U T) (P : Nat) : ∃ N, T N ≤ P ∧ P < T (N + 1) := by
  have key : ∀ n, P < T n → ∃ N, T N ≤ P ∧ P < T (N + 1) := by
    intro n
    induction n with
    | zero => intro q; rw [h.zero] at q; omega
    | succ n ih =>
      intro q
      by_cases e : P < T n
      · exact ih e
      · exact ⟨n, by omega, q⟩
  exact key (P + 1) (by have := h.le_T (P + 1); omega)
end HitT
/-- the letters come again with the period -/
theorem name_round {k : WalkD} {T : Nat} (r : Round k T) (t : Nat) : k.name (t + T) = k.name t := by
  have h := r.turn t
  unfold WalkD.sp at h
  have h1 := congrArg Prod.fst h
  have h2 := congrArg Prod.snd h
  simp only at h1 h2
  unfold WalkD.name
  rw [h1, h2]
end Bp

/-! Bas2: lists of data compared, comprehensions, loops that go through. -/
namespace Bp
set_option autoImplicit false
open PySem L2
theorem mapO_of {α : Type} {f : W → Option PyData} (w : α → W) (d : α → PyData) : ∀ (ps : List α), (∀ a ∈ ps, f (w a) = some (d a)) → mapO f (ps.map w) = some (ps.map d)
  | [], _ => rfl
  | p :: ps, h => by
    simp only [List.map_cons, mapO, h p (List.mem_cons_self ..), Option.bind_some, mapO_of w d ps (fun a ha => h a (List.mem_cons_of_mem _ ha))]
theorem eqvAll_of {α : Type} [DecidableEq α] (d : α → PyData) (he : ∀ a b, PyData.eqv (d a) (d b) = decide (a = b)) : ∀ ps qs : List α, PyData.eqvAll (ps.map d) (qs.map d) = decide (ps = qs)
  | [], [] => by simp [PyData.eqvAll]
  | [], q :: qs => by simp [PyData.eqvAll]
  | p :: ps, [] => by simp [PyData.eqvAll]
  | p :: ps, q :: qs => by
    simp only [List.map_cons, PyData.eqvAll, he, eqvAll_of d he ps qs]
    by_cases h1 : p = q <;> by_cases h2 : ps = qs <;> simp [h1, h2]
/-- a kind of data: how it lies and how it compares -/
structure DatK (α : Type) where
  w : α → W
  d : α → PyData
  ok : α → Prop
  to : ∀ S a, ok a → toD S 6 (w a) = some (d a)
  eqv : [DecidableEq α] → ∀ a b, PyData.eqv (d a) (d b) = decide (a = b)
theorem toD_mono (S : Sto) : ∀ (n : Nat) (w : W) (d : PyData), toD S n w = some d → toD S (n + 1) w = some d
  | 0, w, d, h => by cases h
  | n + 1, w, d, h => by
    have key : ∀ (xs : List W) ds, mapO (toD S n) xs = some ds → mapO (toD S (n + 1)) xs = some ds := by
      intro xs
      induction xs with
      | nil => intro ds h; exact h
      | cons x xs ih =>
        intro ds h
        obtain ⟨d, h1, h⟩ := bindS h
        obtain ⟨ds', h2, h⟩ := bindS h
        cases h
        simp only [mapO, toD_mono S n x d h1, ih _ h2, Option.bind_some]
    cases w with
    | tup xs => obtain ⟨ds, h1, h2⟩ := bindS h; unfold toD; rw [key _ _ h1]; exact h2
    | fz xs => obtain ⟨ds, h1, h2⟩ := bindS h; unfold toD; rw [key _ _ h1]; exact h2
    | ref m =>
      unfold toD at h ⊢
      split at h
      · rename_i xs e
        obtain ⟨ds, h1, h2⟩ := bindS h
        rw [key _ _ h1]; exact h2
      · cases h
    | _ => exact h
theorem DatK.eqv_lists {α : Type} [DecidableEq α] (K : DatK α) {S : Sto} {n m : Nat} {ps qs : List α} (h1 : ∀ a ∈ ps, K.ok a) (h2 : ∀ a ∈ qs, K.ok a) (hn : S[n]? = some (.lst (ps.map K.w))) (hm : S[m]? = some (.lst (qs.map K.w))) : eqvW S (.ref n) (.ref m) = some (decide (ps = qs)) := by
  have e1 := mapO_of (f := toD S 7) K.w K.d ps fun a ha => toD_mono S 6 _ _ (K.to S a (h1 a ha))
  have e2 := mapO_of (f := toD S 7) K.w K.d qs fun a ha => toD_mono S 6 _ _ (K.to S a (h2 a ha))
  unfold eqvW
  rw [show toD S 8 (.ref n) = some (.list (ps.map K.d)) by unfold toD; rw [hn]; simp only [e1, Option.bind_some], show toD S 8 (.ref m) = some (.list (qs.map K.d)) by unfold toD; rw [hm]; simp only [e2, Option.bind_some]]
  simp only [Option.bind_some, PyData.eqv, eqvAll_of K.d K.eqv]
theorem DatK.ne_lists {α : Type} [DecidableEq α] (K : DatK α) {S : Sto} {n m : Nat} {ps qs : List α} (h1 : ∀ a ∈ ps, K.ok a) (h2 : ∀ a ∈ qs, K.ok a) (hn : S[n]? = some (.lst (ps.map K.w))) (hm : S[m]? = some (.lst (qs.map K.w))) : neW (.ref n) (.ref m) S = some (.bl (!decide (ps = qs)), S) := by
  simp only [neW, K.eqv_lists h1 h2 hn hm, Option.bind_some]
theorem DatK.eq_lists {α : Type} [DecidableEq α] (K : DatK α) {S : Sto} {n m : Nat} {ps qs : List α} (h1 : ∀ a ∈ ps, K.ok a) (h2 : ∀ a ∈ qs, K.ok a) (hn : S[n]? = some (.lst (ps.map K.w))) (hm : S[m]? = some (.lst (qs.map K.w))) : eqW (.ref n) (.ref m) S = some (.bl (decide (ps = qs)), S) := by
  simp only [eqW, K.eqv_lists h1 h2 hn hm, Option.bind_some]
theorem DatK.ne_one {α : Type} [DecidableEq α] (K : DatK α) {S : Sto} {a b : α} (h1 : K.ok a) (h2 : K.ok b) : neW (K.w a) (K.w b) S = some (.bl (!decide (a = b)), S) := by
  simp only [neW, eqvW, toD_mono S 7 _ _ (toD_mono S 6 _ _ (K.to S a h1)), toD_mono S 7 _ _ (toD_mono S 6 _ _ (K.to S b h2)), Option.bind_some, K.eqv]
theorem DatK.eq_one {α : Type} [DecidableEq α] (K : DatK α) {S : Sto} {a b : α} (h1 : K.ok a) (h2 : K.ok b) : eqW (K.w a) (K.w b) S = some (.bl (decide (a = b)), S) := by
  simp only [eqW, eqvW, toD_mono S 7 _ _ (toD_mono S 6 _ _ (K.to S a h1)), toD_mono S 7 _ _ (toD_mono S 6 _ _ (K.to S b h2)), Option.bind_some, K.eqv]
/-- a comprehension whose parts leave the store alone -/
theorem lcF_read {α : Type} {g : Ftg} {t : Ft} {f : Fe} {chk : Sto → Prop} {e : En} {S : Sto} (F : α → W) (en : α → En) (p : α → Bool) (v : α → W) (hc : ∀ L, chk (S ++ [.lst L])) :
    ∀ (as : List α) (acc : List W), (∀ a ∈ as, ∀ L, g (F a) e (S ++ [.lst L]) = some (en a, S ++ [.lst L])) → (∀ a ∈ as, ∀ L, t (en a) (S ++ [.lst L]) = some (p a, S ++ [.lst L])) → (∀ a ∈ as, p a = true → ∀ L, f (en a) (S ++ [.lst L]) = some (v a, S ++ [.lst L])) → acc.length + as.length < sizeLine →
      lcF g t f chk S.length e (as.map F) (S ++ [.lst acc]) = some (S ++ [.lst (acc ++ (as.filter p).map v)])
  | [], acc, _, _, _, _ => by simp only [List.map_nil, lcF_nil, if_pos (hc _), List.filter_nil, List.append_nil]
  | a :: as, acc, h1, h2, h3, hl => by
    have ih := fun acc' hl' => lcF_read F en p v hc as acc' (fun b hb => h1 b (List.mem_cons_of_mem _ hb)) (fun b hb => h2 b (List.mem_cons_of_mem _ hb)) (fun b hb => h3 b (List.mem_cons_of_mem _ hb)) hl'
    rw [List.map_cons, lcF_cons, if_pos (hc _), h1 a (List.mem_cons_self ..)]
    simp only [Option.bind_some]
    rw [h2 a (List.mem_cons_self ..)]
    simp only [Option.bind_some]
    simp only [List.length_cons] at hl
    by_cases hp : p a = true
    · rw [if_pos hp, h3 a (List.mem_cons_self ..) hp]
      simp only [Option.bind_some]
      rw [show (S ++ [O.lst acc])[S.length]? = some (.lst acc) by simp]
      simp only
      rw [if_pos (by omega), show (S ++ [O.lst acc]).set S.length (.lst (acc ++ [v a])) = S ++ [.lst (acc ++ [v a])] by simp, ih _ (by simp only [List.length_append, List.length_cons, List.length_nil]; omega), List.filter_cons_of_pos hp, List.map_cons, List.append_assoc]
      rfl
    · rw [if_neg hp, ih _ (by omega), List.filter_cons_of_neg hp]
theorem elc_read {α : Type} {it : Fi} {g : Ftg} {t : Ft} {f : Fe} {vs : List Nat} {e : En} {S S' : Sto} {chk : Sto → Prop} (F : α → W) (en : α → En) (p : α → Bool) (v : α → W) (as : List α) (hi : it e S = some (⟨as.map F, chk⟩, S')) (hc : ∀ L, chk (S' ++ [.lst L])) (h1 : ∀ a ∈ as, ∀ L, g (F a) (wipeW e vs) (S' ++ [.lst L]) = some (en a, S' ++ [.lst L])) (h2 : ∀ a ∈ as, ∀ L, t (en a) (S' ++ [.lst L]) = some (p a, S' ++ [.lst L])) (h3 : ∀ a ∈ as, p a = true → ∀ L, f (en a) (S' ++ [.lst L]) = some (v a, S' ++ [.lst L])) (hl : as.length < sizeLine) :
    eLc it g t f vs e S = some (.ref S'.length, S' ++ [.lst ((as.filter p).map v)]) := by
  unfold eLc
  rw [hi]
  simp only [Option.bind_some]
  rw [lcF_read F en p v hc as [] h1 h2 h3 (by simpa using hl)]
  simp only [Option.bind_some, List.nil_append]
theorem elc_pure {α : Type} {it : Fi} {g : Ftg} {t : Ft} {f : Fe} {vs : List Nat} {e : En} {S S' : Sto} {chk : Sto → Prop} (F : α → W) (en : α → En) (p : α → Bool) (v : α → W) (as : List α) (hi : it e S = some (⟨as.map F, chk⟩, S')) (hc : ∀ L, chk (S' ++ [.lst L])) (h1 : ∀ a ∈ as, ∀ S, g (F a) (wipeW e vs) S = some (en a, S)) (h2 : ∀ a ∈ as, ∀ S, t (en a) S = some (p a, S)) (h3 : ∀ a ∈ as, p a = true → ∀ S, f (en a) S = some (v a, S)) (hl : as.length < sizeLine) :
    eLc it g t f vs e S = some (.ref S'.length, S' ++ [.lst ((as.filter p).map v)]) :=
  elc_read F en p v as hi hc (fun a ha _ => h1 a ha _) (fun a ha _ => h2 a ha _) (fun a ha hp _ => h3 a ha hp _) hl
theorem iSeq_ref {f : Fe} {e : En} {S S' : Sto} {n : Nat} {xs : List W} (h : f e S = some (.ref n, S')) (hn : S'[n]? = some (.lst xs)) : iSeq f e S = some (⟨xs, fun S => S[n]? = some (.lst xs)⟩, S') := by
  unfold iSeq
  rw [h]
  simp only [Option.bind_some, hn]
theorem chk_app {S : Sto} {n : Nat} {xs : List W} (hn : S[n]? = some (.lst xs)) (L : Sto) : (S ++ L)[n]? = some (.lst xs) := by
  have hl : n < S.length := (List.getElem?_eq_some_iff.mp hn).1
  rw [List.getElem?_append_left hl]; exact hn
/-- a loop that goes through, by what holds ahead of each turn -/
theorem for_inv {g : Ftg} {b : Fs} {chk : Sto → Prop} (I : Nat → En → Sto → Prop) (hc : ∀ i e S, I i e S → chk S) : ∀ (xs : List W) (i : Nat) (e : En) (S : Sto),
    (∀ (j : Nat) (x : W) e S, xs[j]? = some x → I (i + j) e S → ∃ e1 S1 e2 S2, g x e S = some (e1, S1) ∧ b e1 S1 = some (.next e2, S2) ∧ I (i + j + 1) e2 S2) → I i e S → ∃ e' S', forF g b chk xs e S = some (.next e', S') ∧ I (i + xs.length) e' S'
  | [], i, e, S, _, h => ⟨e, S, by rw [forF_nil, if_pos (hc _ _ _ h)], h⟩
  | x :: xs, i, e, S, hs, h => by
    obtain ⟨e1, S1, e2, S2, q1, q2, q3⟩ := hs 0 x e S rfl h
    obtain ⟨e', S', q4, q5⟩ := for_inv I hc xs (i + 1) e2 S2 (fun j x e S hx hI => by
      have := hs (j + 1) x e S hx (by rw [show i + (j + 1) = i + 1 + j by omega]; exact hI)
      rw [show i + (j + 1) + 1 = i + 1 + j + 1 by omega] at this
      exact this) q3
    refine ⟨e', S', ?_, ?_⟩
    · rw [forF_cons, if_pos (hc _ _ _ h), q1]
      simp only [Option.bind_some]
      rw [q2]
      simp only [Option.bind_some]
      exact q4
    · rw [List.length_cons, show i + (xs.length + 1) = i + 1 + xs.length by omega]; exact q5
theorem ix_at {S : Sto} {n i : Nat} {xs : List W} {v : W} (h : S[n]? = some (.lst xs)) (hv : xs[i]? = some v) : ixW (.ref n) (.int (i : Nat)) S = some (v, S) := by
  simp only [ixW, seqOf, h, Option.bind_some, atI_nat hv]
end Bp

/-! Mt7: hits as data; how far apart they lie; the first N and those behind. -/
namespace Bp
set_option autoImplicit false
open PySem
theorem strOk_names : ∀ s ∈ (["", "L", "R"] : List Str), ∀ t ∈ (["", "B", "T"] : List Str), PyData.strOk (s ++ t) = true := by decide +kernel
theorem lt_mem (lo hi : Str) (a m p : Int) : lt lo hi a m p ∈ (["", lo, hi] : List Str) := by
  unfold lt
  repeat' split
  all_goals simp
theorem name_ok (k : WalkD) (t : Nat) : PyData.strOk (k.name t) = true := strOk_names _ (lt_mem ..) _ (lt_mem ..)
def hitD (p : (Int × Int) × Str) : PyData := .tuple [.tuple [.int p.1.1, .int p.1.2], .str p.2]
def hitK : DatK ((Int × Int) × Str) where
  w := hitW
  d := hitD
  ok := fun p => PyData.strOk p.2 = true
  to := fun S p h => by simp [hitW, fr, toD, mapO, h, hitD]
  eqv := fun p q => by
    obtain ⟨⟨a, b⟩, s⟩ := p; obtain ⟨⟨c, d⟩, t⟩ := q
    simp only [hitD, PyData.eqv, PyData.eqvAll, Bool.and_true]
    by_cases h1 : a = c <;> by_cases h2 : b = d <;> by_cases h3 : s = t <;> simp [h1, h2, h3]
def RunD.hts (r : RunD) (n : Nat) : List ((Int × Int) × Str) := (List.range n).map r.hit
theorem RunD.hits_hts (r : RunD) (n : Nat) : r.hits n = (r.hts n).map hitK.w := by
  unfold RunD.hits RunD.hts
  rw [List.map_map]
  rfl
theorem hts_ok {r : RunD} {U : Int} {T : Nat → Nat} (h : HitT r U T) (n : Nat) : ∀ p ∈ r.hts n, hitK.ok p := by
  intro p hp
  obtain ⟨i, _, rfl⟩ := List.mem_map.mp hp
  show PyData.strOk (r.hit i).2 = true
  rw [h.hit i]
  exact name_ok ..
/-- a wall lies in each stretch of m * U parts -/
theorem wall_within {x a m U : Int} (hm : 0 < m) (hU : 0 < U) (ha : a ≠ 0) (hd : a ∣ U) (t : Nat) : ∃ v : Nat, t < v ∧ (v : Int) ≤ t + m * U ∧ m * U ∣ x * U + a * (v : Int) := by
  obtain ⟨c, hc⟩ := hd
  have c0 : c ≠ 0 := fun z => by rw [z] at hc; simp at hc; omega
  have mc : m * c ≠ 0 := Int.mul_ne_zero (by omega) c0
  have cU : (m * c).natAbs ≤ (m * U).natAbs := by
    rw [hc, Int.natAbs_mul, Int.natAbs_mul, Int.natAbs_mul]
    have : 1 * c.natAbs ≤ a.natAbs * c.natAbs := Nat.mul_le_mul_right _ (by omega)
    exact Nat.mul_le_mul_left _ (by omega)
  have mU : 0 < m * U := Int.mul_pos hm hU
  have M0 : ((m * c).natAbs : Int) ≠ 0 := by omega
  have r0 := Int.emod_nonneg (x * c + t) M0
  have r1 := Int.emod_lt_of_pos (x * c + t) (show 0 < ((m * c).natAbs : Int) by omega)
  have dv : ((m * c).natAbs : Int) ∣ (x * c + t) - (x * c + t) % ((m * c).natAbs : Int) := Int.dvd_self_sub_emod
  generalize hr : (x * c + t) % ((m * c).natAbs : Int) = rr at *
  refine ⟨(t + (m * c).natAbs - rr).toNat, by omega, by omega, ?_⟩
  rw [show (((t + ((m * c).natAbs : Int) - rr).toNat : Nat) : Int) = t + ((m * c).natAbs : Int) - rr by omega]
  have e : x * U + a * (t + ((m * c).natAbs : Int) - rr) = a * ((x * c + t - rr) + ((m * c).natAbs : Int)) := by rw [hc]; grind
  rw [e, show m * U = a * (m * c) by rw [hc]; grind]
  apply Int.mul_dvd_mul (Int.dvd_refl a)
  have d2 : (m * c) ∣ ((m * c).natAbs : Int) := Int.dvd_natAbs.mpr (Int.dvd_refl _)
  exact Int.dvd_add (Int.dvd_trans d2 dv) d2
theorem HitT.gap {r : RunD} {U : Int} {T : Nat → Nat} (h : HitT r U T) (ok : r.Ok) (u : UOk r U) (i : Nat) : (T (i + 1) : Int) ≤ T i + 12 * U := by
  have ok' : okRun r.w r.h r.x r.y r.a r.b := ok
  obtain ⟨h1, h2, h3, h4, h5, h6, h7⟩ := ok'
  have key : ∀ (v : Nat), T i < v → (r.wk U).name v ≠ "" → T (i + 1) ≤ v := fun v q1 q2 => by
    by_cases q : T (i + 1) ≤ v
    · exact q
    · exact absurd (h.off i v q1 (by omega)) q2
  have hU := u.pos
  have m1 : r.w * U ≤ 12 * U := Int.mul_le_mul_of_nonneg_right (by omega) (by omega)
  have m2 : r.h * U ≤ 12 * U := Int.mul_le_mul_of_nonneg_right (by omega) (by omega)
  by_cases ha : r.a = 0
  · have hb : r.b ≠ 0 := fun z => h7 ⟨ha, z⟩
    obtain ⟨v, v1, v2, v3⟩ := wall_within (x := r.y) (m := r.h) (by omega) u.pos hb (u.db hb) (T i)
    have := key v v1 fun z => ((name_empty ok u v).mp z).2 ⟨hb, v3⟩
    omega
  · obtain ⟨v, v1, v2, v3⟩ := wall_within (x := r.x) (m := r.w) (by omega) u.pos ha (u.da ha) (T i)
    have := key v v1 fun z => ((name_empty ok u v).mp z).1 ⟨ha, v3⟩
    omega
theorem HitT.far {r : RunD} {U : Int} {T : Nat → Nat} (h : HitT r U T) (ok : r.Ok) (u : UOk r U) : ∀ i, (T i : Int) ≤ (i : Int) * (12 * U)
  | 0 => by rw [h.zero]; simp
  | i + 1 => by
    have := h.far ok u i
    have := h.gap ok u i
    have e : ((i + 1 : Nat) : Int) * (12 * U) = (i : Int) * (12 * U) + 12 * U := by
      rw [show ((i + 1 : Nat) : Int) = (i : Int) + 1 by omega]; grind
    omega
/-- the ones not behind P, out of the first n -/
theorem HitT.upto {r : RunD} {U : Int} {T : Nat → Nat} (h : HitT r U T) {P N : Nat} (h1 : T N ≤ P) (h2 : P < T (N + 1)) (n : Nat) : (List.range n).filter (fun i => decide (T (i + 1) ≤ P)) = List.range (min n N) := by
  have iff : ∀ i, T (i + 1) ≤ P ↔ i < N := fun i => by
    constructor
    · intro q
      by_cases e : i < N
      · exact e
      · by_cases e2 : i = N
        · subst e2; omega
        · have := h.mono (i := N + 1) (j := i + 1) (by omega); omega
    · intro q
      by_cases e : i + 1 = N
      · rw [e]; exact h1
      · have := h.mono (i := i + 1) (j := N) (by omega); omega
  induction n with
  | zero => simp
  | succ n ih =>
    rw [List.range_succ, List.filter_append, ih]
    by_cases q : n < N
    · rw [show min (n + 1) N = n + 1 by omega, show min n N = n by omega, List.range_succ]
      congr 1
      simp [iff, q]
    · rw [show min (n + 1) N = N by omega, show min n N = N by omega]
      simp [iff, q]
/-- a hit lies not behind a time of P parts -/
theorem le_low {m n U p q : Int} (hU : 0 < U) (hq : 0 < q) (h : p * U = q * n) : (low m U).1 * q ≤ p * (low m U).2 ↔ m ≤ n := by
  obtain ⟨s1, s2, _⟩ := low_spec (n := m) hU
  generalize low m U = R at *
  obtain ⟨a, b⟩ := R
  simp only at *
  -- m * b = a * U ; a q ≤ p b ⟺ a U q ≤ p U b ⟺ m b q ≤ q n b
  have e1 : (a * q) * U = (b * q) * m := by rw [show a * q * U = q * (a * U) by grind, ← s2]; grind
  have e2 : (p * b) * U = (b * q) * n := by rw [show p * b * U = b * (p * U) by grind, h]; grind
  have bq : 0 < b * q := Int.mul_pos s1 hq
  constructor
  · intro z
    have := Int.mul_le_mul_of_nonneg_right z (Int.le_of_lt hU)
    rw [e1, e2] at this
    exact Int.le_of_mul_le_mul_left this bq
  · intro z
    have := Int.mul_le_mul_of_nonneg_left z (Int.le_of_lt bq)
    rw [← e1, ← e2] at this
    exact Int.le_of_mul_le_mul_right this hU
theorem low_add {m n U p q : Int} (hU : 0 < U) (hq : 0 < q) (h : p * U = q * n) : low ((low m U).1 * q + p * (low m U).2) ((low m U).2 * q) = low (m + n) U := by
  obtain ⟨s1, s2, _⟩ := low_spec (n := m) hU
  generalize low m U = R at *
  obtain ⟨a, b⟩ := R
  simp only at *
  refine low_eq (Int.mul_pos s1 hq) hU ?_
  rw [show (a * q + p * b) * U = q * (a * U) + b * (p * U) by grind, ← s2, h]
  grind
end Bp

/-! Mt8: a run with its unit, the parts of its hits and of its period. -/
namespace Bp
set_option autoImplicit false
open PySem
def RunD.per (r : RunD) : Int × Int := Bp.per r.w r.h r.a r.b
structure RunT (r : RunD) (U : Int) (T : Nat → Nat) (P : Nat) : Prop where
  ok : r.Ok
  u : UOk r U
  t : HitT r U T
  e : r.per.1 * U = r.per.2 * (P : Int)
  rd : Round (r.wk U) P
  p1 : 0 < r.per.1
  p2 : 0 < r.per.2
theorem runT {r : RunD} (ok : r.Ok) {U : Int} (u : UOk r U) : ∃ T P, RunT r U T P := by
  obtain ⟨T, hT⟩ := hitT ok u
  obtain ⟨p1, p2, _, _⟩ := per_mul (show okRun r.w r.h r.x r.y r.a r.b from ok)
  obtain ⟨c, hc⟩ := per_dvd (u := U) (show okRun r.w r.h r.x r.y r.a r.b from ok) u.da u.db
  have e : r.per.1 * U = r.per.2 * (r.per.1 * c) := by
    show (Bp.per r.w r.h r.a r.b).1 * U = (Bp.per r.w r.h r.a r.b).2 * ((Bp.per r.w r.h r.a r.b).1 * c)
    rw [hc]; grind
  obtain ⟨Tp, rd⟩ := run_round (show okRun r.w r.h r.x r.y r.a r.b from ok) u.pos u.da u.db e
  refine ⟨T, (r.per.1 * c).toNat, ok, u, hT, ?_, rd, p1, p2⟩
  have Tp' : 0 < r.per.1 * c := Tp
  rw [show (((r.per.1 * c).toNat : Nat) : Int) = r.per.1 * c by omega]
  exact e
theorem hits_at {r : RunD} (ok : r.Ok) (n : Nat) (h : n ≤ 300) (S : Sto) : G_hits [r.W, .int (n : Nat)] S = some (.ref S.length, S ++ [.lst ((r.hts n).map hitK.w)]) := by
  have ok' : okRun r.w r.h r.x r.y r.a r.b := ok
  have h' : 0 ≤ ((n : Nat) : Int) ∧ ((n : Nat) : Int) ≤ 300 := by omega
  simp only [G_hits, ok', h', and_self, if_true, Int.toNat_natCast, RunD.hits_hts]
theorem period_at {r : RunD} (ok : r.Ok) (S : Sto) : G_period [r.W] S = some (fr r.per, S) := by
  have ok' : okRun r.w r.h r.x r.y r.a r.b := ok
  simp only [G_period, ok', if_true]
  rfl
theorem law_low_at {n d : Int} (h : d ≠ 0) (h2 : d.natAbs < 2 ^ 64) (S : Sto) : G__law_low [.int n, .int d] S = some (fr (low n d), S) := by
  have b := big_lt h2
  simp only [G__law_low, ne_eq, h, not_false_eq_true, b, and_self, if_true]
theorem hts_get (r : RunD) {n i : Nat} (h : i < n) : (r.hts n)[i]? = some (r.hit i) := by
  unfold RunD.hts
  rw [List.getElem?_map, List.getElem?_range h]
  rfl
theorem hts_take (r : RunD) {n k : Nat} (h : k ≤ n) : (r.hts n).take k = r.hts k := by
  unfold RunD.hts
  rw [← List.map_take, List.take_range, Nat.min_eq_left h]
theorem hts_len (r : RunD) (n : Nat) : (r.hts n).length = n := by simp [RunD.hts]
theorem intsW_get {lo : Int} {n j : Nat} {x : W} (h : (intsW lo n)[j]? = some x) : j < n ∧ x = .int (lo + (j : Int)) := by
  unfold intsW at h
  rw [List.getElem?_map] at h
  by_cases q : j < n
  · rw [List.getElem?_range q] at h
    cases h
    exact ⟨q, rfl⟩
  · rw [List.getElem?_eq_none (by simp; omega)] at h
    cases h
theorem intsW_len (lo : Int) (n : Nat) : (intsW lo n).length = n := by simp [intsW]
end Bp

/-! Pg6: whole_solution, earliest, least. -/
namespace Bp
set_option autoImplicit false
open PySem L2
/-! ### whole_solution -/
def wsG (f m : Int) : Int := (Int.gcd f m : Nat)
def wsS (f m : Int) : Int := m / wsG f m
def wsP (f r m : Int) (k : Nat) : Bool := decide ((f * (k : Int) - r) % m = 0)
def wsK (f r m : Int) : Option Nat := (List.range (wsS f m).toNat).find? (wsP f r m)
def wsol (f r m s : Int) : Option Int := if r % wsG f m = 0 then (wsK f r m).map fun k : Nat => s + ((k : Int) - s) % wsS f m else none
theorem bezout : ∀ a b : Nat, ∃ x y : Int, ((Nat.gcd a b : Nat) : Int) = a * x + b * y := by
  intro a b
  induction a, b using Nat.gcd.induction with
  | H0 n => exact ⟨0, 1, by simp⟩
  | H1 m n hm ih =>
    obtain ⟨x, y, h⟩ := ih
    refine ⟨y - (n / m : Nat) * x, x, ?_⟩
    rw [Nat.gcd_rec, h]
    have : ((n % m : Nat) : Int) = (n : Int) - (m : Int) * ((n / m : Nat) : Int) := by
      have := Nat.div_add_mod n m
      have e : ((m * (n / m) : Nat) : Int) = (m : Int) * ((n / m : Nat) : Int) := Int.natCast_mul ..
      omega
    rw [this]; grind
theorem bezoutI (a b : Int) : ∃ x y : Int, ((Int.gcd a b : Nat) : Int) = a * x + b * y := by
  obtain ⟨x, y, h⟩ := bezout a.natAbs b.natAbs
  have ha : ∃ s : Int, ((a.natAbs : Nat) : Int) = a * s := by
    by_cases q : 0 ≤ a
    · exact ⟨1, by omega⟩
    · exact ⟨-1, by omega⟩
  have hb : ∃ s : Int, ((b.natAbs : Nat) : Int) = b * s := by
    by_cases q : 0 ≤ b
    · exact ⟨1, by omega⟩
    · exact ⟨-1, by omega⟩
  obtain ⟨s, hs⟩ := ha
  obtain ⟨t, ht⟩ := hb
  refine ⟨s * x, t * y, ?_⟩
  show ((Nat.gcd a.natAbs b.natAbs : Nat) : Int) = _
  rw [h, hs, ht]; grind
theorem wsG_pos {f m : Int} (hm : 0 < m) : 0 < wsG f m := by
  have := gcd_pos (n := f) (d := m) (by omega)
  unfold wsG; omega
theorem wsS_mul {f m : Int} (hm : 0 < m) : wsS f m * wsG f m = m ∧ 0 < wsS f m := by
  have g := wsG_pos (f := f) hm
  have e : wsS f m * wsG f m = m := Int.ediv_mul_cancel (Int.gcd_dvd_right ..)
  refine ⟨e, Int.pos_of_mul_pos_left (b := wsG f m) (by rw [e]; exact hm) g⟩
theorem wsS_le {f m : Int} (hm : 0 < m) : wsS f m ≤ m := Int.ediv_le_self _ (by omega)
/-- the step does nothing by the modulus -/
theorem ws_step {f m : Int} (hm : 0 < m) (j : Int) : m ∣ f * (wsS f m * j) := by
  obtain ⟨e, _⟩ := wsS_mul (f := f) hm
  obtain ⟨c, hc⟩ : wsG f m ∣ f := Int.gcd_dvd_left ..
  refine ⟨c * j, ?_⟩
  have : f * (wsS f m * j) = (wsS f m * wsG f m) * (c * j) := by
    conv => lhs; rw [hc]
    grind
  rw [this, e]
theorem ws_step_inv {f m d : Int} (hm : 0 < m) (h : m ∣ f * d) : wsS f m ∣ d := by
  obtain ⟨e, p⟩ := wsS_mul (f := f) hm
  have g := wsG_pos (f := f) hm
  obtain ⟨x, y, b⟩ := bezoutI f m
  have b' : wsG f m = f * x + m * y := b
  -- g d = f d x + m y d, so m | g d
  obtain ⟨z, hz⟩ := h
  have : wsS f m * wsG f m ∣ d * wsG f m := by
    rw [e, b']
    exact ⟨z * x + y * d, by
      have : d * (f * x + m * y) = (f * d) * x + m * (y * d) := by grind
      rw [this, hz]; grind⟩
  exact Int.dvd_of_mul_dvd_mul_right (by omega) this
theorem wsK_some {f r m : Int} (hm : 0 < m) (h : r % wsG f m = 0) : ∃ k : Nat, wsK f r m = some k ∧ m ∣ f * (k : Int) - r := by
  obtain ⟨e, p⟩ := wsS_mul (f := f) hm
  obtain ⟨c, hc⟩ := Int.dvd_of_emod_eq_zero h
  obtain ⟨x, y, b⟩ := bezoutI f m
  have b' : wsG f m = f * x + m * y := b
  have n0 := Int.emod_nonneg (x * c) (show wsS f m ≠ 0 by omega)
  have n1 := Int.emod_lt_of_pos (x * c) p
  have key : m ∣ f * ((x * c) % wsS f m) - r := by
    have e1 : (x * c) % wsS f m = x * c - wsS f m * ((x * c) / wsS f m) := Int.emod_def ..
    obtain ⟨z, hz⟩ := ws_step (f := f) hm ((x * c) / wsS f m)
    refine ⟨-(y * c) - z, ?_⟩
    rw [e1, Int.mul_sub, hz, hc, b']; grind
  cases hk : wsK f r m with
  | none =>
    have := (List.find?_eq_none.mp hk) ((x * c) % wsS f m).toNat (List.mem_range.mpr (by omega))
    rw [wsP, show ((((x * c) % wsS f m).toNat : Nat) : Int) = (x * c) % wsS f m by omega] at this
    simp only [decide_eq_true_eq] at this
    exact absurd (Int.emod_eq_zero_of_dvd key) this
  | some k =>
    have := List.find?_some hk
    unfold wsP at this
    simp only [decide_eq_true_eq] at this
    exact ⟨k, rfl, Int.dvd_of_emod_eq_zero this⟩
theorem wsol_none {f r m s : Int} (hm : 0 < m) (h : wsol f r m s = none) (n : Int) : ¬ m ∣ f * n - r := by
  intro hd
  unfold wsol at h
  split at h
  · rename_i q
    obtain ⟨k, hk, _⟩ := wsK_some hm q
    rw [hk] at h
    cases h
  · rename_i q
    apply q
    apply Int.emod_eq_zero_of_dvd
    have g1 : wsG f m ∣ f := Int.gcd_dvd_left ..
    have g2 : wsG f m ∣ m := Int.gcd_dvd_right ..
    have := Int.dvd_sub (Int.dvd_trans g1 (Int.dvd_mul_right f n)) (Int.dvd_trans g2 hd)
    rw [show f * n - (f * n - r) = r by omega] at this
    exact this
theorem wsol_some {f r m s n : Int} (hm : 0 < m) (h : wsol f r m s = some n) : s ≤ n ∧ m ∣ f * n - r ∧ ∀ n', s ≤ n' → m ∣ f * n' - r → n ≤ n' := by
  obtain ⟨e, p⟩ := wsS_mul (f := f) hm
  unfold wsol at h
  split at h
  · rename_i q
    obtain ⟨k, hk, kd⟩ := wsK_some hm q
    rw [hk] at h
    have h : s + ((k : Int) - s) % wsS f m = n := Option.some.inj h
    subst h
    have n0 := Int.emod_nonneg ((k : Int) - s) (show wsS f m ≠ 0 by omega)
    refine ⟨by omega, ?_, fun n' h1 h2 => ?_⟩
    · have e1 : ((k : Int) - s) % wsS f m = ((k : Int) - s) - wsS f m * (((k : Int) - s) / wsS f m) := Int.emod_def ..
      have z := Int.dvd_sub kd (ws_step (f := f) hm (((k : Int) - s) / wsS f m))
      rw [e1]
      have : f * (s + ((k : Int) - s - wsS f m * (((k : Int) - s) / wsS f m))) - r = f * (k : Int) - r - f * (wsS f m * (((k : Int) - s) / wsS f m)) := by grind
      rw [this]; exact z
    · have d : m ∣ f * (n' - (k : Int)) := by
        have := Int.dvd_sub h2 kd
        rw [show f * n' - r - (f * (k : Int) - r) = f * (n' - (k : Int)) by grind] at this
        exact this
      have d2 := ws_step_inv hm d
      have e2 : (n' - s) % wsS f m = ((k : Int) - s) % wsS f m := by
        apply Int.emod_eq_emod_iff_emod_sub_eq_zero.mpr
        rw [show n' - s - ((k : Int) - s) = n' - (k : Int) by omega]
        exact Int.emod_eq_zero_of_dvd d2
      have e3 : (n' - s) % wsS f m = (n' - s) - wsS f m * ((n' - s) / wsS f m) := Int.emod_def ..
      have := Int.mul_nonneg (Int.le_of_lt p) (Int.ediv_nonneg (a := n' - s) (by omega) (Int.le_of_lt p))
      omega
  · cases h
/-! ### its walk -/
/-- whole_solution(factor, rest, modulus, start); slots 0:factor 1:rest 2:modulus 3:start 4:common 5:step 6:known 7:k -/
noncomputable def b_whole_solution : Fs := sSeq (sAsg (eCall G_common_of (aCons (eVar 0) (aCons (eVar 2) (aNil)))) (gN 4)) (sSeq (sIf (tVal (eOp neW (eOp modW (eVar 1) (eVar 4)) (eC (.int 0)))) (sRet (eC .non)) (sNext)) (sSeq (sAsg (eOp fdivW (eVar 2) (eVar 4)) (gN 5)) (sSeq (sAsg (eLc (iRange1 (aCons (eVar 5) (aNil))) (gN 7) (tVal (eOp eqW (eOp modW (eOp subW (eOp mulW (eVar 0) (eVar 7)) (eVar 1)) (eVar 2)) (eC (.int 0)))) (eVar 7) [7]) (gN 6)) (sRet (eOp addW (eVar 3) (eOp modW (eOp subW (eOp ixW (eVar 6) (eC (.int 0))) (eVar 3)) (eVar 5)))))))
def ownI : Option Int → W
  | some i => .int i
  | none => .non
def okWs (f r m s : Int) : Prop := 0 < m ∧ m < 2 ^ 20 ∧ f.natAbs < 2 ^ 20 ∧ r.natAbs < 2 ^ 20 ∧ s.natAbs < 2 ^ 20
instance (f r m s : Int) : Decidable (okWs f r m s) := inferInstanceAs (Decidable (_ ∧ _))
def G_whole_solution : Fn
  | [.int f, .int r, .int m, .int s], S => if okWs f r m s then some (ownI (wsol f r m s), S) else none
  | _, _ => none
theorem t_whole_solution : Tells 8 b_whole_solution G_whole_solution := by
  intro ws S r hh
  unfold b_whole_solution
  unfold G_whole_solution at hh
  split at hh
  · split at hh
    · rename_i f r m s hb
      cases hh
      obtain ⟨m0, m1, f1, r1, s1⟩ := hb
      have mb : m.natAbs < big := big_lt (by omega)
      have gp := wsG_pos (f := f) m0
      obtain ⟨se, sp⟩ := wsS_mul (f := f) m0
      have sl := wsS_le (f := f) m0
      have gl : wsG f m ≤ m := Int.le_of_dvd m0 (Int.gcd_dvd_right ..)
      have ge : ((Int.gcd f m : Nat) : Int) = wsG f m := rfl
      have g0 : ¬ wsG f m = 0 := by omega
      have rm : Int.fmod r (wsG f m) = r % wsG f m := Int.fmod_eq_emod_of_nonneg _ (by omega)
      have md : Int.fdiv m (wsG f m) = wsS f m := Int.fdiv_eq_ediv_of_nonneg _ (by omega)
      have od : okDiv (wsG f m) := okDiv_of g0 (big_lt (by omega))
      by_cases q : r % wsG f m = 0
      · obtain ⟨k, hk, kd⟩ := wsK_some m0 q
        have hw : wsol f r m s = some (s + ((k : Int) - s) % wsS f m) := by unfold wsol; rw [if_pos q, hk]; rfl
        rw [hw]
        have fil : ∃ tl, (List.range (wsS f m).toNat).filter (wsP f r m) = k :: tl := by
          have h1 : ((List.range (wsS f m).toNat).filter (wsP f r m)).head? = some k := by rw [List.head?_filter]; exact hk
          cases hl : (List.range (wsS f m).toNat).filter (wsP f r m) with
          | nil => rw [hl] at h1; cases h1
          | cons a tl => rw [hl] at h1; cases h1; exact ⟨tl, rfl⟩
        obtain ⟨tl, fil⟩ := fil
        have it : iRange1 (aCons (eVar 5) (aNil)) [some (.int f), some (.int r), some (.int m), some (.int s), some (.int (wsG f m)), some (.int (wsS f m)), none, none] S = some (⟨intsW 0 (wsS f m).toNat, fun _ => True⟩, S) := range1_of (j := wsS f m) rfl (by omega)
        have iw : intsW 0 (wsS f m).toNat = (List.range (wsS f m).toNat).map fun i => W.int (i : Nat) := by
          unfold intsW
          apply List.map_congr_left
          intro i _
          rw [Int.zero_add]
        rw [iw] at it
        have lc := elc_pure (g := gN 7) (t := tVal (eOp eqW (eOp modW (eOp subW (eOp mulW (eVar 0) (eVar 7)) (eVar 1)) (eVar 2)) (eC (.int 0)))) (f := eVar 7) (vs := [7]) (fun i : Nat => W.int (i : Nat)) (fun i => [some (.int f), some (.int r), some (.int m), some (.int s), some (.int (wsG f m)), some (.int (wsS f m)), none, some (.int (i : Nat))]) (wsP f r m) (fun i => W.int (i : Nat)) (List.range (wsS f m).toNat) it (fun _ => trivial) (fun _ _ _ => rfl) (fun i _ S => by
            have k1 : okMul f (i : Nat) := .inl (by omega)
            have m0' : ¬ m = 0 := by omega
            have fe : Int.fmod (f * ((i : Nat) : Int) - r) m = (f * ((i : Nat) : Int) - r) % m := Int.fmod_eq_emod_of_nonneg _ (by omega)
            simp only [tVal, eOp, eVar, eC, List.getElem?_cons_zero, List.getElem?_cons_succ, Option.bind_some, mulW, k1, if_true, subW, iop0, modW, iop, ne_eq, m0', not_false_eq_true, fe, eq_int, wsP]) (fun _ _ _ _ => rfl) (by rw [List.length_range]; exact Nat.lt_of_le_of_lt (show (wsS f m).toNat ≤ 1048576 by omega) (by decide))
        rw [fil] at lc
        refine ⟨(.int (s + ((k : Int) - s) % wsS f m), S ++ [.lst ((k :: tl).map fun i => W.int (i : Nat))]), fnB_ret ?_, .val _ _ (by simp [below])⟩
        have s0' : ¬ wsS f m = 0 := by omega
        have fe : Int.fmod ((k : Int) - s) (wsS f m) = ((k : Int) - s) % wsS f m := Int.fmod_eq_emod_of_nonneg _ (by omega)
        refine' seq_trans (e' := [some (.int f), some (.int r), some (.int m), some (.int s), some (.int (wsG f m)), none, none, none]) (S' := S) _ _
        · clear lc it iw fil hk hw se md rm
          simp only [fnB, en, List.map_cons, List.map_nil, List.length_cons, List.length_nil, List.replicate_succ, List.replicate_zero, List.cons_append, List.nil_append, List.append_nil, List.getElem?_cons_zero, List.getElem?_cons_succ, List.set_cons_zero, List.set_cons_succ,  Nat.zero_add, Nat.reduceAdd, Nat.reduceSub, Nat.sub_self, Nat.reduceEqDiff,  eVar, eC, eOp, eUn, aNil, aCons, eTup, eLst, eCall, eIf, eAnd, eOr, eNot, tVal, tAndW, tOrW, tNotW, eChain, sNext, sBrk, sCnt, sNever, sSeq, sRet, sRetN, sDrop, sIf, sAsg, sPar, sPar3, gN, gsNil, gsCons, gTupW, Option.bind_some, Option.bind_none,  s0, s1, s2, s3, s4, s6, subW, ltW, leW, gtW, geW, iop0, iop, modW, fdivW, powW, addW, mulW, negW, isi_int_int, isi_int_bool, isi_bl_int, isi_bl_bool, isi_non_int, isi_str_int, isi_tup_int, isi_tup_tup, eq_int, ne_int, len_p, len_6, len_l1, decide_true, decide_false, Int.reduceEq, Int.reduceNeg, absW, minW, ix_p0, ix_p1, ix_r0, ix_r1, ix_r2, ix_r3, ix_r4, ix_r5, if_true, if_false, ite_true, ite_false, Bool.not_true, Bool.not_false, Bool.false_eq_true, reduceIte, ↓reduceIte, G_common_of, ne_eq, not_false_eq_true, and_self, and_false, false_and, true_and, and_true, *]
        refine' seq_trans (e' := [some (.int f), some (.int r), some (.int m), some (.int s), some (.int (wsG f m)), none, none, none]) (S' := S) _ _
        · clear lc it iw fil hk hw se
          simp only [fnB, en, List.map_cons, List.map_nil, List.length_cons, List.length_nil, List.replicate_succ, List.replicate_zero, List.cons_append, List.nil_append, List.append_nil, List.getElem?_cons_zero, List.getElem?_cons_succ, List.set_cons_zero, List.set_cons_succ,  Nat.zero_add, Nat.reduceAdd, Nat.reduceSub, Nat.sub_self, Nat.reduceEqDiff,  eVar, eC, eOp, eUn, aNil, aCons, eTup, eLst, eCall, eIf, eAnd, eOr, eNot, tVal, tAndW, tOrW, tNotW, eChain, sNext, sBrk, sCnt, sNever, sSeq, sRet, sRetN, sDrop, sIf, sAsg, sPar, sPar3, gN, gsNil, gsCons, gTupW, Option.bind_some, Option.bind_none,  s0, s1, s2, s3, s4, s6, subW, ltW, leW, gtW, geW, iop0, iop, modW, fdivW, powW, addW, mulW, negW, isi_int_int, isi_int_bool, isi_bl_int, isi_bl_bool, isi_non_int, isi_str_int, isi_tup_int, isi_tup_tup, eq_int, ne_int, len_p, len_6, len_l1, decide_true, decide_false, Int.reduceEq, Int.reduceNeg, absW, minW, ix_p0, ix_p1, ix_r0, ix_r1, ix_r2, ix_r3, ix_r4, ix_r5, if_true, if_false, ite_true, ite_false, Bool.not_true, Bool.not_false, Bool.false_eq_true, reduceIte, ↓reduceIte, G_common_of, ne_eq, not_false_eq_true, and_self, and_false, false_and, true_and, and_true, *]
        refine' seq_trans (e' := [some (.int f), some (.int r), some (.int m), some (.int s), some (.int (wsG f m)), some (.int (wsS f m)), none, none]) (S' := S) _ _
        · clear lc it iw fil hk hw se
          simp only [fnB, en, List.map_cons, List.map_nil, List.length_cons, List.length_nil, List.replicate_succ, List.replicate_zero, List.cons_append, List.nil_append, List.append_nil, List.getElem?_cons_zero, List.getElem?_cons_succ, List.set_cons_zero, List.set_cons_succ,  Nat.zero_add, Nat.reduceAdd, Nat.reduceSub, Nat.sub_self, Nat.reduceEqDiff,  eVar, eC, eOp, eUn, aNil, aCons, eTup, eLst, eCall, eIf, eAnd, eOr, eNot, tVal, tAndW, tOrW, tNotW, eChain, sNext, sBrk, sCnt, sNever, sSeq, sRet, sRetN, sDrop, sIf, sAsg, sPar, sPar3, gN, gsNil, gsCons, gTupW, Option.bind_some, Option.bind_none,  s0, s1, s2, s3, s4, s6, subW, ltW, leW, gtW, geW, iop0, iop, modW, fdivW, powW, addW, mulW, negW, isi_int_int, isi_int_bool, isi_bl_int, isi_bl_bool, isi_non_int, isi_str_int, isi_tup_int, isi_tup_tup, eq_int, ne_int, len_p, len_6, len_l1, decide_true, decide_false, Int.reduceEq, Int.reduceNeg, absW, minW, ix_p0, ix_p1, ix_r0, ix_r1, ix_r2, ix_r3, ix_r4, ix_r5, if_true, if_false, ite_true, ite_false, Bool.not_true, Bool.not_false, Bool.false_eq_true, reduceIte, ↓reduceIte, G_common_of, ne_eq, not_false_eq_true, and_self, and_false, false_and, true_and, and_true, *]
        refine' seq_trans (e' := [some (.int f), some (.int r), some (.int m), some (.int s), some (.int (wsG f m)), some (.int (wsS f m)), some (.ref S.length), none]) (S' := S ++ [.lst ((k :: tl).map fun i => W.int (i : Nat))]) _ _
        · simp only [sAsg, lc, Option.bind_some, gN, List.set_cons_succ, List.set_cons_zero]
        have ix : ixW (.ref S.length) (.int 0) (S ++ [.lst ((k :: tl).map fun i => W.int (i : Nat))]) = some (.int (k : Nat), S ++ [.lst ((k :: tl).map fun i => W.int (i : Nat))]) := ix_at (i := 0) get_last rfl
        generalize S ++ [O.lst ((k :: tl).map fun i => W.int (i : Nat))] = S' at *
        clear lc it iw fil hk hw se md rm
        simp only [fnB, en, List.map_cons, List.map_nil, List.length_cons, List.length_nil, List.replicate_succ, List.replicate_zero, List.cons_append, List.nil_append, List.append_nil, List.getElem?_cons_zero, List.getElem?_cons_succ, List.set_cons_zero, List.set_cons_succ,  Nat.zero_add, Nat.reduceAdd, Nat.reduceSub, Nat.sub_self, Nat.reduceEqDiff,  eVar, eC, eOp, eUn, aNil, aCons, eTup, eLst, eCall, eIf, eAnd, eOr, eNot, tVal, tAndW, tOrW, tNotW, eChain, sNext, sBrk, sCnt, sNever, sSeq, sRet, sRetN, sDrop, sIf, sAsg, sPar, sPar3, gN, gsNil, gsCons, gTupW, Option.bind_some, Option.bind_none,  s0, s1, s2, s3, s4, s6, subW, ltW, leW, gtW, geW, iop0, iop, modW, fdivW, powW, addW, mulW, negW, isi_int_int, isi_int_bool, isi_bl_int, isi_bl_bool, isi_non_int, isi_str_int, isi_tup_int, isi_tup_tup, eq_int, ne_int, len_p, len_6, len_l1, decide_true, decide_false, Int.reduceEq, Int.reduceNeg, absW, minW, ix_p0, ix_p1, ix_r0, ix_r1, ix_r2, ix_r3, ix_r4, ix_r5, if_true, if_false, ite_true, ite_false, Bool.not_true, Bool.not_false, Bool.false_eq_true, reduceIte, ↓reduceIte, G_common_of, ne_eq, not_false_eq_true, and_self, and_false, false_and, true_and, and_true, *]
      · have hw : wsol f r m s = none := by unfold wsol; rw [if_neg q]
        rw [hw]
        refine ⟨(.non, S), ?_, .same _⟩
        clear hw se md
        simp only [fnB, en, List.map_cons, List.map_nil, List.length_cons, List.length_nil, List.replicate_succ, List.replicate_zero, List.cons_append, List.nil_append, List.append_nil, List.getElem?_cons_zero, List.getElem?_cons_succ, List.set_cons_zero, List.set_cons_succ,  Nat.zero_add, Nat.reduceAdd, Nat.reduceSub, Nat.sub_self, Nat.reduceEqDiff,  eVar, eC, eOp, eUn, aNil, aCons, eTup, eLst, eCall, eIf, eAnd, eOr, eNot, tVal, tAndW, tOrW, tNotW, eChain, sNext, sBrk, sCnt, sNever, sSeq, sRet, sRetN, sDrop, sIf, sAsg, sPar, sPar3, gN, gsNil, gsCons, gTupW, Option.bind_some, Option.bind_none,  s0, s1, s2, s3, s4, s6, subW, ltW, leW, gtW, geW, iop0, iop, modW, fdivW, powW, addW, mulW, negW, isi_int_int, isi_int_bool, isi_bl_int, isi_bl_bool, isi_non_int, isi_str_int, isi_tup_int, isi_tup_tup, eq_int, ne_int, len_p, len_6, len_l1, decide_true, decide_false, Int.reduceEq, Int.reduceNeg, absW, minW, ix_p0, ix_p1, ix_r0, ix_r1, ix_r2, ix_r3, ix_r4, ix_r5, if_true, if_false, ite_true, ite_false, Bool.not_true, Bool.not_false, Bool.false_eq_true, reduceIte, ↓reduceIte, G_common_of, ne_eq, not_false_eq_true, and_self, and_false, false_and, true_and, and_true, *]
    · cases hh
  · cases hh
theorem l_whole_solution : ∀ ws S r, G_whole_solution ws S = some r → ws.length = 4 := by
  intro ws S r h
  unfold G_whole_solution at h
  split at h <;> first | rfl | cases h
end Bp

/-! Pg7: earliest, least. -/
namespace Bp
set_option autoImplicit false
open PySem L2
/-- a congruence of the time: speed, rest, modulus -/
structure Cg where
  (s r m : Int)
namespace Cg
@[reducible] def W (c : Cg) : Bp.W := .tup [.int c.s, .int c.r, .int c.m]
def Ok (c : Cg) : Prop := c.s.natAbs ≤ 100 ∧ c.r.natAbs ≤ 100 ∧ 0 < c.m ∧ c.m ≤ 100
instance (c : Cg) : Decidable c.Ok := inferInstanceAs (Decidable (_ ∧ _))
/-- the first one with a speed above 0 -/
def erl1 (c d : Cg) : Option (Int × Int) := (wsol (d.s * c.m) (d.r * c.s - d.s * c.r) (d.m * c.s) (-(c.r / c.m))).map fun n => low (c.r + c.m * n) c.s
def neg (c : Cg) : Cg := ⟨-c.s, -c.r, c.m⟩
def erlA (c d : Cg) : Option (Int × Int) := if d.s = 0 ∧ d.r % d.m ≠ 0 then none else if c.s = 0 then (if c.r % c.m = 0 then some (0, 1) else none) else if 0 < c.s then erl1 c d else erl1 c.neg d
def erl (c d : Cg) : Option (Int × Int) := if c.s = 0 then erlA d c else erlA c d
end Cg
/-- earliest(one, two); slots 0:one 1:two 2:start 3:number 4:speed 5:rest 6:modulus 7:factor 8:other -/
noncomputable def b_earliest : Fs := sSeq (sIf (tVal (eOp eqW (eOp ixW (eVar 0) (eC (.int 0))) (eC (.int 0)))) (sPar 0 1 (aCons (eVar 1) (aCons (eVar 0) (aNil)))) (sNext)) (sSeq (sIf (tAndW (tVal (eOp eqW (eOp ixW (eVar 1) (eC (.int 0))) (eC (.int 0)))) (tVal (eOp neW (eOp modW (eOp ixW (eVar 1) (eC (.int 1))) (eOp ixW (eVar 1) (eC (.int 2)))) (eC (.int 0))))) (sRet (eC .non)) (sNext)) (sSeq (sIf (tVal (eOp eqW (eOp ixW (eVar 0) (eC (.int 0))) (eC (.int 0)))) (sRet (eIf (tVal (eOp eqW (eOp modW (eOp ixW (eVar 0) (eC (.int 1))) (eOp ixW (eVar 0) (eC (.int 2)))) (eC (.int 0)))) (eTup (aCons (eC (.int 0)) (aCons (eC (.int 1)) (aNil)))) (eC .non))) (sNext)) (sSeq (sAsg (eIf (tVal (eOp gtW (eOp ixW (eVar 0) (eC (.int 0))) (eC (.int 0)))) (eVar 0) (eTup (aCons (eUn negW (eOp ixW (eVar 0) (eC (.int 0)))) (aCons (eUn negW (eOp ixW (eVar 0) (eC (.int 1)))) (aCons (eOp ixW (eVar 0) (eC (.int 2))) (aNil)))))) (gTupW 3 (gsCons (gN 4) (gsCons (gN 5) (gsCons (gN 6) (gsNil)))))) (sSeq (sAsg (eUn negW (eOp fdivW (eVar 5) (eVar 6))) (gN 2)) (sSeq (sPar 7 8 (aCons (eOp mulW (eOp ixW (eVar 1) (eC (.int 0))) (eVar 6)) (aCons (eOp subW (eOp mulW (eOp ixW (eVar 1) (eC (.int 1))) (eVar 4)) (eOp mulW (eOp ixW (eVar 1) (eC (.int 0))) (eVar 5))) (aNil)))) (sSeq (sAsg (eCall G_whole_solution (aCons (eVar 7) (aCons (eVar 8) (aCons (eOp mulW (eOp ixW (eVar 1) (eC (.int 2))) (eVar 4)) (aCons (eVar 2) (aNil)))))) (gN 3)) (sRet (eIf (tVal (eOp isNW (eVar 3) (eC .non))) (eC .non) (eCall G_lowest (aCons (eOp addW (eVar 5) (eOp mulW (eVar 6) (eVar 3))) (aCons (eVar 4) (aNil))))))))))))
def G_earliest : Fn
  | [.tup [.int s1, .int r1, .int m1], .tup [.int s2, .int r2, .int m2]], S => if Cg.Ok ⟨s1, r1, m1⟩ ∧ Cg.Ok ⟨s2, r2, m2⟩ then some (optW (Cg.erl ⟨s1, r1, m1⟩ ⟨s2, r2, m2⟩), S) else none
  | _, _ => none
theorem mul_small {a b : Int} {A B : Nat} (ha : a.natAbs ≤ A) (hb : b.natAbs ≤ B) : (a * b).natAbs ≤ A * B := by
  rw [Int.natAbs_mul]; exact Nat.mul_le_mul ha hb
theorem ediv_small {r m : Int} {A : Nat} (hr : r.natAbs ≤ A) (hm : 0 < m) : (r / m).natAbs ≤ A := by
  by_cases h : 0 ≤ r
  · have a := Int.ediv_nonneg h (Int.le_of_lt hm)
    have b := Int.ediv_le_self m h
    omega
  · have a : r ≤ r / m := by
      have := Int.ediv_mul_le r (show m ≠ 0 by omega)
      have l := Int.lt_ediv_add_one_mul_self r hm
      have q : r / m < 0 := Int.ediv_neg_of_neg_of_pos (by omega) hm
      -- r < (r/m + 1) * m ≤ r/m + 1
      have : (r / m + 1) * m ≤ (r / m + 1) * 1 := Int.mul_le_mul_of_nonpos_left (by omega) (by omega)
      omega
    have q : r / m < 0 := Int.ediv_neg_of_neg_of_pos (by omega) hm
    omega
theorem ix3_0 (a b c : W) (S : Sto) : ixW (.tup [a, b, c]) (.int 0) S = some (a, S) := rfl
theorem ix3_1 (a b c : W) (S : Sto) : ixW (.tup [a, b, c]) (.int 1) S = some (b, S) := rfl
theorem ix3_2 (a b c : W) (S : Sto) : ixW (.tup [a, b, c]) (.int 2) S = some (c, S) := rfl
/-- the second part of earliest, from the normal form -/
def erlB : Fs := (sSeq (sAsg (eUn negW (eOp fdivW (eVar 5) (eVar 6))) (gN 2)) (sSeq (sPar 7 8 (aCons (eOp mulW (eOp ixW (eVar 1) (eC (.int 0))) (eVar 6)) (aCons (eOp subW (eOp mulW (eOp ixW (eVar 1) (eC (.int 1))) (eVar 4)) (eOp mulW (eOp ixW (eVar 1) (eC (.int 0))) (eVar 5))) (aNil)))) (sSeq (sAsg (eCall G_whole_solution (aCons (eVar 7) (aCons (eVar 8) (aCons (eOp mulW (eOp ixW (eVar 1) (eC (.int 2))) (eVar 4)) (aCons (eVar 2) (aNil)))))) (gN 3)) (sRet (eIf (tVal (eOp isNW (eVar 3) (eC .non))) (eC .non) (eCall G_lowest (aCons (eOp addW (eVar 5) (eOp mulW (eVar 6) (eVar 3))) (aCons (eVar 4) (aNil)))))))))
theorem erlB_ok (e0 e2 e3 e7 e8 : Option W) (c d : Cg) (hc : c.Ok) (hd : d.Ok) (hs : 0 < c.s) (S : Sto) : ∃ S', erlB [e0, some d.W, e2, e3, some (.int c.s), some (.int c.r), some (.int c.m), e7, e8] S = some (.ret (optW (c.erl1 d)), S') ∧ S' = S := by
  refine ⟨S, ?_, rfl⟩
  obtain ⟨c1, c2, c3, c4⟩ := hc
  obtain ⟨d1, d2, d3, d4⟩ := hd
  have fd : Int.fdiv c.r c.m = c.r / c.m := Int.fdiv_eq_ediv_of_nonneg _ (by omega)
  have od : okDiv c.m := okDiv_of (by omega) (big_lt (by omega))
  have k1 : okMul d.s c.m := .inl (by omega)
  have k2 : okMul d.r c.s := .inl (by omega)
  have k3 : okMul d.s c.r := .inl (by omega)
  have k4 : okMul d.m c.s := .inl (by omega)
  have z1 := mul_small (A := 100) (B := 100) d1 (show c.m.natAbs ≤ 100 by omega)
  have z2 := mul_small (A := 100) (B := 100) d2 c1
  have z3 := mul_small (A := 100) (B := 100) d1 c2
  have z4 := mul_small (A := 100) (B := 100) (show d.m.natAbs ≤ 100 by omega) c1
  have z5 := ediv_small (A := 100) c2 c3
  have z6 : 0 < d.m * c.s := Int.mul_pos d3 hs
  have okw : okWs (d.s * c.m) (d.r * c.s - d.s * c.r) (d.m * c.s) (-(c.r / c.m)) := ⟨z6, by omega, by omega, by omega, by omega⟩
  have WS : ∀ S, G_whole_solution [.int (d.s * c.m), .int (d.r * c.s - d.s * c.r), .int (d.m * c.s), .int (-(c.r / c.m))] S = some (ownI (wsol (d.s * c.m) (d.r * c.s - d.s * c.r) (d.m * c.s) (-(c.r / c.m))), S) := fun S => by
    simp only [G_whole_solution, okw, if_true]
  unfold Cg.erl1 erlB
  generalize wsol (d.s * c.m) (d.r * c.s - d.s * c.r) (d.m * c.s) (-(c.r / c.m)) = R at *
  cases R with
  | none =>
    simp only [ownI] at WS
    clear okw z1 z2 z3 z4 z5 z6
    simp only [fnB, en, List.map_cons, List.map_nil, List.length_cons, List.length_nil, List.replicate_succ, List.replicate_zero, List.cons_append, List.nil_append, List.append_nil, List.getElem?_cons_zero, List.getElem?_cons_succ, List.set_cons_zero, List.set_cons_succ,  Nat.zero_add, Nat.reduceAdd, Nat.reduceSub, Nat.sub_self, Nat.reduceEqDiff,  eVar, eC, eOp, eUn, aNil, aCons, eTup, eLst, eCall, eIf, eAnd, eOr, eNot, tVal, tAndW, tOrW, tNotW, eChain, sNext, sBrk, sCnt, sNever, sSeq, sRet, sRetN, sDrop, sIf, sAsg, sPar, sPar3, gN, gsNil, gsCons, gTupW, Option.bind_some, Option.bind_none,  s0, s1, s2, s3, s4, s6, subW, ltW, leW, gtW, geW, iop0, iop, modW, fdivW, powW, addW, mulW, negW, isi_int_int, isi_int_bool, isi_bl_int, isi_bl_bool, isi_non_int, isi_str_int, isi_tup_int, isi_tup_tup, eq_int, ne_int, len_p, len_6, len_l1, decide_true, decide_false, Int.reduceEq, Int.reduceNeg, absW, minW, ix_p0, ix_p1, ix_r0, ix_r1, ix_r2, ix_r3, ix_r4, ix_r5, if_true, if_false, ite_true, ite_false, Bool.not_true, Bool.not_false, Bool.false_eq_true, reduceIte, ↓reduceIte, ix3_0, ix3_1, ix3_2, isNW, W.isNon, ne_eq, not_false_eq_true, and_self, and_false, false_and, true_and, and_true, *]
    rfl
  | some n =>
    have k5 : okMul c.m n := .inl (by omega)
    have L : ∀ S, G_lowest [.int (c.r + c.m * n), .int c.s] S = some (fr (low (c.r + c.m * n) c.s), S) := fun S => by
      have h1 : ¬ c.s = 0 := by omega
      have h2 : c.s.natAbs < big := big_lt (by omega)
      simp only [G_lowest, ne_eq, h1, not_false_eq_true, h2, and_self, if_true]
    simp only [ownI] at WS
    clear okw z1 z2 z3 z4 z5 z6
    simp only [fnB, en, List.map_cons, List.map_nil, List.length_cons, List.length_nil, List.replicate_succ, List.replicate_zero, List.cons_append, List.nil_append, List.append_nil, List.getElem?_cons_zero, List.getElem?_cons_succ, List.set_cons_zero, List.set_cons_succ,  Nat.zero_add, Nat.reduceAdd, Nat.reduceSub, Nat.sub_self, Nat.reduceEqDiff,  eVar, eC, eOp, eUn, aNil, aCons, eTup, eLst, eCall, eIf, eAnd, eOr, eNot, tVal, tAndW, tOrW, tNotW, eChain, sNext, sBrk, sCnt, sNever, sSeq, sRet, sRetN, sDrop, sIf, sAsg, sPar, sPar3, gN, gsNil, gsCons, gTupW, Option.bind_some, Option.bind_none,  s0, s1, s2, s3, s4, s6, subW, ltW, leW, gtW, geW, iop0, iop, modW, fdivW, powW, addW, mulW, negW, isi_int_int, isi_int_bool, isi_bl_int, isi_bl_bool, isi_non_int, isi_str_int, isi_tup_int, isi_tup_tup, eq_int, ne_int, len_p, len_6, len_l1, decide_true, decide_false, Int.reduceEq, Int.reduceNeg, absW, minW, ix_p0, ix_p1, ix_r0, ix_r1, ix_r2, ix_r3, ix_r4, ix_r5, if_true, if_false, ite_true, ite_false, Bool.not_true, Bool.not_false, Bool.false_eq_true, reduceIte, ↓reduceIte, ix3_0, ix3_1, ix3_2, isNW, W.isNon, ne_eq, not_false_eq_true, and_self, and_false, false_and, true_and, and_true, *]
    rfl
/-- from the second question on, in order -/
def erlC : Fs := (sSeq (sIf (tAndW (tVal (eOp eqW (eOp ixW (eVar 1) (eC (.int 0))) (eC (.int 0)))) (tVal (eOp neW (eOp modW (eOp ixW (eVar 1) (eC (.int 1))) (eOp ixW (eVar 1) (eC (.int 2)))) (eC (.int 0))))) (sRet (eC .non)) (sNext)) (sSeq (sIf (tVal (eOp eqW (eOp ixW (eVar 0) (eC (.int 0))) (eC (.int 0)))) (sRet (eIf (tVal (eOp eqW (eOp modW (eOp ixW (eVar 0) (eC (.int 1))) (eOp ixW (eVar 0) (eC (.int 2)))) (eC (.int 0)))) (eTup (aCons (eC (.int 0)) (aCons (eC (.int 1)) (aNil)))) (eC .non))) (sNext)) (sSeq (sAsg (eIf (tVal (eOp gtW (eOp ixW (eVar 0) (eC (.int 0))) (eC (.int 0)))) (eVar 0) (eTup (aCons (eUn negW (eOp ixW (eVar 0) (eC (.int 0)))) (aCons (eUn negW (eOp ixW (eVar 0) (eC (.int 1)))) (aCons (eOp ixW (eVar 0) (eC (.int 2))) (aNil)))))) (gTupW 3 (gsCons (gN 4) (gsCons (gN 5) (gsCons (gN 6) (gsNil)))))) erlB)))
theorem erlC_ok (c d : Cg) (hc : c.Ok) (hd : d.Ok) (S : Sto) : erlC [some c.W, some d.W, none, none, none, none, none, none, none] S = some (.ret (optW (c.erlA d)), S) := by
  obtain ⟨c1, c2, c3, c4⟩ := id hc
  obtain ⟨d1, d2, d3, d4⟩ := id hd
  have m1 : ¬ c.m = 0 := by omega
  have m2 : ¬ d.m = 0 := by omega
  have f1 : Int.fmod c.r c.m = c.r % c.m := Int.fmod_eq_emod_of_nonneg _ (by omega)
  have f2 : Int.fmod d.r d.m = d.r % d.m := Int.fmod_eq_emod_of_nonneg _ (by omega)
  unfold erlC Cg.erlA
  by_cases q : d.s = 0 ∧ d.r % d.m ≠ 0
  · rw [if_pos q]
    obtain ⟨q1, q2⟩ := q
    have q2' : ¬ d.r % d.m = 0 := q2
    clear hc hd
    simp only [fnB, en, List.map_cons, List.map_nil, List.length_cons, List.length_nil, List.replicate_succ, List.replicate_zero, List.cons_append, List.nil_append, List.append_nil, List.getElem?_cons_zero, List.getElem?_cons_succ, List.set_cons_zero, List.set_cons_succ,  Nat.zero_add, Nat.reduceAdd, Nat.reduceSub, Nat.sub_self, Nat.reduceEqDiff,  eVar, eC, eOp, eUn, aNil, aCons, eTup, eLst, eCall, eIf, eAnd, eOr, eNot, tVal, tAndW, tOrW, tNotW, eChain, sNext, sBrk, sCnt, sNever, sSeq, sRet, sRetN, sDrop, sIf, sAsg, sPar, sPar3, gN, gsNil, gsCons, gTupW, Option.bind_some, Option.bind_none,  s0, s1, s2, s3, s4, s6, subW, ltW, leW, gtW, geW, iop0, iop, modW, fdivW, powW, addW, mulW, negW, isi_int_int, isi_int_bool, isi_bl_int, isi_bl_bool, isi_non_int, isi_str_int, isi_tup_int, isi_tup_tup, eq_int, ne_int, len_p, len_6, len_l1, decide_true, decide_false, Int.reduceEq, Int.reduceNeg, absW, minW, ix_p0, ix_p1, ix_r0, ix_r1, ix_r2, ix_r3, ix_r4, ix_r5, if_true, if_false, ite_true, ite_false, Bool.not_true, Bool.not_false, Bool.false_eq_true, reduceIte, ↓reduceIte, ix3_0, ix3_1, ix3_2, isNW, W.isNon, ne_eq, not_false_eq_true, and_self, and_false, false_and, true_and, and_true, *]
    rfl
  · rw [if_neg q]
    have st : ∀ t : Fs, sSeq (sIf (tAndW (tVal (eOp eqW (eOp ixW (eVar 1) (eC (.int 0))) (eC (.int 0)))) (tVal (eOp neW (eOp modW (eOp ixW (eVar 1) (eC (.int 1))) (eOp ixW (eVar 1) (eC (.int 2)))) (eC (.int 0))))) (sRet (eC .non)) (sNext)) t [some c.W, some d.W, none, none, none, none, none, none, none] S = t [some c.W, some d.W, none, none, none, none, none, none, none] S := by
      intro t
      by_cases q1 : d.s = 0
      · have q2 : d.r % d.m = 0 := Classical.byContradiction fun z => q ⟨q1, z⟩
        clear hc hd q
        simp only [fnB, en, List.map_cons, List.map_nil, List.length_cons, List.length_nil, List.replicate_succ, List.replicate_zero, List.cons_append, List.nil_append, List.append_nil, List.getElem?_cons_zero, List.getElem?_cons_succ, List.set_cons_zero, List.set_cons_succ,  Nat.zero_add, Nat.reduceAdd, Nat.reduceSub, Nat.sub_self, Nat.reduceEqDiff,  eVar, eC, eOp, eUn, aNil, aCons, eTup, eLst, eCall, eIf, eAnd, eOr, eNot, tVal, tAndW, tOrW, tNotW, eChain, sNext, sBrk, sCnt, sNever, sSeq, sRet, sRetN, sDrop, sIf, sAsg, sPar, sPar3, gN, gsNil, gsCons, gTupW, Option.bind_some, Option.bind_none,  s0, s1, s2, s3, s4, s6, subW, ltW, leW, gtW, geW, iop0, iop, modW, fdivW, powW, addW, mulW, negW, isi_int_int, isi_int_bool, isi_bl_int, isi_bl_bool, isi_non_int, isi_str_int, isi_tup_int, isi_tup_tup, eq_int, ne_int, len_p, len_6, len_l1, decide_true, decide_false, Int.reduceEq, Int.reduceNeg, absW, minW, ix_p0, ix_p1, ix_r0, ix_r1, ix_r2, ix_r3, ix_r4, ix_r5, if_true, if_false, ite_true, ite_false, Bool.not_true, Bool.not_false, Bool.false_eq_true, reduceIte, ↓reduceIte, ix3_0, ix3_1, ix3_2, isNW, W.isNon, ne_eq, not_false_eq_true, and_self, and_false, false_and, true_and, and_true, *]
      · clear hc hd q
        simp only [fnB, en, List.map_cons, List.map_nil, List.length_cons, List.length_nil, List.replicate_succ, List.replicate_zero, List.cons_append, List.nil_append, List.append_nil, List.getElem?_cons_zero, List.getElem?_cons_succ, List.set_cons_zero, List.set_cons_succ,  Nat.zero_add, Nat.reduceAdd, Nat.reduceSub, Nat.sub_self, Nat.reduceEqDiff,  eVar, eC, eOp, eUn, aNil, aCons, eTup, eLst, eCall, eIf, eAnd, eOr, eNot, tVal, tAndW, tOrW, tNotW, eChain, sNext, sBrk, sCnt, sNever, sSeq, sRet, sRetN, sDrop, sIf, sAsg, sPar, sPar3, gN, gsNil, gsCons, gTupW, Option.bind_some, Option.bind_none,  s0, s1, s2, s3, s4, s6, subW, ltW, leW, gtW, geW, iop0, iop, modW, fdivW, powW, addW, mulW, negW, isi_int_int, isi_int_bool, isi_bl_int, isi_bl_bool, isi_non_int, isi_str_int, isi_tup_int, isi_tup_tup, eq_int, ne_int, len_p, len_6, len_l1, decide_true, decide_false, Int.reduceEq, Int.reduceNeg, absW, minW, ix_p0, ix_p1, ix_r0, ix_r1, ix_r2, ix_r3, ix_r4, ix_r5, if_true, if_false, ite_true, ite_false, Bool.not_true, Bool.not_false, Bool.false_eq_true, reduceIte, ↓reduceIte, ix3_0, ix3_1, ix3_2, isNW, W.isNon, ne_eq, not_false_eq_true, and_self, and_false, false_and, true_and, and_true, *]
    rw [st]
    by_cases c0 : c.s = 0
    · rw [if_pos c0]
      by_cases r0 : c.r % c.m = 0
      · rw [if_pos r0]
        clear st hc hd q
        simp only [fnB, en, List.map_cons, List.map_nil, List.length_cons, List.length_nil, List.replicate_succ, List.replicate_zero, List.cons_append, List.nil_append, List.append_nil, List.getElem?_cons_zero, List.getElem?_cons_succ, List.set_cons_zero, List.set_cons_succ,  Nat.zero_add, Nat.reduceAdd, Nat.reduceSub, Nat.sub_self, Nat.reduceEqDiff,  eVar, eC, eOp, eUn, aNil, aCons, eTup, eLst, eCall, eIf, eAnd, eOr, eNot, tVal, tAndW, tOrW, tNotW, eChain, sNext, sBrk, sCnt, sNever, sSeq, sRet, sRetN, sDrop, sIf, sAsg, sPar, sPar3, gN, gsNil, gsCons, gTupW, Option.bind_some, Option.bind_none,  s0, s1, s2, s3, s4, s6, subW, ltW, leW, gtW, geW, iop0, iop, modW, fdivW, powW, addW, mulW, negW, isi_int_int, isi_int_bool, isi_bl_int, isi_bl_bool, isi_non_int, isi_str_int, isi_tup_int, isi_tup_tup, eq_int, ne_int, len_p, len_6, len_l1, decide_true, decide_false, Int.reduceEq, Int.reduceNeg, absW, minW, ix_p0, ix_p1, ix_r0, ix_r1, ix_r2, ix_r3, ix_r4, ix_r5, if_true, if_false, ite_true, ite_false, Bool.not_true, Bool.not_false, Bool.false_eq_true, reduceIte, ↓reduceIte, ix3_0, ix3_1, ix3_2, isNW, W.isNon, ne_eq, not_false_eq_true, and_self, and_false, false_and, true_and, and_true, *]
        rfl
      · rw [if_neg r0]
        clear st hc hd q
        simp only [fnB, en, List.map_cons, List.map_nil, List.length_cons, List.length_nil, List.replicate_succ, List.replicate_zero, List.cons_append, List.nil_append, List.append_nil, List.getElem?_cons_zero, List.getElem?_cons_succ, List.set_cons_zero, List.set_cons_succ,  Nat.zero_add, Nat.reduceAdd, Nat.reduceSub, Nat.sub_self, Nat.reduceEqDiff,  eVar, eC, eOp, eUn, aNil, aCons, eTup, eLst, eCall, eIf, eAnd, eOr, eNot, tVal, tAndW, tOrW, tNotW, eChain, sNext, sBrk, sCnt, sNever, sSeq, sRet, sRetN, sDrop, sIf, sAsg, sPar, sPar3, gN, gsNil, gsCons, gTupW, Option.bind_some, Option.bind_none,  s0, s1, s2, s3, s4, s6, subW, ltW, leW, gtW, geW, iop0, iop, modW, fdivW, powW, addW, mulW, negW, isi_int_int, isi_int_bool, isi_bl_int, isi_bl_bool, isi_non_int, isi_str_int, isi_tup_int, isi_tup_tup, eq_int, ne_int, len_p, len_6, len_l1, decide_true, decide_false, Int.reduceEq, Int.reduceNeg, absW, minW, ix_p0, ix_p1, ix_r0, ix_r1, ix_r2, ix_r3, ix_r4, ix_r5, if_true, if_false, ite_true, ite_false, Bool.not_true, Bool.not_false, Bool.false_eq_true, reduceIte, ↓reduceIte, ix3_0, ix3_1, ix3_2, isNW, W.isNon, ne_eq, not_false_eq_true, and_self, and_false, false_and, true_and, and_true, *]
        rfl
    · rw [if_neg c0]
      by_cases cp : 0 < c.s
      · rw [if_pos cp]
        obtain ⟨S', h, rfl⟩ := erlB_ok (some c.W) none none none none c d hc hd cp S
        refine' seq_trans (e' := [some c.W, some d.W, none, none, none, none, none, none, none]) (S' := S') _ _
        · clear st hc hd q h
          simp only [fnB, en, List.map_cons, List.map_nil, List.length_cons, List.length_nil, List.replicate_succ, List.replicate_zero, List.cons_append, List.nil_append, List.append_nil, List.getElem?_cons_zero, List.getElem?_cons_succ, List.set_cons_zero, List.set_cons_succ,  Nat.zero_add, Nat.reduceAdd, Nat.reduceSub, Nat.sub_self, Nat.reduceEqDiff,  eVar, eC, eOp, eUn, aNil, aCons, eTup, eLst, eCall, eIf, eAnd, eOr, eNot, tVal, tAndW, tOrW, tNotW, eChain, sNext, sBrk, sCnt, sNever, sSeq, sRet, sRetN, sDrop, sIf, sAsg, sPar, sPar3, gN, gsNil, gsCons, gTupW, Option.bind_some, Option.bind_none,  s0, s1, s2, s3, s4, s6, subW, ltW, leW, gtW, geW, iop0, iop, modW, fdivW, powW, addW, mulW, negW, isi_int_int, isi_int_bool, isi_bl_int, isi_bl_bool, isi_non_int, isi_str_int, isi_tup_int, isi_tup_tup, eq_int, ne_int, len_p, len_6, len_l1, decide_true, decide_false, Int.reduceEq, Int.reduceNeg, absW, minW, ix_p0, ix_p1, ix_r0, ix_r1, ix_r2, ix_r3, ix_r4, ix_r5, if_true, if_false, ite_true, ite_false, Bool.not_true, Bool.not_false, Bool.false_eq_true, reduceIte, ↓reduceIte, ix3_0, ix3_1, ix3_2, isNW, W.isNon, ne_eq, not_false_eq_true, and_self, and_false, false_and, true_and, and_true, *]
        refine' seq_trans (e' := [some c.W, some d.W, none, none, some (.int c.s), some (.int c.r), some (.int c.m), none, none]) (S' := S') _ _
        · clear st hc hd q h
          simp only [fnB, en, List.map_cons, List.map_nil, List.length_cons, List.length_nil, List.replicate_succ, List.replicate_zero, List.cons_append, List.nil_append, List.append_nil, List.getElem?_cons_zero, List.getElem?_cons_succ, List.set_cons_zero, List.set_cons_succ,  Nat.zero_add, Nat.reduceAdd, Nat.reduceSub, Nat.sub_self, Nat.reduceEqDiff,  eVar, eC, eOp, eUn, aNil, aCons, eTup, eLst, eCall, eIf, eAnd, eOr, eNot, tVal, tAndW, tOrW, tNotW, eChain, sNext, sBrk, sCnt, sNever, sSeq, sRet, sRetN, sDrop, sIf, sAsg, sPar, sPar3, gN, gsNil, gsCons, gTupW, Option.bind_some, Option.bind_none,  s0, s1, s2, s3, s4, s6, subW, ltW, leW, gtW, geW, iop0, iop, modW, fdivW, powW, addW, mulW, negW, isi_int_int, isi_int_bool, isi_bl_int, isi_bl_bool, isi_non_int, isi_str_int, isi_tup_int, isi_tup_tup, eq_int, ne_int, len_p, len_6, len_l1, decide_true, decide_false, Int.reduceEq, Int.reduceNeg, absW, minW, ix_p0, ix_p1, ix_r0, ix_r1, ix_r2, ix_r3, ix_r4, ix_r5, if_true, if_false, ite_true, ite_false, Bool.not_true, Bool.not_false, Bool.false_eq_true, reduceIte, ↓reduceIte, ix3_0, ix3_1, ix3_2, isNW, W.isNon, ne_eq, not_false_eq_true, and_self, and_false, false_and, true_and, and_true, *]
        exact h
      · rw [if_neg cp]
        have okn : c.neg.Ok := ⟨by show (-c.s).natAbs ≤ 100; omega, by show (-c.r).natAbs ≤ 100; omega, c3, c4⟩
        obtain ⟨S', h, rfl⟩ := erlB_ok (some c.W) none none none none c.neg d okn hd (by show 0 < -c.s; omega) S
        refine' seq_trans (e' := [some c.W, some d.W, none, none, none, none, none, none, none]) (S' := S') _ _
        · clear st hc hd q h
          simp only [fnB, en, List.map_cons, List.map_nil, List.length_cons, List.length_nil, List.replicate_succ, List.replicate_zero, List.cons_append, List.nil_append, List.append_nil, List.getElem?_cons_zero, List.getElem?_cons_succ, List.set_cons_zero, List.set_cons_succ,  Nat.zero_add, Nat.reduceAdd, Nat.reduceSub, Nat.sub_self, Nat.reduceEqDiff,  eVar, eC, eOp, eUn, aNil, aCons, eTup, eLst, eCall, eIf, eAnd, eOr, eNot, tVal, tAndW, tOrW, tNotW, eChain, sNext, sBrk, sCnt, sNever, sSeq, sRet, sRetN, sDrop, sIf, sAsg, sPar, sPar3, gN, gsNil, gsCons, gTupW, Option.bind_some, Option.bind_none,  s0, s1, s2, s3, s4, s6, subW, ltW, leW, gtW, geW, iop0, iop, modW, fdivW, powW, addW, mulW, negW, isi_int_int, isi_int_bool, isi_bl_int, isi_bl_bool, isi_non_int, isi_str_int, isi_tup_int, isi_tup_tup, eq_int, ne_int, len_p, len_6, len_l1, decide_true, decide_false, Int.reduceEq, Int.reduceNeg, absW, minW, ix_p0, ix_p1, ix_r0, ix_r1, ix_r2, ix_r3, ix_r4, ix_r5, if_true, if_false, ite_true, ite_false, Bool.not_true, Bool.not_false, Bool.false_eq_true, reduceIte, ↓reduceIte, ix3_0, ix3_1, ix3_2, isNW, W.isNon, ne_eq, not_false_eq_true, and_self, and_false, false_and, true_and, and_true, *]
        refine' seq_trans (e' := [some c.W, some d.W, none, none, some (.int (-c.s)), some (.int (-c.r)), some (.int c.m), none, none]) (S' := S') _ _
        · clear st hc hd q h
          have s3 : (3 : Nat) ≤ sizeLine := s3
          simp only [fnB, en, List.map_cons, List.map_nil, List.length_cons, List.length_nil, List.replicate_succ, List.replicate_zero, List.cons_append, List.nil_append, List.append_nil, List.getElem?_cons_zero, List.getElem?_cons_succ, List.set_cons_zero, List.set_cons_succ,  Nat.zero_add, Nat.reduceAdd, Nat.reduceSub, Nat.sub_self, Nat.reduceEqDiff,  eVar, eC, eOp, eUn, aNil, aCons, eTup, eLst, eCall, eIf, eAnd, eOr, eNot, tVal, tAndW, tOrW, tNotW, eChain, sNext, sBrk, sCnt, sNever, sSeq, sRet, sRetN, sDrop, sIf, sAsg, sPar, sPar3, gN, gsNil, gsCons, gTupW, Option.bind_some, Option.bind_none,  s0, s1, s2, s3, s4, s6, subW, ltW, leW, gtW, geW, iop0, iop, modW, fdivW, powW, addW, mulW, negW, isi_int_int, isi_int_bool, isi_bl_int, isi_bl_bool, isi_non_int, isi_str_int, isi_tup_int, isi_tup_tup, eq_int, ne_int, len_p, len_6, len_l1, decide_true, decide_false, Int.reduceEq, Int.reduceNeg, absW, minW, ix_p0, ix_p1, ix_r0, ix_r1, ix_r2, ix_r3, ix_r4, ix_r5, if_true, if_false, ite_true, ite_false, Bool.not_true, Bool.not_false, Bool.false_eq_true, reduceIte, ↓reduceIte, ix3_0, ix3_1, ix3_2, isNW, W.isNon, ne_eq, not_false_eq_true, and_self, and_false, false_and, true_and, and_true, *]
        exact h
theorem t_earliest : Tells 9 b_earliest G_earliest := by
  intro ws S r hh
  refine ⟨r, ?_, .same _⟩
  unfold G_earliest at hh
  split at hh
  · split at hh
    · rename_i p1 r1 m1 p2 r2 m2 hb
      cases hh
      obtain ⟨hc, hd⟩ := hb
      refine fnB_ret ?_
      have e : b_earliest = sSeq (sIf (tVal (eOp eqW (eOp ixW (eVar 0) (eC (.int 0))) (eC (.int 0)))) (sPar 0 1 (aCons (eVar 1) (aCons (eVar 0) (aNil)))) (sNext)) erlC := rfl
      rw [e]
      unfold Cg.erl
      by_cases q : p1 = 0
      · rw [if_pos q]
        refine' seq_trans (e' := [some (.tup [.int p2, .int r2, .int m2]), some (.tup [.int p1, .int r1, .int m1]), none, none, none, none, none, none, none]) (S' := S) _ (erlC_ok ⟨p2, r2, m2⟩ ⟨p1, r1, m1⟩ hd hc S)
        clear hc hd e
        subst q
        simp only [fnB, en, List.map_cons, List.map_nil, List.length_cons, List.length_nil, List.replicate_succ, List.replicate_zero, List.cons_append, List.nil_append, List.append_nil, List.getElem?_cons_zero, List.getElem?_cons_succ, List.set_cons_zero, List.set_cons_succ,  Nat.zero_add, Nat.reduceAdd, Nat.reduceSub, Nat.sub_self, Nat.reduceEqDiff,  eVar, eC, eOp, eUn, aNil, aCons, eTup, eLst, eCall, eIf, eAnd, eOr, eNot, tVal, tAndW, tOrW, tNotW, eChain, sNext, sBrk, sCnt, sNever, sSeq, sRet, sRetN, sDrop, sIf, sAsg, sPar, sPar3, gN, gsNil, gsCons, gTupW, Option.bind_some, Option.bind_none,  s0, s1, s2, s3, s4, s6, subW, ltW, leW, gtW, geW, iop0, iop, modW, fdivW, powW, addW, mulW, negW, isi_int_int, isi_int_bool, isi_bl_int, isi_bl_bool, isi_non_int, isi_str_int, isi_tup_int, isi_tup_tup, eq_int, ne_int, len_p, len_6, len_l1, decide_true, decide_false, Int.reduceEq, Int.reduceNeg, absW, minW, ix_p0, ix_p1, ix_r0, ix_r1, ix_r2, ix_r3, ix_r4, ix_r5, if_true, if_false, ite_true, ite_false, Bool.not_true, Bool.not_false, Bool.false_eq_true, reduceIte, ↓reduceIte, ix3_0, ix3_1, ix3_2, isNW, W.isNon, ne_eq, not_false_eq_true, and_self, and_false, false_and, true_and, and_true, *]
      · rw [if_neg q]
        refine' seq_trans (e' := [some (.tup [.int p1, .int r1, .int m1]), some (.tup [.int p2, .int r2, .int m2]), none, none, none, none, none, none, none]) (S' := S) _ (erlC_ok ⟨p1, r1, m1⟩ ⟨p2, r2, m2⟩ hc hd S)
        clear hc hd e
        simp only [fnB, en, List.map_cons, List.map_nil, List.length_cons, List.length_nil, List.replicate_succ, List.replicate_zero, List.cons_append, List.nil_append, List.append_nil, List.getElem?_cons_zero, List.getElem?_cons_succ, List.set_cons_zero, List.set_cons_succ,  Nat.zero_add, Nat.reduceAdd, Nat.reduceSub, Nat.sub_self, Nat.reduceEqDiff,  eVar, eC, eOp, eUn, aNil, aCons, eTup, eLst, eCall, eIf, eAnd, eOr, eNot, tVal, tAndW, tOrW, tNotW, eChain, sNext, sBrk, sCnt, sNever, sSeq, sRet, sRetN, sDrop, sIf, sAsg, sPar, sPar3, gN, gsNil, gsCons, gTupW, Option.bind_some, Option.bind_none,  s0, s1, s2, s3, s4, s6, subW, ltW, leW, gtW, geW, iop0, iop, modW, fdivW, powW, addW, mulW, negW, isi_int_int, isi_int_bool, isi_bl_int, isi_bl_bool, isi_non_int, isi_str_int, isi_tup_int, isi_tup_tup, eq_int, ne_int, len_p, len_6, len_l1, decide_true, decide_false, Int.reduceEq, Int.reduceNeg, absW, minW, ix_p0, ix_p1, ix_r0, ix_r1, ix_r2, ix_r3, ix_r4, ix_r5, if_true, if_false, ite_true, ite_false, Bool.not_true, Bool.not_false, Bool.false_eq_true, reduceIte, ↓reduceIte, ix3_0, ix3_1, ix3_2, isNW, W.isNon, ne_eq, not_false_eq_true, and_self, and_false, false_and, true_and, and_true, *]
    · cases hh
  · cases hh
theorem l_earliest : ∀ ws S r, G_earliest ws S = some r → ws.length = 2 := by
  intro ws S r h
  unfold G_earliest at h
  split at h <;> first | rfl | cases h
theorem earliest_at {c d : Cg} (hc : c.Ok) (hd : d.Ok) (S : Sto) : G_earliest [c.W, d.W] S = some (optW (c.erl d), S) := by
  have hc' : Cg.Ok ⟨c.s, c.r, c.m⟩ := hc
  have hd' : Cg.Ok ⟨d.s, d.r, d.m⟩ := hd
  simp only [G_earliest, hc', hd', and_self, if_true]
/-! ### least -/
/-- least(times); slots 0:times 1:best 2:time -/
noncomputable def b_least : Fs := sSeq (sAsg (eC .non) (gN 1)) (sSeq (sFor (iSeq (eVar 0)) (gN 2) (sIf (tOrW (tVal (eOp isNW (eVar 1) (eC .non))) (tVal (eCall G_is_less (aCons (eVar 2) (aCons (eVar 1) (aNil)))))) (sAsg (eVar 2) (gN 1)) (sNext))) (sRet (eVar 1)))
def lstP : List (Int × Int) → Option (Int × Int) → Option (Int × Int)
  | [], b => b
  | t :: ts, none => lstP ts (some t)
  | t :: ts, some b => lstP ts (if less t b then some t else some b)
def okTs (ts : List (Int × Int)) : Prop := ∀ t ∈ ts, 0 < t.2 ∧ t.2.natAbs < 2 ^ 64
def pairOf : W → Option (Int × Int)
  | .tup [.int p, .int q] => some (p, q)
  | _ => none
theorem pairOf_eq {w : W} {t : Int × Int} (h : pairOf w = some t) : w = fr t := by
  unfold pairOf at h
  split at h
  · cases h; rfl
  · cases h
theorem pairs_eq : ∀ {ws : List W} {ts : List (Int × Int)}, mapO pairOf ws = some ts → ws = ts.map fr
  | [], _, h => by cases h; rfl
  | w :: ws, _, h => by
    obtain ⟨t, h1, h⟩ := bindS h
    obtain ⟨ts, h2, h⟩ := bindS h
    cases h
    rw [List.map_cons, ← pairs_eq h2, pairOf_eq h1]
theorem pairs_map : ∀ ts : List (Int × Int), mapO pairOf (ts.map fr) = some ts
  | [] => rfl
  | t :: ts => by
    show (pairOf (fr t)).bind _ = _
    simp only [pairOf, Option.bind_some, pairs_map ts]
open Classical in
noncomputable def G_least : Fn
  | [.ref n], S => match S[n]? with
    | some (.lst ws) => (mapO pairOf ws).bind fun ts => if okTs ts then some (optW (lstP ts none), S) else none
    | _ => none
  | _, _ => none
def leaB : Fs := (sIf (tOrW (tVal (eOp isNW (eVar 1) (eC .non))) (tVal (eCall G_is_less (aCons (eVar 2) (aCons (eVar 1) (aNil)))))) (sAsg (eVar 2) (gN 1)) (sNext))
theorem lea_loop (e0 : Option W) (S : Sto) (chk : Sto → Prop) (hc : chk S) : ∀ (ts : List (Int × Int)) (b : Option (Int × Int)) (e2 : Option W), okTs ts → (∀ t ∈ b, 0 < t.2 ∧ t.2.natAbs < 2 ^ 64) → ∃ e2', forF (gN 2) leaB chk (ts.map fr) [e0, some (optW b), e2] S = some (.next [e0, some (optW (lstP ts b)), e2'], S)
  | [], b, e2, _, _ => ⟨e2, by rw [List.map_nil, forF_nil, if_pos hc]; rfl⟩
  | t :: ts, b, e2, hk, hb => by
    have hk1 := hk t (List.mem_cons_self ..)
    have hk2 : okTs ts := fun t ht => hk t (List.mem_cons_of_mem _ ht)
    cases b with
    | none =>
      obtain ⟨e2', h⟩ := lea_loop e0 S chk hc ts (some t) (some (fr t)) hk2 (by intro t' h; cases h; exact hk1)
      refine ⟨e2', ?_⟩
      have bd : leaB [e0, some (optW none), some (fr t)] S = some (.next [e0, some (optW (some t)), some (fr t)], S) := by
        clear h hk hk2
        unfold leaB optW
        simp only [fnB, en, List.map_cons, List.map_nil, List.length_cons, List.length_nil, List.replicate_succ, List.replicate_zero, List.cons_append, List.nil_append, List.append_nil, List.getElem?_cons_zero, List.getElem?_cons_succ, List.set_cons_zero, List.set_cons_succ,  Nat.zero_add, Nat.reduceAdd, Nat.reduceSub, Nat.sub_self, Nat.reduceEqDiff,  eVar, eC, eOp, eUn, aNil, aCons, eTup, eLst, eCall, eIf, eAnd, eOr, eNot, tVal, tAndW, tOrW, tNotW, eChain, sNext, sBrk, sCnt, sNever, sSeq, sRet, sRetN, sDrop, sIf, sAsg, sPar, sPar3, gN, gsNil, gsCons, gTupW, Option.bind_some, Option.bind_none,  s0, s1, s2, s3, s4, s6, subW, ltW, leW, gtW, geW, iop0, iop, modW, fdivW, powW, addW, mulW, negW, isi_int_int, isi_int_bool, isi_bl_int, isi_bl_bool, isi_non_int, isi_str_int, isi_tup_int, isi_tup_tup, eq_int, ne_int, len_p, len_6, len_l1, decide_true, decide_false, Int.reduceEq, Int.reduceNeg, absW, minW, ix_p0, ix_p1, ix_r0, ix_r1, ix_r2, ix_r3, ix_r4, ix_r5, if_true, if_false, ite_true, ite_false, Bool.not_true, Bool.not_false, Bool.false_eq_true, reduceIte, ↓reduceIte, isNW, W.isNon, ne_eq, not_false_eq_true, and_self, and_false, false_and, true_and, and_true, *]
      rw [List.map_cons, forF_cons, if_pos hc]
      have g : gN 2 (fr t) [e0, some (optW none), e2] S = some ([e0, some (optW none), some (fr t)], S) := rfl
      rw [g]
      simp only [Option.bind_some]
      rw [bd]
      exact h
    | some b =>
      have hb1 := hb b rfl
      obtain ⟨e2', h⟩ := lea_loop e0 S chk hc ts (if less t b then some t else some b) (some (fr t)) hk2 (by
        intro t' h
        split at h
        · cases h; exact hk1
        · cases h; exact hb1)
      refine ⟨e2', ?_⟩
      have LS : ∀ S, G_is_less [fr t, fr b] S = some (.bl (decide (less t b)), S) := g_less (by omega) (by omega)
      have bd : leaB [e0, some (optW (some b)), some (fr t)] S = some (.next [e0, some (optW (if less t b then some t else some b)), some (fr t)], S) := by
        clear h hk hk2 hb
        unfold leaB optW
        by_cases q : less t b
        · simp only [q, decide_true, if_true] at LS ⊢
          simp only [fnB, en, List.map_cons, List.map_nil, List.length_cons, List.length_nil, List.replicate_succ, List.replicate_zero, List.cons_append, List.nil_append, List.append_nil, List.getElem?_cons_zero, List.getElem?_cons_succ, List.set_cons_zero, List.set_cons_succ,  Nat.zero_add, Nat.reduceAdd, Nat.reduceSub, Nat.sub_self, Nat.reduceEqDiff,  eVar, eC, eOp, eUn, aNil, aCons, eTup, eLst, eCall, eIf, eAnd, eOr, eNot, tVal, tAndW, tOrW, tNotW, eChain, sNext, sBrk, sCnt, sNever, sSeq, sRet, sRetN, sDrop, sIf, sAsg, sPar, sPar3, gN, gsNil, gsCons, gTupW, Option.bind_some, Option.bind_none,  s0, s1, s2, s3, s4, s6, subW, ltW, leW, gtW, geW, iop0, iop, modW, fdivW, powW, addW, mulW, negW, isi_int_int, isi_int_bool, isi_bl_int, isi_bl_bool, isi_non_int, isi_str_int, isi_tup_int, isi_tup_tup, eq_int, ne_int, len_p, len_6, len_l1, decide_true, decide_false, Int.reduceEq, Int.reduceNeg, absW, minW, ix_p0, ix_p1, ix_r0, ix_r1, ix_r2, ix_r3, ix_r4, ix_r5, if_true, if_false, ite_true, ite_false, Bool.not_true, Bool.not_false, Bool.false_eq_true, reduceIte, ↓reduceIte, isNW, W.isNon, ne_eq, not_false_eq_true, and_self, and_false, false_and, true_and, and_true, *]
        · simp only [q, decide_false, if_false] at LS ⊢
          simp only [fnB, en, List.map_cons, List.map_nil, List.length_cons, List.length_nil, List.replicate_succ, List.replicate_zero, List.cons_append, List.nil_append, List.append_nil, List.getElem?_cons_zero, List.getElem?_cons_succ, List.set_cons_zero, List.set_cons_succ,  Nat.zero_add, Nat.reduceAdd, Nat.reduceSub, Nat.sub_self, Nat.reduceEqDiff,  eVar, eC, eOp, eUn, aNil, aCons, eTup, eLst, eCall, eIf, eAnd, eOr, eNot, tVal, tAndW, tOrW, tNotW, eChain, sNext, sBrk, sCnt, sNever, sSeq, sRet, sRetN, sDrop, sIf, sAsg, sPar, sPar3, gN, gsNil, gsCons, gTupW, Option.bind_some, Option.bind_none,  s0, s1, s2, s3, s4, s6, subW, ltW, leW, gtW, geW, iop0, iop, modW, fdivW, powW, addW, mulW, negW, isi_int_int, isi_int_bool, isi_bl_int, isi_bl_bool, isi_non_int, isi_str_int, isi_tup_int, isi_tup_tup, eq_int, ne_int, len_p, len_6, len_l1, decide_true, decide_false, Int.reduceEq, Int.reduceNeg, absW, minW, ix_p0, ix_p1, ix_r0, ix_r1, ix_r2, ix_r3, ix_r4, ix_r5, if_true, if_false, ite_true, ite_false, Bool.not_true, Bool.not_false, Bool.false_eq_true, reduceIte, ↓reduceIte, isNW, W.isNon, ne_eq, not_false_eq_true, and_self, and_false, false_and, true_and, and_true, *]
      rw [List.map_cons, forF_cons, if_pos hc]
      have g : gN 2 (fr t) [e0, some (optW (some b)), e2] S = some ([e0, some (optW (some b)), some (fr t)], S) := rfl
      rw [g]
      simp only [Option.bind_some]
      rw [bd]
      exact h
theorem t_least : Tells 3 b_least G_least := by
  intro ws S r hh
  refine ⟨r, ?_, .same _⟩
  unfold G_least at hh
  split at hh
  · rename_i n
    split at hh
    · rename_i ws hS
      obtain ⟨ts, h1, h2⟩ := bindS hh
      have := pairs_eq h1
      subst this
      clear hh
      split at h2
      · rename_i hk
        cases h2
        obtain ⟨e2, hl⟩ := lea_loop (some (.ref n)) S (fun S => S[n]? = some (.lst (ts.map fr))) hS ts none none hk (by intro t h; cases h)
        have it := iSeq_ref (f := eVar 0) (e := [some (.ref n), some .non, none]) (S := S) (S' := S) (n := n) rfl hS
        refine fnB_ret ?_
        have e : b_least = sSeq (sAsg (eC .non) (gN 1)) (sSeq (sFor (iSeq (eVar 0)) (gN 2) leaB) (sRet (eVar 1))) := rfl
        rw [e]
        refine' seq_trans (e' := [some (.ref n), some .non, none]) (S' := S) rfl _
        refine' seq_trans (e' := [some (.ref n), some (optW (lstP ts none)), e2]) (S' := S) _ rfl
        simp only [sFor, it, Option.bind_some]
        exact hl
      · cases h2
    · cases hh
  · cases hh
theorem l_least : ∀ ws S r, G_least ws S = some r → ws.length = 1 := by
  intro ws S r h
  unfold G_least at h
  split at h <;> first | rfl | cases h
end Bp

/-! Pg8: meeting. -/
namespace Bp
set_option autoImplicit false
open PySem L2
namespace Cg
theorem erl1_den {c d : Cg} {t : Int × Int} (hs : 0 < c.s) (hc : c.s ≤ 100) (h : c.erl1 d = some t) : 0 < t.2 ∧ t.2 ≤ 100 := by
  unfold erl1 at h
  cases hw : wsol (d.s * c.m) (d.r * c.s - d.s * c.r) (d.m * c.s) (-(c.r / c.m)) with
  | none => rw [hw] at h; cases h
  | some n =>
    rw [hw] at h
    cases h
    obtain ⟨s1, s2, _⟩ := low_spec (n := c.r + c.m * n) hs
    refine ⟨s1, ?_⟩
    have : (low (c.r + c.m * n) c.s).2 ≤ c.s := by
      rw [low_pos hs]
      exact Int.ediv_le_self _ (by omega)
    exact Int.le_trans this hc
theorem erlA_den {c d : Cg} {t : Int × Int} (hc : c.Ok) (h : c.erlA d = some t) : 0 < t.2 ∧ t.2 ≤ 100 := by
  obtain ⟨c1, c2, c3, c4⟩ := hc
  unfold erlA at h
  split at h
  · cases h
  · split at h
    · split at h
      · cases h; decide
      · cases h
    · split at h
      · exact erl1_den (by assumption) (by omega) h
      · exact erl1_den (c := c.neg) (by show 0 < -c.s; omega) (by show -c.s ≤ 100; omega) h
theorem erl_den {c d : Cg} {t : Int × Int} (hc : c.Ok) (hd : d.Ok) (h : c.erl d = some t) : 0 < t.2 ∧ t.2 ≤ 100 := by
  unfold erl at h
  split at h
  · exact erlA_den hd h
  · exact erlA_den hc h
/-- all first times of pairs of congruences -/
def all (cs ds : List Cg) : List (Int × Int) := cs.flatMap fun c => ds.filterMap fun d => c.erl d
theorem all_den {cs ds : List Cg} (hc : ∀ c ∈ cs, c.Ok) (hd : ∀ d ∈ ds, d.Ok) : okTs (all cs ds) := by
  intro t ht
  unfold all at ht
  obtain ⟨c, h1, h2⟩ := List.mem_flatMap.mp ht
  obtain ⟨d, h3, h4⟩ := List.mem_filterMap.mp h2
  have := erl_den (hc c h1) (hd d h3) h4
  exact ⟨this.1, by omega⟩
end Cg
theorem least_at {S : Sto} {n : Nat} {ts : List (Int × Int)} (h : S[n]? = some (.lst (ts.map fr))) (hk : okTs ts) : G_least [.ref n] S = some (optW (lstP ts none), S) := by
  simp only [G_least, h, pairs_map, Option.bind_some, hk, if_true]
def RunD.mA (r s : RunD) : List Cg := [⟨r.a - s.a, s.x - r.x, 2 * r.w⟩, ⟨r.a + s.a, -s.x - r.x, 2 * r.w⟩]
def RunD.mB (r s : RunD) : List Cg := [⟨r.b - s.b, s.y - r.y, 2 * r.h⟩, ⟨r.b + s.b, -s.y - r.y, 2 * r.h⟩]
def RunD.mtg (r s : RunD) : Option (Int × Int) := lstP (Cg.all (r.mA s) (r.mB s)) none
/-- meeting(run, other); slots 0:run 1:other 2:found 3:across 4:w 5:h 6:x 7:y 8:a 9:b 10:u 11:v 12:c 13:d 14:along 15:time -/
noncomputable def b_meeting : Fs := sSeq (sDrop (eCall G_need_run (aCons (eVar 0) (aNil)))) (sSeq (sDrop (eCall G_need_run (aCons (eVar 1) (aNil)))) (sSeq (sIf (tVal (eOp neW (eSlice (eVar 0) (oNone) (oSome (eC (.int 2)))) (eSlice (eVar 1) (oNone) (oSome (eC (.int 2)))))) (sNever) (sNext)) (sSeq (sAsg (eVar 0) (gTupW 6 (gsCons (gN 4) (gsCons (gN 5) (gsCons (gN 6) (gsCons (gN 7) (gsCons (gN 8) (gsCons (gN 9) (gsNil))))))))) (sSeq (sAsg (eSlice (eVar 1) (oSome (eC (.int 2))) (oNone)) (gTupW 4 (gsCons (gN 10) (gsCons (gN 11) (gsCons (gN 12) (gsCons (gN 13) (gsNil))))))) (sSeq (sAsg (eLst (aNil)) (gN 2)) (sSeq (sFor (iSeq (eTup (aCons (eTup (aCons (eOp subW (eVar 8) (eVar 12)) (aCons (eOp subW (eVar 10) (eVar 6)) (aCons (eOp mulW (eC (.int 2)) (eVar 4)) (aNil))))) (aCons (eTup (aCons (eOp addW (eVar 8) (eVar 12)) (aCons (eOp subW (eUn negW (eVar 10)) (eVar 6)) (aCons (eOp mulW (eC (.int 2)) (eVar 4)) (aNil))))) (aNil))))) (gN 3) (sFor (iSeq (eTup (aCons (eTup (aCons (eOp subW (eVar 9) (eVar 13)) (aCons (eOp subW (eVar 11) (eVar 7)) (aCons (eOp mulW (eC (.int 2)) (eVar 5)) (aNil))))) (aCons (eTup (aCons (eOp addW (eVar 9) (eVar 13)) (aCons (eOp subW (eUn negW (eVar 11)) (eVar 7)) (aCons (eOp mulW (eC (.int 2)) (eVar 5)) (aNil))))) (aNil))))) (gN 14) (sSeq (sAsg (eCall G_earliest (aCons (eVar 3) (aCons (eVar 14) (aNil)))) (gN 15)) (sIf (tVal (eOp notNW (eVar 15) (eC .non))) (sDrop (eMethL appendW (eVar 2) (aCons (eVar 15) (aNil)))) (sNext))))) (sRet (eCall G_least (aCons (eVar 2) (aNil))))))))))
def G_meeting : Fn
  | [.tup [.int w, .int h, .int x, .int y, .int a, .int b], .tup [.int w', .int h', .int x', .int y', .int a', .int b']], S => if okRun w h x y a b ∧ okRun w' h' x' y' a' b' ∧ w = w' ∧ h = h' then some (optW (RunD.mtg ⟨w, h, x, y, a, b⟩ ⟨w', h', x', y', a', b'⟩), S) else none
  | _, _ => none
def mtI : Fs := (sSeq (sAsg (eCall G_earliest (aCons (eVar 3) (aCons (eVar 14) (aNil)))) (gN 15)) (sIf (tVal (eOp notNW (eVar 15) (eC .non))) (sDrop (eMethL appendW (eVar 2) (aCons (eVar 15) (aNil)))) (sNext)))
noncomputable def mtL : Fs := (sFor (iSeq (eTup (aCons (eTup (aCons (eOp subW (eVar 9) (eVar 13)) (aCons (eOp subW (eVar 11) (eVar 7)) (aCons (eOp mulW (eC (.int 2)) (eVar 5)) (aNil))))) (aCons (eTup (aCons (eOp addW (eVar 9) (eVar 13)) (aCons (eOp subW (eUn negW (eVar 11)) (eVar 7)) (aCons (eOp mulW (eC (.int 2)) (eVar 5)) (aNil))))) (aNil))))) (gN 14) mtI)
def mtE (r s : RunD) (n : Nat) (e3 e14 e15 : Option W) : En := [some r.W, some s.W, some (.ref n), e3, some (.int r.w), some (.int r.h), some (.int r.x), some (.int r.y), some (.int r.a), some (.int r.b), some (.int s.x), some (.int s.y), some (.int s.a), some (.int s.b), e14, e15]
theorem mtI_ok (r s : RunD) (S : Sto) (c d : Cg) (hc : c.Ok) (hd : d.Ok) (L : List (Int × Int)) (hl : L.length < 1000) (e15 : Option W) : ∃ e15', mtI (mtE r s S.length (some c.W) (some d.W) e15) (S ++ [.lst (L.map fr)]) = some (.next (mtE r s S.length (some c.W) (some d.W) e15'), S ++ [.lst ((L ++ (c.erl d).toList).map fr)]) := by
  have E := earliest_at hc hd
  have lz : (L.map fr).length < sizeLine := by rw [List.length_map]; exact Nat.lt_trans hl (by decide)
  unfold mtI mtE
  cases he : c.erl d with
  | none =>
    rw [he] at E
    refine ⟨some .non, ?_⟩
    simp only [optW] at E
    simp only [Option.toList_none, List.append_nil]
    generalize S ++ [O.lst (L.map fr)] = S' at *
    clear hc hd he hl lz
    simp only [fnB, en, List.map_cons, List.map_nil, List.length_cons, List.length_nil, List.replicate_succ, List.replicate_zero, List.cons_append, List.nil_append, List.append_nil, List.getElem?_cons_zero, List.getElem?_cons_succ, List.set_cons_zero, List.set_cons_succ,  Nat.zero_add, Nat.reduceAdd, Nat.reduceSub, Nat.sub_self, Nat.reduceEqDiff,  eVar, eC, eOp, eUn, aNil, aCons, eTup, eLst, eCall, eIf, eAnd, eOr, eNot, tVal, tAndW, tOrW, tNotW, eChain, sNext, sBrk, sCnt, sNever, sSeq, sRet, sRetN, sDrop, sIf, sAsg, sPar, sPar3, gN, gsNil, gsCons, gTupW, Option.bind_some, Option.bind_none,  s0, s1, s2, s3, s4, s6, subW, ltW, leW, gtW, geW, iop0, iop, modW, fdivW, powW, addW, mulW, negW, isi_int_int, isi_int_bool, isi_bl_int, isi_bl_bool, isi_non_int, isi_str_int, isi_tup_int, isi_tup_tup, eq_int, ne_int, len_p, len_6, len_l1, decide_true, decide_false, Int.reduceEq, Int.reduceNeg, absW, minW, ix_p0, ix_p1, ix_r0, ix_r1, ix_r2, ix_r3, ix_r4, ix_r5, if_true, if_false, ite_true, ite_false, Bool.not_true, Bool.not_false, Bool.false_eq_true, reduceIte, ↓reduceIte, eMethL, lstOf, get_last, set_last, appendW, notNW, isNW, W.isNon, ne_eq, not_false_eq_true, and_self, and_false, false_and, true_and, and_true, *]
  | some t =>
    rw [he] at E
    refine ⟨some (fr t), ?_⟩
    simp only [optW] at E
    rw [Option.toList_some, List.map_append]
    generalize L.map fr = L' at *
    clear hc hd he hl
    simp only [fnB, en, List.map_cons, List.map_nil, List.length_cons, List.length_nil, List.replicate_succ, List.replicate_zero, List.cons_append, List.nil_append, List.append_nil, List.getElem?_cons_zero, List.getElem?_cons_succ, List.set_cons_zero, List.set_cons_succ,  Nat.zero_add, Nat.reduceAdd, Nat.reduceSub, Nat.sub_self, Nat.reduceEqDiff,  eVar, eC, eOp, eUn, aNil, aCons, eTup, eLst, eCall, eIf, eAnd, eOr, eNot, tVal, tAndW, tOrW, tNotW, eChain, sNext, sBrk, sCnt, sNever, sSeq, sRet, sRetN, sDrop, sIf, sAsg, sPar, sPar3, gN, gsNil, gsCons, gTupW, Option.bind_some, Option.bind_none,  s0, s1, s2, s3, s4, s6, subW, ltW, leW, gtW, geW, iop0, iop, modW, fdivW, powW, addW, mulW, negW, isi_int_int, isi_int_bool, isi_bl_int, isi_bl_bool, isi_non_int, isi_str_int, isi_tup_int, isi_tup_tup, eq_int, ne_int, len_p, len_6, len_l1, decide_true, decide_false, Int.reduceEq, Int.reduceNeg, absW, minW, ix_p0, ix_p1, ix_r0, ix_r1, ix_r2, ix_r3, ix_r4, ix_r5, if_true, if_false, ite_true, ite_false, Bool.not_true, Bool.not_false, Bool.false_eq_true, reduceIte, ↓reduceIte, eMethL, lstOf, get_last, set_last, appendW, notNW, isNW, W.isNon, ne_eq, not_false_eq_true, and_self, and_false, false_and, true_and, and_true, *]
theorem mt_in (r s : RunD) (S : Sto) (c : Cg) (hc : c.Ok) (chk : Sto → Prop) (hk : ∀ S, chk S) : ∀ (ds : List Cg) (L : List (Int × Int)) (e14 e15 : Option W), (∀ d ∈ ds, d.Ok) → L.length + ds.length < 1000 → ∃ e14' e15', forF (gN 14) mtI chk (ds.map Cg.W) (mtE r s S.length (some c.W) e14 e15) (S ++ [.lst (L.map fr)]) = some (.next (mtE r s S.length (some c.W) e14' e15'), S ++ [.lst ((L ++ ds.filterMap fun d => c.erl d).map fr)])
  | [], L, e14, e15, _, _ => ⟨e14, e15, by rw [List.map_nil, forF_nil, if_pos (hk _), List.filterMap_nil, List.append_nil]⟩
  | d :: ds, L, e14, e15, hd, hl => by
    simp only [List.length_cons] at hl
    obtain ⟨f15, h1⟩ := mtI_ok r s S c d hc (hd d (List.mem_cons_self ..)) L (by omega) e15
    have ll : (L ++ (c.erl d).toList).length ≤ L.length + 1 := by cases c.erl d <;> simp
    obtain ⟨g14, g15, h2⟩ := mt_in r s S c hc chk hk ds (L ++ (c.erl d).toList) (some d.W) f15 (fun d' h => hd d' (List.mem_cons_of_mem _ h)) (by omega)
    refine ⟨g14, g15, ?_⟩
    rw [List.map_cons, forF_cons, if_pos (hk _)]
    have g : gN 14 d.W (mtE r s S.length (some c.W) e14 e15) (S ++ [.lst (L.map fr)]) = some (mtE r s S.length (some c.W) (some d.W) e15, S ++ [.lst (L.map fr)]) := rfl
    rw [g]
    simp only [Option.bind_some]
    rw [h1]
    simp only [Option.bind_some]
    rw [h2]
    have e : (d :: ds).filterMap (fun d => c.erl d) = (c.erl d).toList ++ ds.filterMap fun d => c.erl d := by
      rw [List.filterMap_cons]
      cases c.erl d <;> rfl
    rw [e, List.append_assoc]
theorem mtL_it (r s : RunD) (n : Nat) (e3 e14 e15 : Option W) (S : Sto) : (iSeq (eTup (aCons (eTup (aCons (eOp subW (eVar 9) (eVar 13)) (aCons (eOp subW (eVar 11) (eVar 7)) (aCons (eOp mulW (eC (.int 2)) (eVar 5)) (aNil))))) (aCons (eTup (aCons (eOp addW (eVar 9) (eVar 13)) (aCons (eOp subW (eUn negW (eVar 11)) (eVar 7)) (aCons (eOp mulW (eC (.int 2)) (eVar 5)) (aNil))))) (aNil))))) (mtE r s n e3 e14 e15) S = some (⟨(r.mB s).map Cg.W, fun _ => True⟩, S) := by
  have k : okMul 2 r.h := .inl (by decide)
  unfold mtE iSeq
  simp only [fnB, en, List.map_cons, List.map_nil, List.length_cons, List.length_nil, List.replicate_succ, List.replicate_zero, List.cons_append, List.nil_append, List.append_nil, List.getElem?_cons_zero, List.getElem?_cons_succ, List.set_cons_zero, List.set_cons_succ,  Nat.zero_add, Nat.reduceAdd, Nat.reduceSub, Nat.sub_self, Nat.reduceEqDiff,  eVar, eC, eOp, eUn, aNil, aCons, eTup, eLst, eCall, eIf, eAnd, eOr, eNot, tVal, tAndW, tOrW, tNotW, eChain, sNext, sBrk, sCnt, sNever, sSeq, sRet, sRetN, sDrop, sIf, sAsg, sPar, sPar3, gN, gsNil, gsCons, gTupW, Option.bind_some, Option.bind_none,  s0, s1, s2, s3, s4, s6, subW, ltW, leW, gtW, geW, iop0, iop, modW, fdivW, powW, addW, mulW, negW, isi_int_int, isi_int_bool, isi_bl_int, isi_bl_bool, isi_non_int, isi_str_int, isi_tup_int, isi_tup_tup, eq_int, ne_int, len_p, len_6, len_l1, decide_true, decide_false, Int.reduceEq, Int.reduceNeg, absW, minW, ix_p0, ix_p1, ix_r0, ix_r1, ix_r2, ix_r3, ix_r4, ix_r5, if_true, if_false, ite_true, ite_false, Bool.not_true, Bool.not_false, Bool.false_eq_true, reduceIte, ↓reduceIte, s3, ne_eq, not_false_eq_true, and_self, and_false, false_and, true_and, and_true, *]
  rfl
theorem mt_out (r s : RunD) (S : Sto) (hB : ∀ d ∈ r.mB s, d.Ok) (chk : Sto → Prop) (hk : ∀ S, chk S) : ∀ (cs : List Cg) (L : List (Int × Int)) (e3 e14 e15 : Option W), (∀ c ∈ cs, c.Ok) → L.length + 2 * cs.length < 1000 → ∃ e3' e14' e15', forF (gN 3) mtL chk (cs.map Cg.W) (mtE r s S.length e3 e14 e15) (S ++ [.lst (L.map fr)]) = some (.next (mtE r s S.length e3' e14' e15'), S ++ [.lst ((L ++ Cg.all cs (r.mB s)).map fr)])
  | [], L, e3, e14, e15, _, _ => ⟨e3, e14, e15, by
      rw [List.map_nil, forF_nil, if_pos (hk _)]
      show _ = some (Out.next _, S ++ [.lst ((L ++ []).map fr)])
      rw [List.append_nil]⟩
  | c :: cs, L, e3, e14, e15, hc, hl => by
    simp only [List.length_cons] at hl
    have lb : (r.mB s).length = 2 := rfl
    obtain ⟨f14, f15, h1⟩ := mt_in r s S c (hc c (List.mem_cons_self ..)) (fun _ => True) (fun _ => trivial) (r.mB s) L e14 e15 hB (by omega)
    have lf := List.length_filterMap_le (fun d => c.erl d) (r.mB s)
    obtain ⟨g3, g14, g15, h2⟩ := mt_out r s S hB chk hk cs (L ++ (r.mB s).filterMap fun d => c.erl d) (some c.W) f14 f15 (fun d' h => hc d' (List.mem_cons_of_mem _ h)) (by rw [List.length_append]; omega)
    refine ⟨g3, g14, g15, ?_⟩
    rw [List.map_cons, forF_cons, if_pos (hk _)]
    have g : gN 3 c.W (mtE r s S.length e3 e14 e15) (S ++ [.lst (L.map fr)]) = some (mtE r s S.length (some c.W) e14 e15, S ++ [.lst (L.map fr)]) := rfl
    rw [g]
    simp only [Option.bind_some]
    have bd : mtL (mtE r s S.length (some c.W) e14 e15) (S ++ [.lst (L.map fr)]) = some (.next (mtE r s S.length (some c.W) f14 f15), S ++ [.lst ((L ++ (r.mB s).filterMap fun d => c.erl d).map fr)]) := by
      unfold mtL sFor
      rw [mtL_it]
      simp only [Option.bind_some]
      exact h1
    rw [bd]
    simp only [Option.bind_some]
    rw [h2]
    show some (Out.next _, S ++ [.lst ((L ++ (r.mB s).filterMap (fun d => c.erl d) ++ Cg.all cs (r.mB s)).map fr)]) = some (Out.next _, S ++ [.lst ((L ++ Cg.all (c :: cs) (r.mB s)).map fr)])
    have e : Cg.all (c :: cs) (r.mB s) = (r.mB s).filterMap (fun d => c.erl d) ++ Cg.all cs (r.mB s) := by
      unfold Cg.all
      rw [List.flatMap_cons]
    rw [e, List.append_assoc]
theorem mA_ok {r s : RunD} (hr : r.Ok) (hs : s.Ok) (hw : r.w = s.w) : ∀ c ∈ r.mA s, c.Ok := by
  obtain ⟨h1, h2, h3, h4, h5, h6, h7⟩ : okRun r.w r.h r.x r.y r.a r.b := hr
  obtain ⟨k1, k2, k3, k4, k5, k6, k7⟩ : okRun s.w s.h s.x s.y s.a s.b := hs
  intro c hc
  simp only [RunD.mA, List.mem_cons, List.mem_singleton, List.not_mem_nil, or_false] at hc
  rcases hc with rfl | rfl
  · exact ⟨by show (r.a - s.a).natAbs ≤ 100; omega, by show (s.x - r.x).natAbs ≤ 100; omega, by show 0 < 2 * r.w; omega, by show 2 * r.w ≤ 100; omega⟩
  · exact ⟨by show (r.a + s.a).natAbs ≤ 100; omega, by show (-s.x - r.x).natAbs ≤ 100; omega, by show 0 < 2 * r.w; omega, by show 2 * r.w ≤ 100; omega⟩
theorem mB_ok {r s : RunD} (hr : r.Ok) (hs : s.Ok) (hw : r.h = s.h) : ∀ c ∈ r.mB s, c.Ok := by
  obtain ⟨h1, h2, h3, h4, h5, h6, h7⟩ : okRun r.w r.h r.x r.y r.a r.b := hr
  obtain ⟨k1, k2, k3, k4, k5, k6, k7⟩ : okRun s.w s.h s.x s.y s.a s.b := hs
  intro c hc
  simp only [RunD.mB, List.mem_cons, List.mem_singleton, List.not_mem_nil, or_false] at hc
  rcases hc with rfl | rfl
  · exact ⟨by show (r.b - s.b).natAbs ≤ 100; omega, by show (s.y - r.y).natAbs ≤ 100; omega, by show 0 < 2 * r.h; omega, by show 2 * r.h ≤ 100; omega⟩
  · exact ⟨by show (r.b + s.b).natAbs ≤ 100; omega, by show (-s.y - r.y).natAbs ≤ 100; omega, by show 0 < 2 * r.h; omega, by show 2 * r.h ≤ 100; omega⟩
theorem t_meeting : Tells 16 b_meeting G_meeting := by
  intro ws S r hh
  unfold G_meeting at hh
  split at hh
  · split at hh
    · rename_i w h x y a b w' h' x' y' a' b' hb
      cases hh
      obtain ⟨k1, k2, rfl, rfl⟩ := hb
      have ok1 : RunD.Ok ⟨w, h, x, y, a, b⟩ := k1
      have ok2 : RunD.Ok ⟨w, h, x', y', a', b'⟩ := k2
      have N1 : ∀ S, G_need_run [.tup [.int w, .int h, .int x, .int y, .int a, .int b]] S = some (.non, S) := fun S => by simp only [G_need_run, k1, if_true]
      have N2 : ∀ S, G_need_run [.tup [.int w, .int h, .int x', .int y', .int a', .int b']] S = some (.non, S) := fun S => by simp only [G_need_run, k2, if_true]
      have ne : ∀ S, neW (.tup [.int w, .int h]) (.tup [.int w, .int h]) S = some (.bl false, S) := fun S => by
        have := ne_fr (w, h) (w, h) S
        rw [decide_eq_true rfl] at this
        exact this
      have om : okMul 2 w := .inl (by decide)
      have hA := mA_ok ok1 ok2 rfl
      have hB := mB_ok ok1 ok2 rfl
      have it : iSeq (eTup (aCons (eTup (aCons (eOp subW (eVar 8) (eVar 12)) (aCons (eOp subW (eVar 10) (eVar 6)) (aCons (eOp mulW (eC (.int 2)) (eVar 4)) (aNil))))) (aCons (eTup (aCons (eOp addW (eVar 8) (eVar 12)) (aCons (eOp subW (eUn negW (eVar 10)) (eVar 6)) (aCons (eOp mulW (eC (.int 2)) (eVar 4)) (aNil))))) (aNil)))) (mtE ⟨w, h, x, y, a, b⟩ ⟨w, h, x', y', a', b'⟩ S.length none none none) (S ++ [.lst []]) = some (⟨(RunD.mA ⟨w, h, x, y, a, b⟩ ⟨w, h, x', y', a', b'⟩).map Cg.W, fun _ => True⟩, S ++ [.lst []]) := by
        unfold mtE iSeq
        clear hA hB ok1 ok2 k1 k2
        simp only [fnB, en, List.map_cons, List.map_nil, List.length_cons, List.length_nil, List.replicate_succ, List.replicate_zero, List.cons_append, List.nil_append, List.append_nil, List.getElem?_cons_zero, List.getElem?_cons_succ, List.set_cons_zero, List.set_cons_succ,  Nat.zero_add, Nat.reduceAdd, Nat.reduceSub, Nat.sub_self, Nat.reduceEqDiff,  eVar, eC, eOp, eUn, aNil, aCons, eTup, eLst, eCall, eIf, eAnd, eOr, eNot, tVal, tAndW, tOrW, tNotW, eChain, sNext, sBrk, sCnt, sNever, sSeq, sRet, sRetN, sDrop, sIf, sAsg, sPar, sPar3, gN, gsNil, gsCons, gTupW, Option.bind_some, Option.bind_none,  s0, s1, s2, s3, s4, s6, subW, ltW, leW, gtW, geW, iop0, iop, modW, fdivW, powW, addW, mulW, negW, isi_int_int, isi_int_bool, isi_bl_int, isi_bl_bool, isi_non_int, isi_str_int, isi_tup_int, isi_tup_tup, eq_int, ne_int, len_p, len_6, len_l1, decide_true, decide_false, Int.reduceEq, Int.reduceNeg, absW, minW, ix_p0, ix_p1, ix_r0, ix_r1, ix_r2, ix_r3, ix_r4, ix_r5, if_true, if_false, ite_true, ite_false, Bool.not_true, Bool.not_false, Bool.false_eq_true, reduceIte, ↓reduceIte, s3, ne_eq, not_false_eq_true, and_self, and_false, false_and, true_and, and_true, *]
        rfl
      obtain ⟨e3, e14, e15, hl⟩ := mt_out ⟨w, h, x, y, a, b⟩ ⟨w, h, x', y', a', b'⟩ S hB (fun _ => True) (fun _ => trivial) _ [] none none none hA (by show 0 + 2 * 2 < 1000; decide)
      rw [List.nil_append] at hl
      have L := least_at (S := S ++ [.lst ((Cg.all (RunD.mA ⟨w, h, x, y, a, b⟩ ⟨w, h, x', y', a', b'⟩) (RunD.mB ⟨w, h, x, y, a, b⟩ ⟨w, h, x', y', a', b'⟩)).map fr)]) (n := S.length) get_last (Cg.all_den hA hB)
      refine ⟨(optW (RunD.mtg ⟨w, h, x, y, a, b⟩ ⟨w, h, x', y', a', b'⟩), S ++ [.lst ((Cg.all (RunD.mA ⟨w, h, x, y, a, b⟩ ⟨w, h, x', y', a', b'⟩) (RunD.mB ⟨w, h, x, y, a, b⟩ ⟨w, h, x', y', a', b'⟩)).map fr)]), fnB_ret ?_, .val _ _ (by cases RunD.mtg ⟨w, h, x, y, a, b⟩ ⟨w, h, x', y', a', b'⟩ <;> simp [optW, below, belows])⟩
      unfold b_meeting
      refine' seq_trans (e' := en 16 [.tup [.int w, .int h, .int x, .int y, .int a, .int b], .tup [.int w, .int h, .int x', .int y', .int a', .int b']]) (S' := S) _ _
      · clear it hl L hA hB ok1 ok2 k1 k2
        simp only [fnB, en, List.map_cons, List.map_nil, List.length_cons, List.length_nil, List.replicate_succ, List.replicate_zero, List.cons_append, List.nil_append, List.append_nil, List.getElem?_cons_zero, List.getElem?_cons_succ, List.set_cons_zero, List.set_cons_succ,  Nat.zero_add, Nat.reduceAdd, Nat.reduceSub, Nat.sub_self, Nat.reduceEqDiff,  eVar, eC, eOp, eUn, aNil, aCons, eTup, eLst, eCall, eIf, eAnd, eOr, eNot, tVal, tAndW, tOrW, tNotW, eChain, sNext, sBrk, sCnt, sNever, sSeq, sRet, sRetN, sDrop, sIf, sAsg, sPar, sPar3, gN, gsNil, gsCons, gTupW, Option.bind_some, Option.bind_none,  s0, s1, s2, s3, s4, s6, subW, ltW, leW, gtW, geW, iop0, iop, modW, fdivW, powW, addW, mulW, negW, isi_int_int, isi_int_bool, isi_bl_int, isi_bl_bool, isi_non_int, isi_str_int, isi_tup_int, isi_tup_tup, eq_int, ne_int, len_p, len_6, len_l1, decide_true, decide_false, Int.reduceEq, Int.reduceNeg, absW, minW, ix_p0, ix_p1, ix_r0, ix_r1, ix_r2, ix_r3, ix_r4, ix_r5, if_true, if_false, ite_true, ite_false, Bool.not_true, Bool.not_false, Bool.false_eq_true, reduceIte, ↓reduceIte, eSlice, oSome, oNone, slice_r2, slice_rt, s4, ne_eq, not_false_eq_true, and_self, and_false, false_and, true_and, and_true, *]
      refine' seq_trans (e' := en 16 [.tup [.int w, .int h, .int x, .int y, .int a, .int b], .tup [.int w, .int h, .int x', .int y', .int a', .int b']]) (S' := S) _ _
      · clear it hl L hA hB ok1 ok2 k1 k2
        simp only [fnB, en, List.map_cons, List.map_nil, List.length_cons, List.length_nil, List.replicate_succ, List.replicate_zero, List.cons_append, List.nil_append, List.append_nil, List.getElem?_cons_zero, List.getElem?_cons_succ, List.set_cons_zero, List.set_cons_succ,  Nat.zero_add, Nat.reduceAdd, Nat.reduceSub, Nat.sub_self, Nat.reduceEqDiff,  eVar, eC, eOp, eUn, aNil, aCons, eTup, eLst, eCall, eIf, eAnd, eOr, eNot, tVal, tAndW, tOrW, tNotW, eChain, sNext, sBrk, sCnt, sNever, sSeq, sRet, sRetN, sDrop, sIf, sAsg, sPar, sPar3, gN, gsNil, gsCons, gTupW, Option.bind_some, Option.bind_none,  s0, s1, s2, s3, s4, s6, subW, ltW, leW, gtW, geW, iop0, iop, modW, fdivW, powW, addW, mulW, negW, isi_int_int, isi_int_bool, isi_bl_int, isi_bl_bool, isi_non_int, isi_str_int, isi_tup_int, isi_tup_tup, eq_int, ne_int, len_p, len_6, len_l1, decide_true, decide_false, Int.reduceEq, Int.reduceNeg, absW, minW, ix_p0, ix_p1, ix_r0, ix_r1, ix_r2, ix_r3, ix_r4, ix_r5, if_true, if_false, ite_true, ite_false, Bool.not_true, Bool.not_false, Bool.false_eq_true, reduceIte, ↓reduceIte, eSlice, oSome, oNone, slice_r2, slice_rt, s4, ne_eq, not_false_eq_true, and_self, and_false, false_and, true_and, and_true, *]
      refine' seq_trans (e' := en 16 [.tup [.int w, .int h, .int x, .int y, .int a, .int b], .tup [.int w, .int h, .int x', .int y', .int a', .int b']]) (S' := S) _ _
      · clear it hl L hA hB ok1 ok2 k1 k2
        simp only [fnB, en, List.map_cons, List.map_nil, List.length_cons, List.length_nil, List.replicate_succ, List.replicate_zero, List.cons_append, List.nil_append, List.append_nil, List.getElem?_cons_zero, List.getElem?_cons_succ, List.set_cons_zero, List.set_cons_succ,  Nat.zero_add, Nat.reduceAdd, Nat.reduceSub, Nat.sub_self, Nat.reduceEqDiff,  eVar, eC, eOp, eUn, aNil, aCons, eTup, eLst, eCall, eIf, eAnd, eOr, eNot, tVal, tAndW, tOrW, tNotW, eChain, sNext, sBrk, sCnt, sNever, sSeq, sRet, sRetN, sDrop, sIf, sAsg, sPar, sPar3, gN, gsNil, gsCons, gTupW, Option.bind_some, Option.bind_none,  s0, s1, s2, s3, s4, s6, subW, ltW, leW, gtW, geW, iop0, iop, modW, fdivW, powW, addW, mulW, negW, isi_int_int, isi_int_bool, isi_bl_int, isi_bl_bool, isi_non_int, isi_str_int, isi_tup_int, isi_tup_tup, eq_int, ne_int, len_p, len_6, len_l1, decide_true, decide_false, Int.reduceEq, Int.reduceNeg, absW, minW, ix_p0, ix_p1, ix_r0, ix_r1, ix_r2, ix_r3, ix_r4, ix_r5, if_true, if_false, ite_true, ite_false, Bool.not_true, Bool.not_false, Bool.false_eq_true, reduceIte, ↓reduceIte, eSlice, oSome, oNone, slice_r2, slice_rt, s4, ne_eq, not_false_eq_true, and_self, and_false, false_and, true_and, and_true, *]
      refine' seq_trans (e' := [some (.tup [.int w, .int h, .int x, .int y, .int a, .int b]), some (.tup [.int w, .int h, .int x', .int y', .int a', .int b']), none, none, some (.int w), some (.int h), some (.int x), some (.int y), some (.int a), some (.int b), none, none, none, none, none, none]) (S' := S) _ _
      · clear it hl L hA hB ok1 ok2 k1 k2
        simp only [fnB, en, List.map_cons, List.map_nil, List.length_cons, List.length_nil, List.replicate_succ, List.replicate_zero, List.cons_append, List.nil_append, List.append_nil, List.getElem?_cons_zero, List.getElem?_cons_succ, List.set_cons_zero, List.set_cons_succ,  Nat.zero_add, Nat.reduceAdd, Nat.reduceSub, Nat.sub_self, Nat.reduceEqDiff,  eVar, eC, eOp, eUn, aNil, aCons, eTup, eLst, eCall, eIf, eAnd, eOr, eNot, tVal, tAndW, tOrW, tNotW, eChain, sNext, sBrk, sCnt, sNever, sSeq, sRet, sRetN, sDrop, sIf, sAsg, sPar, sPar3, gN, gsNil, gsCons, gTupW, Option.bind_some, Option.bind_none,  s0, s1, s2, s3, s4, s6, subW, ltW, leW, gtW, geW, iop0, iop, modW, fdivW, powW, addW, mulW, negW, isi_int_int, isi_int_bool, isi_bl_int, isi_bl_bool, isi_non_int, isi_str_int, isi_tup_int, isi_tup_tup, eq_int, ne_int, len_p, len_6, len_l1, decide_true, decide_false, Int.reduceEq, Int.reduceNeg, absW, minW, ix_p0, ix_p1, ix_r0, ix_r1, ix_r2, ix_r3, ix_r4, ix_r5, if_true, if_false, ite_true, ite_false, Bool.not_true, Bool.not_false, Bool.false_eq_true, reduceIte, ↓reduceIte, eSlice, oSome, oNone, slice_r2, slice_rt, s4, ne_eq, not_false_eq_true, and_self, and_false, false_and, true_and, and_true, *]
      refine' seq_trans (e' := [some (.tup [.int w, .int h, .int x, .int y, .int a, .int b]), some (.tup [.int w, .int h, .int x', .int y', .int a', .int b']), none, none, some (.int w), some (.int h), some (.int x), some (.int y), some (.int a), some (.int b), some (.int x'), some (.int y'), some (.int a'), some (.int b'), none, none]) (S' := S) _ _
      · clear it hl L hA hB ok1 ok2 k1 k2
        simp only [fnB, en, List.map_cons, List.map_nil, List.length_cons, List.length_nil, List.replicate_succ, List.replicate_zero, List.cons_append, List.nil_append, List.append_nil, List.getElem?_cons_zero, List.getElem?_cons_succ, List.set_cons_zero, List.set_cons_succ,  Nat.zero_add, Nat.reduceAdd, Nat.reduceSub, Nat.sub_self, Nat.reduceEqDiff,  eVar, eC, eOp, eUn, aNil, aCons, eTup, eLst, eCall, eIf, eAnd, eOr, eNot, tVal, tAndW, tOrW, tNotW, eChain, sNext, sBrk, sCnt, sNever, sSeq, sRet, sRetN, sDrop, sIf, sAsg, sPar, sPar3, gN, gsNil, gsCons, gTupW, Option.bind_some, Option.bind_none,  s0, s1, s2, s3, s4, s6, subW, ltW, leW, gtW, geW, iop0, iop, modW, fdivW, powW, addW, mulW, negW, isi_int_int, isi_int_bool, isi_bl_int, isi_bl_bool, isi_non_int, isi_str_int, isi_tup_int, isi_tup_tup, eq_int, ne_int, len_p, len_6, len_l1, decide_true, decide_false, Int.reduceEq, Int.reduceNeg, absW, minW, ix_p0, ix_p1, ix_r0, ix_r1, ix_r2, ix_r3, ix_r4, ix_r5, if_true, if_false, ite_true, ite_false, Bool.not_true, Bool.not_false, Bool.false_eq_true, reduceIte, ↓reduceIte, eSlice, oSome, oNone, slice_r2, slice_rt, s4, ne_eq, not_false_eq_true, and_self, and_false, false_and, true_and, and_true, *]
      refine' seq_trans (e' := mtE ⟨w, h, x, y, a, b⟩ ⟨w, h, x', y', a', b'⟩ S.length none none none) (S' := S ++ [.lst []]) _ _
      · clear it hl L hA hB ok1 ok2 k1 k2
        unfold mtE
        simp only [fnB, en, List.map_cons, List.map_nil, List.length_cons, List.length_nil, List.replicate_succ, List.replicate_zero, List.cons_append, List.nil_append, List.append_nil, List.getElem?_cons_zero, List.getElem?_cons_succ, List.set_cons_zero, List.set_cons_succ,  Nat.zero_add, Nat.reduceAdd, Nat.reduceSub, Nat.sub_self, Nat.reduceEqDiff,  eVar, eC, eOp, eUn, aNil, aCons, eTup, eLst, eCall, eIf, eAnd, eOr, eNot, tVal, tAndW, tOrW, tNotW, eChain, sNext, sBrk, sCnt, sNever, sSeq, sRet, sRetN, sDrop, sIf, sAsg, sPar, sPar3, gN, gsNil, gsCons, gTupW, Option.bind_some, Option.bind_none,  s0, s1, s2, s3, s4, s6, subW, ltW, leW, gtW, geW, iop0, iop, modW, fdivW, powW, addW, mulW, negW, isi_int_int, isi_int_bool, isi_bl_int, isi_bl_bool, isi_non_int, isi_str_int, isi_tup_int, isi_tup_tup, eq_int, ne_int, len_p, len_6, len_l1, decide_true, decide_false, Int.reduceEq, Int.reduceNeg, absW, minW, ix_p0, ix_p1, ix_r0, ix_r1, ix_r2, ix_r3, ix_r4, ix_r5, if_true, if_false, ite_true, ite_false, Bool.not_true, Bool.not_false, Bool.false_eq_true, reduceIte, ↓reduceIte, eSlice, oSome, oNone, slice_r2, slice_rt, s4, ne_eq, not_false_eq_true, and_self, and_false, false_and, true_and, and_true, *]
      refine' seq_trans (e' := mtE ⟨w, h, x, y, a, b⟩ ⟨w, h, x', y', a', b'⟩ S.length e3 e14 e15) (S' := S ++ [.lst ((Cg.all (RunD.mA ⟨w, h, x, y, a, b⟩ ⟨w, h, x', y', a', b'⟩) (RunD.mB ⟨w, h, x, y, a, b⟩ ⟨w, h, x', y', a', b'⟩)).map fr)]) _ _
      · simp only [sFor, it, Option.bind_some]
        exact hl
      simp only [sRet, eCall, aCons, aNil, eVar, mtE, List.getElem?_cons_zero, List.getElem?_cons_succ, Option.bind_some, L]
      rfl
    · cases hh
  · cases hh
theorem l_meeting : ∀ ws S r, G_meeting ws S = some r → ws.length = 2 := by
  intro ws S r h
  unfold G_meeting at h
  split at h <;> first | rfl | cases h
end Bp

/-! Ev10: dicts at the data: {}, {k: v, ..}, d[k], d[k] = v, k in d; x in a tuple of tuples. -/
namespace Bp
set_option autoImplicit false
open PySem L2
section
variable {K : PySem.W.Frag}
def keyOf : W → Option Key
  | .int i => some (.inl i)
  | .str x => some (.inr x)
  | _ => none
theorem key_rep {r : List Addr} {H : Hp} {w : W} {v : V} {k : Key} (h : Rep K r H w v) (e : keyOf w = some k) : v = kV k := by
  cases h <;> simp [keyOf] at e <;> subst e <;> rfl
theorem keys_rep {r : List Addr} {H : Hp} : ∀ {ws : List W} {vs : List V} {ks : List Key}, Reps K r H ws vs → mapO keyOf ws = some ks → vs = ks.map kV
  | [], _, _, h, e => by cases h; cases e; rfl
  | w :: ws, _, _, h, e => by
    cases h with
    | cons a b =>
      obtain ⟨k, h1, e⟩ := bindS e
      obtain ⟨ks, h2, e⟩ := bindS e
      cases e
      rw [List.map_cons, ← key_rep a h1, ← keys_rep b h2]
section
variable {κ : Type} [DecidableEq κ]
def valW (kvs : List (κ × W)) (k : κ) : Option W := (kvs.find? fun kv => decide (kv.1 = k)).map (·.2)
def putW (kvs : List (κ × W)) (k : κ) (v : W) : List (κ × W) :=
  if (kvs.any fun kv => decide (kv.1 = k)) = true then kvs.map (fun kv => if kv.1 = k then (kv.1, v) else kv) else kvs ++ [(k, v)]
theorem KReps.val {r : List Addr} {H : Hp} {kvs : List (κ × W)} {ks : List (κ × V)} (h : KReps K r H kvs ks) (k : κ) : (valW kvs k = none ∧ valV ks k = none) ∨ ∃ w v, valW kvs k = some w ∧ valV ks k = some v ∧ Rep K r H w v := by
  induction h with
  | nil => exact .inl ⟨rfl, rfl⟩
  | @cons k' w v ws vs a b ih =>
    by_cases q : k' = k
    · refine .inr ⟨w, v, ?_, ?_, a⟩
      · unfold valW; rw [List.find?_cons_of_pos (by simp [q])]; rfl
      · unfold valV; rw [List.find?_cons_of_pos (by simp [q])]; rfl
    · unfold valW valV at ih ⊢
      rw [List.find?_cons_of_neg (by simp [q]), List.find?_cons_of_neg (by simp [q])]
      exact ih
theorem KReps.len {r : List Addr} {H : Hp} {kvs : List (κ × W)} {ks : List (κ × V)} (h : KReps K r H kvs ks) : ks.length = kvs.length := by
  induction h with
  | nil => rfl
  | cons a b ih => simp [ih]
theorem KReps.any {r : List Addr} {H : Hp} {kvs : List (κ × W)} {ks : List (κ × V)} (h : KReps K r H kvs ks) (k : κ) : (ks.any fun kv => decide (kv.1 = k)) = (kvs.any fun kv => decide (kv.1 = k)) := by
  induction h with
  | nil => rfl
  | cons a b ih => simp [ih]
theorem KReps.app {r : List Addr} {H : Hp} {kvs : List (κ × W)} {ks : List (κ × V)} {k : κ} {w : W} {v : V} (h : KReps K r H kvs ks) (hw : Rep K r H w v) : KReps K r H (kvs ++ [(k, w)]) (ks ++ [(k, v)]) := by
  induction h with
  | nil => exact .cons hw .nil
  | cons a b ih => exact .cons a ih
theorem KReps.sub {r : List Addr} {H : Hp} {kvs : List (κ × W)} {ks : List (κ × V)} {k : κ} {w : W} {v : V} (h : KReps K r H kvs ks) (hw : Rep K r H w v) : KReps K r H (kvs.map (fun kv => if kv.1 = k then (kv.1, w) else kv)) (ks.map (fun kv => if kv.1 = k then (kv.1, v) else kv)) := by
  induction h with
  | nil => exact .nil
  | @cons k' w' v' ws vs a b ih =>
    rw [List.map_cons, List.map_cons]
    by_cases q : k' = k
    · simp only [q, if_true]; exact .cons hw ih
    · simp only [q, if_false]; exact .cons a ih
theorem KReps.put {r : List Addr} {H : Hp} {kvs : List (κ × W)} {ks : List (κ × V)} {k : κ} {w : W} {v : V} (h : KReps K r H kvs ks) (hw : Rep K r H w v) : KReps K r H (putW kvs k w) (putK ks k v) := by
  unfold putW putK
  rw [h.any k]
  split
  · exact h.sub hw
  · exact h.app hw
end
/-- what the dict d holds at y -/
def dGet (S : Sto) (d y : W) : Option (Option W) := match d with
  | .ref n => match S[n]? with
    | some (.dK kvs) => (keyOf y).bind fun k => some (valW kvs k)
    | some (.dT kvs) => match y with
      | .tup ws => (mapO keyOf ws).bind fun ks => some (valW kvs ks)
      | _ => none
    | _ => none
  | _ => none
theorem dGet_ok {r : List Addr} {S : Sto} {H : Hp} {wd wy : W} {x y : V} {o : Option W} (s : Sim K r S H) (rd : Rep K r H wd x) (ry : Rep K r H wy y) (e : dGet S wd wy = some o) : ∃ a ov, x = .ref a ∧ DGet H a y ov ∧ ((o = none ∧ ov = none) ∨ ∃ w u, o = some w ∧ ov = some u ∧ Rep K r H w u) := by
  unfold dGet at e
  split at e
  · rename_i n
    cases rd with
    | @ref a _ ha =>
      split at e
      · rename_i kvs hn
        obtain ⟨k, e1, e⟩ := bindS e
        cases e
        obtain ⟨ks, h1, h2⟩ := s.obj _ _ _ ha hn
        have := key_rep ry e1
        subst this
        refine ⟨a, valV ks k, rfl, DGet.k h1, ?_⟩
        rcases h2.val k with ⟨q1, q2⟩ | ⟨w, v, q1, q2, q3⟩
        · exact .inl ⟨q1, q2⟩
        · exact .inr ⟨w, v, q1, q2, q3⟩
      · rename_i kvs hn
        split at e
        · rename_i ws
          obtain ⟨ks', e1, e⟩ := bindS e
          cases e
          obtain ⟨ks, h1, h2⟩ := s.obj _ _ _ ha hn
          obtain ⟨b, ys, rfl, hb, hy⟩ := ry.tupH
          have := keys_rep hy e1
          subst this
          refine ⟨a, valV ks ks', rfl, DGet.t h1 hb, ?_⟩
          rcases h2.val ks' with ⟨q1, q2⟩ | ⟨w, v, q1, q2, q3⟩
          · exact .inl ⟨q1, q2⟩
          · exact .inr ⟨w, v, q1, q2, q3⟩
        · cases e
      · cases e
  · cases e
def getDW (a b : W) (S : Sto) : Option (W × Sto) := (dGet S a b).bind fun o => o.bind fun w => some (w, S)
def inDW (a b : W) (S : Sto) : Option (W × Sto) := (dGet S b a).bind fun o => some (.bl o.isSome, S)
def notInDW (a b : W) (S : Sto) : Option (W × Sto) := (dGet S b a).bind fun o => some (.bl (!o.isSome), S)
/-- d[k] = v -/
def setDW (o i v : W) (S : Sto) : Option Sto := match o with
  | .ref n => match S[n]? with
    | some (.dK kvs) => (keyOf i).bind fun k => if kvs.length < sizeLine then some (S.set n (.dK (putW kvs k v))) else none
    | some (.dT kvs) => match i with
      | .tup ws => (mapO keyOf ws).bind fun ks => if kvs.length < sizeLine then some (S.set n (.dT (putW kvs ks v))) else none
      | _ => none
    | _ => none
  | _ => none
end
section
variable {X : Cx} {a b : Expr} {f g : Fe} {pos : Pos}
theorem w_dget (hu : X.A.units + 1 < cLine) (ha : PE X a (tE X.K f)) (hb : PE X b (tE X.K g)) (hs : NoSl b := by first | exact ⟨_, rfl⟩ | rfl | (intros; rfl)) : PE X (.Subscript a b pos) (tE X.K (eOp getDW f g)) := by
  refine pe_w (pe_dget hu ha hb hs) fun σ H Q q => ?_
  obtain ⟨r, e, S, w, S', at_, hf, k⟩ := q
  obtain ⟨p, h1, hf⟩ := bindS hf
  obtain ⟨p2, h2, hf⟩ := bindS hf
  obtain ⟨o, h3, hf⟩ := bindS hf
  obtain ⟨w', h4, hf⟩ := bindS hf
  cases hf
  refine ⟨r, e, S, p.1, p.2, at_, h1, fun r1 v1 H1 pr1 s1 k1 rep1 => ⟨r1, e, p.2, p2.1, p2.2, at_.up pr1 s1 k1, h2, fun r2 v2 H2 pr2 s2 k2 rep2 => ?_⟩⟩
  obtain ⟨a, ov, e1, e2, e3⟩ := dGet_ok s2 (rep1.up pr2 k2) rep2 h3
  rcases e3 with ⟨q1, q2⟩ | ⟨w3, u, q1, q2, q3⟩
  · rw [q1] at h4; cases h4
  · rw [q1] at h4; cases h4
    subst q2
    exact ⟨a, u, e1, e2, k r2 u H2 (pr1.trans pr2) s2 (k1.trans k2) q3⟩
abbrev rInDct : R2 := fun x y H Q => ∃ a o, y = .ref a ∧ DGet H a x o ∧ Q (.bl o.isSome) H
abbrev rNotInDct : R2 := fun x y H Q => ∃ a o, y = .ref a ∧ DGet H a x o ∧ Q (.bl (!o.isSome)) H
theorem op_inDct (hu : X.A.units + 1 < cLine) : OpR X (compareOp .In) rInDct := by
  intro pins s σ H x y v u Q I rx ry h
  obtain ⟨a, o, rfl, g, q⟩ := h
  obtain rfl : u = Value.ref a := ry
  exact d_in hu I g rx fun s' I' => ⟨.bl o.isSome, H, I', rfl, q⟩
theorem op_notInDct (hu : X.A.units + 1 < cLine) : OpR X (compareOp .NotIn) rNotInDct := by
  intro pins s σ H x y v u Q I rx ry h
  obtain ⟨a, o, rfl, g, q⟩ := h
  obtain rfl : u = Value.ref a := ry
  exact d_notIn hu I g rx fun s' I' => ⟨.bl (!o.isSome), H, I', rfl, q⟩
theorem r_inDct {K : PySem.W.Frag} : R2W K rInDct inDW := by
  intro r S H x y wx wy w S' Q s rx ry e k
  obtain ⟨o, e1, e⟩ := bindS e
  cases e
  obtain ⟨a, ov, h1, h2, h3⟩ := dGet_ok s ry rx e1
  have : o.isSome = ov.isSome := by
    rcases h3 with ⟨q1, q2⟩ | ⟨w, u, q1, q2, _⟩ <;> rw [q1, q2] <;> rfl
  rw [this] at k
  exact ⟨a, ov, h1, h2, KR.now k s (.bl _)⟩
theorem r_notInDct {K : PySem.W.Frag} : R2W K rNotInDct notInDW := by
  intro r S H x y wx wy w S' Q s rx ry e k
  obtain ⟨o, e1, e⟩ := bindS e
  cases e
  obtain ⟨a, ov, h1, h2, h3⟩ := dGet_ok s ry rx e1
  have : o.isSome = ov.isSome := by
    rcases h3 with ⟨q1, q2⟩ | ⟨w, u, q1, q2, _⟩ <;> rw [q1, q2] <;> rfl
  rw [this] at k
  exact ⟨a, ov, h1, h2, KR.now k s (.bl _)⟩
def rSetD : TSet := fun o i v H Q => ∃ a H', o = .ref a ∧ DPut H a i v H' ∧ Q H'
theorem set_dict (hu : X.A.units + 1 < cLine) : PSet X rSetD := by
  intro pins s σ H o i v ov iv u Q I ro ri rv h
  obtain ⟨a, H', rfl, g, q⟩ := h
  obtain rfl : ov = Value.ref a := ro
  exact d_setItem hu I g ri rv fun s' I' => ⟨H', I', q⟩
theorem r_setD {K : PySem.W.Frag} : RsW K rSetD setDW := by
  intro r S H x y z wx wy wz S' Q s rx ry rz e k
  unfold setDW at e
  split at e
  · rename_i n
    cases rx with
    | @ref a _ ha =>
      split at e
      · rename_i kvs hn
        obtain ⟨kk, e1, e⟩ := bindS e
        split at e
        · rename_i hl
          cases e
          obtain ⟨ks, h1, h2⟩ := s.obj _ _ _ ha hn
          have := key_rep ry e1
          subst this
          have m := Kp.mut (K := K) (o := .dK (putK ks kk z)) (s.mut ha)
          refine ⟨a, _, rfl, DPut.k h1 (by rw [h2.len]; exact hl), k r _ Pre.refl (s.set ha ⟨_, upd_same, (h2.put rz).up Pre.refl m⟩) m⟩
        · cases e
      · rename_i kvs hn
        split at e
        · rename_i ws
          obtain ⟨ks', e1, e⟩ := bindS e
          split at e
          · rename_i hl
            cases e
            obtain ⟨ks, h1, h2⟩ := s.obj _ _ _ ha hn
            obtain ⟨b, ys, rfl, hb, hy⟩ := ry.tupH
            have := keys_rep hy e1
            subst this
            have m := Kp.mut (K := K) (o := .dT (putK ks ks' z)) (s.mut ha)
            refine ⟨a, _, rfl, DPut.t h1 hb (by rw [h2.len]; exact hl), k r _ Pre.refl (s.set ha ⟨_, upd_same, (h2.put rz).up Pre.refl m⟩) m⟩
          · cases e
        · cases e
      · cases e
  · cases e
/-! ### {} and {k: v, ..} -/
def eNewT : Fe := fun _ S => some (.ref S.length, S ++ [.dT []])
def eNewK : Fe := fun _ S => some (.ref S.length, S ++ [.dK []])
theorem w_newT : PE X (.Dict [] [] pos) (tE X.K eNewT) := by
  refine pe_w pe_dnewT fun σ H Q q => ?_
  obtain ⟨r, e, S, w, S', at_, hf, k⟩ := q
  cases hf
  intro p hp
  exact k (r ++ [p]) _ _ Pre.app (at_.sim.new hp ⟨[], upd_same, .nil⟩) (Kp.new hp) (.ref (Pre.last at_.sim))
theorem w_newK : PE X (.Dict [] [] pos) (tE X.K eNewK) := by
  refine pe_w pe_dnewK fun σ H Q q => ?_
  obtain ⟨r, e, S, w, S', at_, hf, k⟩ := q
  cases hf
  intro p hp
  exact k (r ++ [p]) _ _ Pre.app (at_.sim.new hp ⟨[], upd_same, .nil⟩) (Kp.new hp) (.ref (Pre.last at_.sim))
/-- the values of a display -/
def evalsW (e : En) : List (Key × Fe) → Sto → Option (List (Key × W) × Sto)
  | [], S => some ([], S)
  | (k, f) :: fs, S => (f e S).bind fun p => (evalsW e fs p.2).bind fun q => some ((k, p.1) :: q.1, q.2)
def mergeW (kvs more : List (Key × W)) : List (Key × W) := more.foldl (fun acc kv => putW acc kv.1 kv.2) kvs
theorem KReps.merge {K : PySem.W.Frag} {r : List Addr} {H : Hp} {more : List (Key × W)} {ms : List (Key × V)} (h : KReps K r H more ms) : ∀ {kvs : List (Key × W)} {ks : List (Key × V)}, KReps K r H kvs ks → KReps K r H (mergeW kvs more) (mergeK ks ms) := by
  induction h with
  | nil => intro kvs ks h; exact h
  | cons a b ih => intro kvs ks h; exact ih (h.put a)
def eDisp (kfs : List (Key × Fe)) : Fe := fun e S => (evalsW e kfs (S ++ [.dK []])).bind fun q => match q.2[S.length]? with
  | some (.dK []) => if q.1.length ≤ 15 then some (.ref S.length, q.2.set S.length (.dK (mergeW [] q.1))) else none
  | _ => none
/-- a display's pairs, their text and their reading -/
structure PD (X : Cx) (pos : Pos) (keys : List (Option Expr)) (values : List Expr) (kfs : List (Key × Fe)) (trs : List (TE × TE)) : Prop where
  pps : PPs X pos keys values trs
  read : ∀ r e S σ H kvs S' (Q : List (V × V) → Hp → Prop), At X.K r e S σ H → evalsW e kfs S = some (kvs, S') → (∀ r' H' us, Pre r r' → Sim X.K r' S' H' → Kp X.K H H' → KReps X.K r' H' kvs us → Q (us.map fun kv => (kV kv.1, kv.2)) H') → tPairs trs σ H Q
theorem wd_nil : PD X pos [] [] [] [] := ⟨pps_nil, fun r e S σ H kvs S' Q at_ hf k => by cases hf; exact k r H [] Pre.refl at_.sim Kp.refl .nil⟩
theorem wd_cons {x : Str} {p' : Pos} {j : Nat} {v : Expr} {keys : List (Option Expr)} {values : List Expr} {kfs : List (Key × Fe)} {trs : List (TE × TE)} {f : Fe} (hv : PE X v (tE X.K f)) (hr : PD X pos keys values kfs trs) : PD X pos (some (.Constant (.str x) j p') :: keys) (v :: values) ((.inr x, f) :: kfs) ((tC (.str x), tE X.K f) :: trs) := by
  refine ⟨pps_cons pe_str hv hr.pps, fun r e S σ H kvs S' Q at_ hf k => ?_⟩
  obtain ⟨p, h1, hf⟩ := bindS hf
  obtain ⟨q, h2, hf⟩ := bindS hf
  cases hf
  refine ⟨r, e, S, p.1, p.2, at_, h1, fun r1 v1 H1 pr1 s1 k1 rep1 => ?_⟩
  refine hr.read r1 e p.2 σ H1 q.1 q.2 _ (at_.up pr1 s1 k1) h2 fun r2 H2 us pr2 s2 k2 kr2 => ?_
  exact k r2 H2 ((.inr x, v1) :: us) (pr1.trans pr2) s2 (k1.trans k2) (.cons (rep1.up pr2 k2) kr2)
theorem w_disp {keys : List (Option Expr)} {values : List Expr} {kfs : List (Key × Fe)} {trs : List (TE × TE)} (h : PD X pos keys values kfs trs) (hall : keys.all (·.isSome) = true) (hl : keys.length = values.length) (h0 : keys ≠ []) (h15 : keys.length ≤ 15) : PE X (.Dict keys values pos) (tE X.K (eDisp kfs)) := by
  refine pe_w (pe_disp h.pps hall hl h0 h15) fun σ H Q q => ?_
  obtain ⟨r, e, S, w, S', at_, hf, k⟩ := q
  obtain ⟨q, h1, hf⟩ := bindS hf
  split at hf
  · rename_i hd
    split at hf
    · rename_i hz
      cases hf
      intro p hp
      have s1 : Sim X.K (r ++ [p]) (S ++ [.dK []]) (upd H p (.dK [])) := at_.sim.new hp ⟨[], upd_same, .nil⟩
      have kn := Kp.new (K := X.K) (o := .dK []) hp
      refine h.read (r ++ [p]) e (S ++ [.dK []]) σ _ q.1 q.2 _ (at_.up Pre.app s1 kn) h1 fun r2 H2 us pr2 s2 k2 kr2 => ?_
      have hr : (r ++ [p])[S.length]? = some p := Pre.last at_.sim
      have hr2 := pr2 _ _ hr
      obtain ⟨ks, e1, e2⟩ := s2.obj _ _ _ hr2 hd
      have e3 : ks = [] := by cases e2; rfl
      subst e3
      refine ⟨e1, us, rfl, by rw [kr2.len]; exact hz, ?_⟩
      have m := Kp.mut (K := X.K) (o := .dK (mergeK [] us)) (s2.mut hr2)
      exact k r2 _ _ (Pre.app.trans pr2) (s2.set hr2 ⟨_, upd_same, (kr2.merge .nil).up Pre.refl m⟩) (kn.trans (k2.trans m)) (.ref hr2)
    · cases hf
  · cases hf
end
theorem u1 {k : Nat} {A : Around} (r : Room k A) : A.units + 1 < cLine := by have := u65 r; omega
/-! ### x in (.., ..) by data -/
section
variable {X : Cx} {K : PySem.W.Frag}
def hasTW (S : Sto) (a b : W) : Option Bool := match b with
  | .tup ys => (toD S 8 a).bind fun d => (mapO (toD S 7) ys).bind fun ds => some (ds.any fun z => PyData.eqv z d)
  | _ => none
def inTW (a b : W) (S : Sto) : Option (W × Sto) := (hasTW S a b).bind fun k => some (.bl k, S)
def rInT (K : PySem.W.Frag) : R2 := fun x y H Q => ∃ d ds, Dp K H x d ∧ Dp K H y (.tuple ds) ∧ SeqAt.shaped d = true ∧ SeqAt.shaped (.tuple ds) = true ∧ Q (.bl (ds.any fun z => PyData.eqv z d)) H
theorem op_inT (hu : X.A.units + 65 < cLine) : OpR X (compareOp .In) (rInT X.K) := by
  intro pins s σ H x y v u Q I rx ry h
  obtain ⟨d, ds, hd, he, sd, se, q⟩ := h
  obtain ⟨as, r1⟩ := Dp.reads I d x v hd rx
  obtain ⟨bs, r2⟩ := Dp.reads I (.tuple ds) y u he ry
  exact SeqAt.in_tuple_reads r2 r1 (SeqAt.canLay_of_shaped se) (SeqAt.canLay_of_shaped sd) (PyProof.Rows.room_in_shaped sd hu) ⟨.bl _, H, I, rfl, q⟩
theorem r_inT : R2W K (rInT K) inTW := by
  intro r S H x y wx wy w S' Q s rx ry e k
  obtain ⟨b, e1, e⟩ := bindS e
  cases e
  unfold hasTW at e1
  split at e1
  · rename_i ys
    obtain ⟨d, e2, e1⟩ := bindS e1
    obtain ⟨ds, e3, e1⟩ := bindS e1
    cases e1
    obtain ⟨p1, p2, p3⟩ := toD_ok s 8 _ _ _ rx e2
    obtain ⟨q1, q2, q3⟩ := toD_ok s 8 _ _ (.tuple ds) ry (by simp only [toD]; rw [e3]; rfl)
    refine ⟨d, ds, p1, q1, ?_, ?_, KR.now k s (.bl _)⟩
    · unfold SeqAt.shaped; rw [p2, decide_eq_true (by omega)]; rfl
    · unfold SeqAt.shaped; rw [q2, decide_eq_true (by omega)]; rfl
  · cases e1
end
end Bp

set_option maxHeartbeats 4000000
/-! Sl1: set(xs) of a list of ints. -/
namespace Bp
open PySem PySem.Spec PyProof.Rows L2
def setObj (w : World) : Obj := { cls := .type "set", dict := none, data := .set #[] 0 (.fresh 0 0 (!w.params.followText "set-order")) }
section
variable {P : Program} {w : World} {A : Around} {E : Value → Shared → Prop} {s : Shared}
/-- set(v): the empty set is laid, then filled by its init -/
theorem set_made {v : Value} {Q : Value → Shared → Prop} (R : Shared → Prop)
    (hi : wpAny (model P w) A.in1.in1 (Builtin.«set.__init__» ⟨[.ref s.heap.objs.size, v], []⟩) (fun fin s' => match fin with
        | .done f => wants (fun r t => r = .none ∧ R t) E (.ok f) s'
        | .again c => c.quiet = true ∧ codeAny (model P w) A.in1 c (wants (fun r t => r = .none ∧ R t) E) s')
      (fun e s' => wants (fun r t => r = .none ∧ R t) E (.error e) s') { s with heap := s.heap.push (setObj w) })
    (k : ∀ s', R s' → Q (.ref s.heap.objs.size) s') : wpAny (model P w) A (call (.type "set") [v]) Q E s := by
  have ⟨c, tl, m1⟩ := F.called_set.mro
  have m2 := F.called_set.made
  have m3 := F.called_set.sub
  refine wpAny_call (codeAny_of_tree ?_)
  show wpAny _ _ (callAny (.type "set") _) _ _ _
  refine wpAny_pure ⟨Code.quiet_builtin _ (by decide +kernel), ?_⟩
  refine codeAny_builtin F.entry_type_call ?_
  rw [Around.under_plain (weight_type_call_type "set" [v] []) rfl]
  have n1 := F.called_set.notType
  have n2 := F.called_set.canCreate
  have n3 := F.typeCall_set_1 v
  repeat any_goals first | assumption | wp_step
  refine codeAny_mono (code_set_led1 v (E := E) (Q₁ := fun o t => o = .ref s.heap.objs.size ∧ t = { s with heap := s.heap.push (setObj w) }) ⟨rfl, rfl⟩) fun r t hr => ?_
  cases r with
  | error e => exact hr
  | ok fl =>
    cases fl with
    | ret o =>
      obtain ⟨rfl, rfl⟩ := hr
      have g1 : (s.heap.push (setObj w)).get? s.heap.objs.size = some (setObj w) := Heap.get?_push_size _ rfl
      have g2 : Shared.TypeIs { s with heap := s.heap.push (setObj w) } (.ref s.heap.objs.size) "set" := ⟨_, g1, rfl⟩
      have g3 := F.called_set.init.lookup
      have g4 := F.called_set.init.bind (.ref s.heap.objs.size)
      repeat any_goals first | assumption | wp_step
      refine codeAny_mono (codeAny_call_builtin (R := wants (fun r t => r = .none ∧ R t) E) F.called_set.init.plain F.entry_set_init (check_set_init_1 g2 ?_)) fun r t hr => ?_
      · exact hi
      · cases r with
        | error e => exact hr
        | ok fl =>
          cases fl with
          | ret r =>
            obtain ⟨rfl, hr⟩ := hr
            repeat any_goals first | assumption | wp_step
            exact k _ hr
          | _ => exact hr.elim
    | _ => exact hr.elim
/-- set(xs), xs a list of ints -/
theorem set_ints {l : Addr} {its : Array Value} (ns : List Int) {Q : Value → Shared → Prop} (hh : A.handled = none) (hl : s.heap.IsList l its) (hi : IntsAre its.toList ns) (hb : ns.length + 1 < scanBound)
    (k : ∀ (h' : Heap) (tk c : Nat), SetR w h' s.heap.objs.size (fun j => decide (j ∈ ns)) c → c ≤ ns.length → (∀ b o, s.heap.get? b = some o → h'.get? b = some o) → Q (.ref s.heap.objs.size) { s with heap := h', toks := tk }) :
    wpAny (model P w) A (call (.type "set") [.ref l]) Q E s := by
  have len : its.size = ns.length := by have := IntsAre.length hi; rwa [Array.length_toList] at this
  refine set_made (fun t => ∃ h' tk c, t = { s with heap := h', toks := tk } ∧ SetR w h' s.heap.objs.size (fun j => decide (j ∈ ns)) c ∧ c ≤ ns.length ∧ ∀ b o, s.heap.get? b = some o → h'.get? b = some o) ?_
    fun t ⟨h', tk, c, e, a1, a2, a3⟩ => by subst e; exact k h' tk c a1 a2 a3
  have up : ∀ b o, s.heap.get? b = some o → (s.heap.push (setObj w)).get? b = some o := fun b o e => Heap.get?_push_of_some _ e
  obtain ⟨⟨oc, od, odt, osl⟩, ho, h1, m, h2⟩ := hl
  simp only at h1 h2
  subst h1; subst h2
  have ho2 := up _ _ ho
  have i1 := F.sub_list_set
  have i2 := F.sub_list_frozenset
  have i3 : (Value.type "list" == Value.type "dict") = false := by decide
  have is2 : (s.heap.push (setObj w)).IsList l its := ⟨_, ho2, rfl, m, rfl⟩
  have sz : (s.heap.push (setObj w)).objs.size = s.heap.objs.size + 1 := Heap.size_push ..
  have ll := Heap.lt_size ho
  unfold Builtin.«set.__init__» noKeywords Builtin.Frozenset.updateFrom
  generalize pI : pyIter = PI
  wp_walk
  subst pI
  refine wpAny_pyIter_list is2 (wpAny_bind (wpAny_runValue ?_))
  have hh3 : A.in1.in1.in1.handled = none := by simp [hh]
  have n1 : l ≠ (s.heap.push (setObj w)).objs.size := by rw [sz]; exact Nat.ne_of_lt (Nat.lt_succ_of_lt ll)
  have n2 : s.heap.objs.size ∉ [(s.heap.push (setObj w)).objs.size, l] := by
    rw [sz]; simp only [List.mem_cons, List.not_mem_nil, or_false, not_or]; exact ⟨Nat.ne_of_lt (Nat.lt_succ_self _), Nat.ne_of_gt ll⟩
  have vals : ∀ (i : Nat) (v : Value), its[i]? = some v → ∃ k t, ns[i]? = some k ∧ v = .int k t := fun i v hv => by
    have lt : i < ns.length := by rw [← len]; exact (Array.getElem?_eq_some_iff.mp hv).1
    obtain ⟨t, e⟩ := IntsAre.int_at hi i v (by rw [Array.getElem?_toList]; exact hv)
    exact ⟨ns[i], t, List.getElem?_eq_getElem lt, by rw [e, List.getD_eq_getElem?_getD, List.getElem?_eq_getElem lt]; rfl⟩
  refine set_update_ints ((Walks.list hh3 _ l n1 its).toS) s.heap.objs.size n2 ns len hb vals (its.size - 0) 0 _ (by omega) (Nat.zero_le _) ⟨⟨_, Heap.get?_push_size _ rfl, rfl, rfl⟩, is2.push _⟩
    ⟨0, Nat.le_refl 0, setR_new_at (Heap.get?_push_of_some _ (Heap.get?_push_size _ rfl))⟩ fun t c mv hc hS => ?_
  obtain ⟨h', g', d', tk', os'⟩ := t
  obtain rfl : g' = s.gens := mv.gens
  obtain rfl : d' = s.drawn := mv.drawn
  obtain rfl : os' = s.os := mv.os
  show wpAny _ _ _ _ _ _
  refine wpAny_pure ?_
  show wpAny _ _ (ret Value.none) _ _ _
  refine wpAny_pure ⟨rfl, h', tk', c, rfl, hS, by rw [← len]; exact hc, fun b o e => ?_⟩
  have lt := Heap.lt_size e
  exact mv.heap b o (by rw [sz]; simp only [List.mem_cons, List.not_mem_nil, or_false, not_or]; exact ⟨Nat.ne_of_lt lt, Nat.ne_of_lt (Nat.lt_succ_of_lt lt)⟩) (Heap.get?_push_of_some _ (up b o e))
end
section
variable {X : Cx}
/-- set(xs), xs a list of ints -/
def rSetL (K : PySem.W.Frag) (w : World) : List V → Hp → VK → Prop := fun xs H Q => ∃ (l : Addr) (ns : List Int), xs = [.ref l] ∧ SqL K H l (ns.map V.int) ∧ ns.length < 64 ∧
  ∀ p c, H p = none → c ≤ ns.length → Q (.ref p) (upd H p (SetO w p (fun j => decide (j ∈ ns)) c))
theorem cr_setL (hc : X.calm = true) : CallR X (.type "set") (rSetL X.K X.w) := by
  intro pins s σ H xs us Q I r h
  obtain ⟨l, ns, rfl, hl, hn, q⟩ := h
  rw [Vals.ref1 r]
  obtain ⟨its, rv, pl, hz⟩ := I.list hl
  refine set_ints (P := X.prog) (w := X.w) ns (I.ok.hd hc) pl.isList (by simpa using rv.ints) (by unfold scanBound; omega) fun h' tk c S hc' kp => ?_
  exact ⟨.ref _, _, I.laid (t' := tk) kp (Nat.le_refl _) (setO_new S), rfl, q _ c (I.hok.fresh (Nat.le_refl _)) hc'⟩
end
end Bp

/-! Ev11: sorted(set(..)) of ints and of pairs of ints, list.insert. -/
namespace Bp
set_option autoImplicit false
open PySem L2
/-! ### a strict order's sorted lists -/
section
variable {α : Type} (lt : α → α → Prop) [DecidableRel lt]
def insO (x : α) : List α → List α
  | [] => [x]
  | y :: ys => if lt x y then x :: y :: ys else if lt y x then y :: insO x ys else y :: ys
def srtO : List α → List α
  | [] => []
  | x :: xs => insO lt x (srtO xs)
structure StrictO : Prop where
  irr : ∀ a, ¬ lt a a
  tr : ∀ a b c, lt a b → lt b c → lt a c
  tri : ∀ a b, lt a b ∨ a = b ∨ lt b a
variable {lt}
theorem insO_mem (T : StrictO lt) {x y : α} : ∀ {l : List α}, y ∈ insO lt x l ↔ y = x ∨ y ∈ l
  | [] => by simp [insO]
  | z :: l => by
    unfold insO
    split
    · simp
    · split
      · rw [List.mem_cons, insO_mem T, List.mem_cons]
        constructor
        · rintro (h | h | h) <;> simp [h]
        · rintro (h | h | h) <;> simp [h]
      · rename_i h1 h2
        have : x = z := by rcases T.tri x z with h | h | h
                           · exact absurd h h1
                           · exact h
                           · exact absurd h h2
        subst this
        simp
theorem insO_pw (T : StrictO lt) {x : α} : ∀ {l : List α}, l.Pairwise lt → (insO lt x l).Pairwise lt
  | [], _ => by simp [insO]
  | z :: l, h => by
    unfold insO
    have hz := List.pairwise_cons.mp h
    split
    · rename_i h1
      refine List.pairwise_cons.mpr ⟨fun y hy => ?_, h⟩
      rcases List.mem_cons.mp hy with rfl | hy
      · exact h1
      · exact T.tr _ _ _ h1 (hz.1 y hy)
    · split
      · rename_i h1 h2
        refine List.pairwise_cons.mpr ⟨fun y hy => ?_, insO_pw T hz.2⟩
        rcases (insO_mem T).mp hy with rfl | hy
        · exact h2
        · exact hz.1 y hy
      · exact h
theorem srtO_mem (T : StrictO lt) {y : α} : ∀ {l : List α}, y ∈ srtO lt l ↔ y ∈ l
  | [] => by simp [srtO]
  | x :: l => by rw [srtO, insO_mem T, srtO_mem T, List.mem_cons]
theorem srtO_pw (T : StrictO lt) : ∀ (l : List α), (srtO lt l).Pairwise lt
  | [] => by simp [srtO]
  | x :: l => insO_pw T (srtO_pw T l)
theorem strict_uniq (T : StrictO lt) : ∀ {l m : List α}, l.Pairwise lt → m.Pairwise lt → (∀ x, x ∈ l ↔ x ∈ m) → l = m
  | [], [], _, _, _ => rfl
  | [], y :: m, _, _, h => absurd ((h y).mpr (List.mem_cons_self ..)) (by simp)
  | x :: l, [], _, _, h => absurd ((h x).mp (List.mem_cons_self ..)) (by simp)
  | x :: l, y :: m, hl, hm, h => by
    have h1 := List.pairwise_cons.mp hl
    have h2 := List.pairwise_cons.mp hm
    have e : x = y := by
      rcases List.mem_cons.mp ((h x).mp (List.mem_cons_self ..)) with q | q
      · exact q
      · rcases List.mem_cons.mp ((h y).mpr (List.mem_cons_self ..)) with q' | q'
        · exact q'.symm
        · exact absurd (T.tr _ _ _ (h2.1 x q) (h1.1 y q')) (T.irr _)
    subst e
    refine congrArg _ (strict_uniq T h1.2 h2.2 fun z => ?_)
    have hz := h z
    rw [List.mem_cons, List.mem_cons] at hz
    constructor
    · intro q
      rcases hz.mp (.inr q) with rfl | q'
      · exact absurd (h1.1 z q) (T.irr _)
      · exact q'
    · intro q
      rcases hz.mpr (.inr q) with rfl | q'
      · exact absurd (h2.1 z q) (T.irr _)
      · exact q'
end
theorem intO : StrictO (fun a b : Int => a < b) := ⟨fun a => by omega, fun a b c => by omega, fun a b => by omega⟩
def ltPr (s t : Int × Int) : Prop := s.1 < t.1 ∨ (s.1 = t.1 ∧ s.2 < t.2)
instance : DecidableRel ltPr := fun s t => inferInstanceAs (Decidable (_ ∨ _))
theorem pairO : StrictO ltPr := ⟨fun a => by unfold ltPr; omega, fun a b c => by unfold ltPr; omega, fun a b => by
  unfold ltPr
  rcases Int.lt_trichotomy a.1 b.1 with h | h | h
  · exact .inl (.inl h)
  · rcases Int.lt_trichotomy a.2 b.2 with h' | h' | h'
    · exact .inl (.inr ⟨h, h'⟩)
    · exact .inr (.inl (Prod.ext h h'))
    · exact .inr (.inr (.inr ⟨h.symm, h'⟩))
  · exact .inr (.inr (.inl h))⟩
abbrev srtI : List Int → List Int := srtO fun a b : Int => a < b
abbrev srtP : List (Int × Int) → List (Int × Int) := srtO ltPr
theorem srtI_neg (i : Int) : srtI [i, -i] = if i = 0 then [0] else if 0 < i then [-i, i] else [i, -i] := by
  show (if i < -i then [i, -i] else if -i < i then [-i, i] else [-i]) = _
  by_cases h : i = 0
  · subst h; rfl
  · rw [if_neg h]
    by_cases hp : 0 < i
    · rw [if_neg (show ¬ i < -i by omega), if_pos (show -i < i by omega), if_pos hp]
    · rw [if_pos (show i < -i by omega), if_neg hp]
/-! ### sorted(set(xs)) -/
section
variable {X : Cx} {a : Expr} {f : Fe} {p p2 q pos : Pos}
/-- of ints -/
def eSorI (f : Fe) : Fe := fun e S => (f e S).bind fun p => (lstOf p.2 p.1).bind fun xs => (intsOf xs).bind fun ns => if ns.length < 64 then some (.ref p.2.length, p.2 ++ [.lst ((srtI ns).map W.int)]) else none
theorem w_sorI (hc : X.calm = true) (hg : Gl X "sorted") (hm : X.mg "sorted" = none) (hv : bootBuiltins "sorted" = some (.builtin "sorted")) (hg2 : Gl X "set") (hm2 : X.mg "set" = none) (hv2 : bootBuiltins "set" = some (.type "set")) (ha : PE X a (tE X.K f))
    (he : starEach [a] X.env = [(false, eval a X.env)] := by rfl)
    (he2 : starEach [.Call (.Name "set" p2) [a] [] q] X.env = [(false, eval (.Call (.Name "set" p2) [a] [] q) X.env)] := by rfl) :
    PE X (.Call (.Name "sorted" p) [.Call (.Name "set" p2) [a] [] q] [] pos) (tE X.K (eSorI f)) := by
  refine pe_w (pe_callB (cr_sortedSet hc) hg hm hv (pa_cons (pe_callTy (cr_setL hc) hg2 hm2 hv2 (pa_cons ha pa_nil he) (by decide) (by decide) he rfl) pa_nil he2) (by decide) (by decide) he2 rfl) fun σ H Q q => ?_
  obtain ⟨r, e, S, w, S', at_, hf, k⟩ := q
  obtain ⟨p, h1, hf⟩ := bindS hf
  obtain ⟨xs, h2, hf⟩ := bindS hf
  obtain ⟨ns, h3, hf⟩ := bindS hf
  split at hf
  · rename_i h64
    cases hf
    refine ⟨r, e, S, p.1, p.2, at_, h1, fun r1 v1 H1 pr1 s1 k1 rep1 => ?_⟩
    obtain ⟨l, ys, rfl, q1, q2⟩ := lstOf_ok s1 rep1 h2
    rw [intsOf_rep q2 h3] at q1
    refine ⟨l, ns, rfl, q1, h64, fun b c hb hcn => ⟨b, _, c, rfl, upd_same, by omega, fun ms t pw mem hl ht => ?_⟩⟩
    have e : ms = srtI ns := strict_uniq intO pw (srtO_pw intO ns) fun x => by rw [mem, srtO_mem intO]; simp
    subst e
    have kn := Kp.new (K := X.K) (o := SetO X.w b (fun j => decide (j ∈ ns)) c) hb
    exact KR.lst (KR.pre k pr1 (k1.trans kn)) (s1.laid hb) (Reps.ints _) t ht
  · cases hf
def pairO_ : W → Option (Int × Int)
  | .tup [.int p, .int q] => some (p, q)
  | _ => none
abbrev frW (t : Int × Int) : W := .tup [.int t.1, .int t.2]
theorem pairO_eq {w : W} {t : Int × Int} (h : pairO_ w = some t) : w = frW t := by
  unfold pairO_ at h
  split at h
  · cases h; rfl
  · cases h
theorem pairsO_eq : ∀ {ws : List W} {ts : List (Int × Int)}, mapO pairO_ ws = some ts → ws = ts.map frW
  | [], _, h => by cases h; rfl
  | w :: ws, _, h => by
    obtain ⟨t, h1, h⟩ := bindS h
    obtain ⟨ts, h2, h⟩ := bindS h
    cases h
    rw [List.map_cons, ← pairsO_eq h2, pairO_eq h1]
theorem pairsO_map : ∀ ts : List (Int × Int), mapO pairO_ (ts.map frW) = some ts
  | [] => rfl
  | t :: ts => by
    show (pairO_ (frW t)).bind _ = _
    simp only [pairO_, Option.bind_some, pairsO_map ts]
def nn (t : Int × Int) : Bool := decide (0 ≤ t.1) && decide (0 ≤ t.2)
/-- of pairs of ints that are not negative -/
def eSorT (f : Fe) : Fe := fun e S => (f e S).bind fun p => (lstOf p.2 p.1).bind fun xs => (mapO pairO_ xs).bind fun ts => if ts.length < 64 ∧ ts.all nn = true then some (.ref p.2.length, p.2 ++ [.lst ((srtP ts).map frW)]) else none
/-- the pairs' places -/
theorem pairs_at {K : PySem.W.Frag} {r : List Addr} {H : Hp} : ∀ {ts : List (Int × Int)} {vs : List V}, Reps K r H (ts.map frW) vs → ∃ ks : List (Addr × List Int), vs = ks.map (fun p => V.ref p.1) ∧ ks.map (·.2) = ts.map (fun t => [t.1, t.2]) ∧ ∀ p ∈ ks, H p.1 = some (.tup (p.2.map V.int))
  | [], _, h => by cases h; exact ⟨[], rfl, rfl, by simp⟩
  | t :: ts, _, h => by
    cases h with
    | cons a b =>
      obtain ⟨ks, h1, h2, h3⟩ := pairs_at b
      cases a with
      | tup ha hb =>
        rename_i ad ys
        have : ys = [V.int t.1, V.int t.2] := by
          cases hb with
          | cons u v =>
            cases u
            cases v with
            | cons u v =>
              cases u
              cases v
              rfl
        subst this
        refine ⟨(ad, [t.1, t.2]) :: ks, by rw [h1]; rfl, by rw [List.map_cons, List.map_cons, h2], fun p hp => ?_⟩
        rcases List.mem_cons.mp hp with rfl | hp
        · exact ha
        · exact h3 p hp
theorem reps_of {K : PySem.W.Frag} {r : List Addr} {H : Hp} : ∀ {L : List (Addr × List Int)} {ts : List (Int × Int)}, L.map (·.2) = ts.map (fun t => [t.1, t.2]) → (∀ p ∈ L, H p.1 = some (.tup (p.2.map V.int))) → Reps K r H (ts.map frW) (L.map fun p => V.ref p.1)
  | [], [], _, _ => .nil
  | [], t :: ts, h, _ => by simp at h
  | p :: L, [], h, _ => by simp at h
  | p :: L, t :: ts, h, hk => by
    simp only [List.map_cons, List.cons.injEq] at h
    refine .cons (.tup (hk p (List.mem_cons_self ..)) ?_) (reps_of h.2 fun q hq => hk q (List.mem_cons_of_mem _ hq))
    rw [h.1]
    exact .cons (.int _) (.cons (.int _) .nil)
/-- the pairs of some rows of two -/
theorem as_pairs : ∀ (L : List (List Int)), (∀ k ∈ L, k.length = 2) → ∃ ts : List (Int × Int), L = ts.map fun t => [t.1, t.2]
  | [], _ => ⟨[], rfl⟩
  | k :: L, h => by
    obtain ⟨ts, e⟩ := as_pairs L fun k hk => h k (List.mem_cons_of_mem _ hk)
    have hk := h k (List.mem_cons_self ..)
    match k, hk with
    | [a, b], _ => exact ⟨(a, b) :: ts, by rw [e]; rfl⟩
theorem code2 (B x y : Int) : TS.code B [x, y] = x * B + y := by
  show x * B ^ 1 + (y * B ^ 0 + 0) = x * B + y
  rw [Int.pow_succ, Int.pow_zero, Int.one_mul, Int.mul_one, Int.add_zero]
theorem code_lt {B : Int} {s t : Int × Int} (h : TS.code B [s.1, s.2] ≤ TS.code B [t.1, t.2]) (ne : s ≠ t) (b2 : 0 ≤ s.2 ∧ s.2 < B) (b4 : 0 ≤ t.2 ∧ t.2 < B) : ltPr s t := by
  rw [code2, code2] at h
  unfold ltPr
  rcases Int.lt_trichotomy s.1 t.1 with c | c | c
  · exact .inl c
  · rw [c] at h
    refine .inr ⟨c, ?_⟩
    have : s.2 ≤ t.2 := by omega
    have : s.2 ≠ t.2 := fun e => ne (Prod.ext c e)
    omega
  · exfalso
    have : (t.1 + 1) * B ≤ s.1 * B := Int.mul_le_mul_of_nonneg_right (by omega) (by omega)
    rw [Int.add_mul] at this
    omega
theorem pw_lt {B : Int} : ∀ {ts : List (Int × Int)}, (ts.map fun t => [t.1, t.2]).Pairwise (fun q r => TS.code B q ≤ TS.code B r) → ts.Nodup → (∀ t ∈ ts, 0 ≤ t.2 ∧ t.2 < B) → ts.Pairwise ltPr
  | [], _, _, _ => .nil
  | t :: ts, h, nd, hb => by
    rw [List.map_cons] at h
    have h1 := List.pairwise_cons.mp h
    have n1 := List.nodup_cons.mp nd
    refine List.pairwise_cons.mpr ⟨fun s hs => ?_, pw_lt h1.2 n1.2 fun s hs => hb s (List.mem_cons_of_mem _ hs)⟩
    exact code_lt (h1.1 _ (List.mem_map.mpr ⟨s, hs, rfl⟩)) (fun e => n1.1 (by rw [e]; exact hs)) (hb t (List.mem_cons_self ..)) (hb s (List.mem_cons_of_mem _ hs))
def topP : List (Int × Int) → Int
  | [] => 1
  | t :: ts => t.1 + t.2 + topP ts
theorem topP_pos : ∀ {ts : List (Int × Int)}, ts.all nn = true → 1 ≤ topP ts ∧ ∀ t ∈ ts, t.1 < topP ts ∧ t.2 < topP ts
  | [], _ => ⟨by simp [topP], by simp⟩
  | t :: ts, h => by
    simp only [List.all_cons, Bool.and_eq_true, nn, decide_eq_true_eq] at h
    obtain ⟨h1, h2⟩ := topP_pos (ts := ts) h.2
    refine ⟨by simp only [topP]; omega, fun s hs => ?_⟩
    simp only [topP]
    rcases List.mem_cons.mp hs with rfl | hs
    · omega
    · have := h2 s hs
      omega
theorem w_sorT (hu : X.A.units + 64 < cLine) (hc : X.calm = true) (hg : Gl X "sorted") (hm : X.mg "sorted" = none) (hv : bootBuiltins "sorted" = some (.builtin "sorted")) (hg2 : Gl X "set") (hm2 : X.mg "set" = none) (hv2 : bootBuiltins "set" = some (.type "set")) (ha : PE X a (tE X.K f))
    (he : starEach [a] X.env = [(false, eval a X.env)] := by rfl)
    (he2 : starEach [.Call (.Name "set" p2) [a] [] q] X.env = [(false, eval (.Call (.Name "set" p2) [a] [] q) X.env)] := by rfl) :
    PE X (.Call (.Name "sorted" p) [.Call (.Name "set" p2) [a] [] q] [] pos) (tE X.K (eSorT f)) := by
  refine pe_w (pe_callB (cr_sortedT hc) hg hm hv (pa_cons (pe_callTy (cr_setOfT hc hu) hg2 hm2 hv2 (pa_cons ha pa_nil he) (by decide) (by decide) he rfl) pa_nil he2) (by decide) (by decide) he2 rfl) fun σ H Q q => ?_
  obtain ⟨r, e, S, w, S', at_, hf, k⟩ := q
  obtain ⟨p, h1, hf⟩ := bindS hf
  obtain ⟨xs, h2, hf⟩ := bindS hf
  obtain ⟨ts, h3, hf⟩ := bindS hf
  split at hf
  · rename_i h64
    cases hf
    have := pairsO_eq h3
    subst this
    refine ⟨r, e, S, p.1, p.2, at_, h1, fun r1 v1 H1 pr1 s1 k1 rep1 => ?_⟩
    obtain ⟨l, ys, rfl, q1, q2⟩ := lstOf_ok s1 rep1 h2
    obtain ⟨ks, rfl, ek, hk⟩ := pairs_at q2
    have lk : ks.length = ts.length := by have := congrArg List.length ek; simpa using this
    refine ⟨l, ks, rfl, q1, fun p hp => SqT.of (hk p hp), by omega, fun b L hb m1 m2 => ?_⟩
    have kn := Kp.new (K := X.K) (o := SetTO X.prog X.w b L) hb
    have hkL : ∀ p ∈ L, (upd H1 b (SetTO X.prog X.w b L)) p.1 = some (.tup (p.2.map V.int)) := fun p hp => kn.t _ _ (hk p (m1 p hp))
    have mk : ∀ p ∈ L, ∃ t ∈ ts, p.2 = [t.1, t.2] := fun p hp => by
      have : p.2 ∈ ks.map (·.2) := List.mem_map.mpr ⟨p, m1 p hp, rfl⟩
      rw [ek] at this
      obtain ⟨t, ht, e⟩ := List.mem_map.mp this
      exact ⟨t, ht, e.symm⟩
    obtain ⟨tp, tb⟩ := topP_pos h64.2
    have nnt : ∀ t ∈ ts, 0 ≤ t.1 ∧ 0 ≤ t.2 := fun t ht => by
      have := List.all_eq_true.mp h64.2 t ht
      simpa [nn] using this
    refine ⟨b, L, 2, topP ts, rfl, upd_same, fun p hp => SqT.of (hkL p hp), by decide, fun p hp => ?_, fun L' t pm nd few pw ht => ?_⟩
    · obtain ⟨t, ht, e⟩ := mk p hp
      rw [e]
      refine ⟨rfl, fun m hm => ?_⟩
      have := tb t ht
      have := nnt t ht
      simp only [List.mem_cons, List.not_mem_nil, or_false] at hm
      omega
    · obtain ⟨us, eu⟩ := as_pairs (L'.map (·.2)) fun k hk => by
        obtain ⟨p, hp, rfl⟩ := List.mem_map.mp hk
        obtain ⟨t, _, e⟩ := mk p (pm.mem_iff.mp hp)
        rw [e]; rfl
      have inj : ∀ s t : Int × Int, [s.1, s.2] = [t.1, t.2] → s = t := fun s t e => by
        simp only [List.cons.injEq, and_true] at e
        exact Prod.ext e.1 e.2
      have memU : ∀ t, t ∈ us ↔ t ∈ ts := fun t => by
        have a1 : t ∈ us ↔ [t.1, t.2] ∈ L'.map (·.2) := by
          rw [eu, List.mem_map]
          exact ⟨fun h => ⟨t, h, rfl⟩, fun ⟨s, hs, e⟩ => by rw [← inj s t e]; exact hs⟩
        rw [a1]
        constructor
        · intro h
          obtain ⟨p, hp, e⟩ := List.mem_map.mp h
          obtain ⟨s, hs, e'⟩ := mk p (pm.mem_iff.mp hp)
          rw [← inj s t (e'.symm.trans e)]; exact hs
        · intro h
          have : [t.1, t.2] ∈ ks.map (·.2) := by rw [ek]; exact List.mem_map.mpr ⟨t, h, rfl⟩
          obtain ⟨p, hp, e⟩ := List.mem_map.mp this
          have := m2 p hp
          rw [e] at this
          exact (pm.map _).mem_iff.mpr this
      have ndU : us.Nodup := by
        rw [eu] at nd
        exact List.Pairwise.of_map _ (fun a b h e => h (by rw [e])) nd
      have pwU : us.Pairwise ltPr := by
        refine pw_lt (B := topP ts) ?_ ndU fun t ht => ?_
        · rw [← eu]
          exact List.pairwise_map.mpr pw
        · have h1 := (memU t).mp ht
          exact ⟨(nnt t h1).2, (tb t h1).2⟩
      have e : us = srtP ts := strict_uniq pairO pwU (srtO_pw pairO ts) fun x => by rw [memU, srtO_mem pairO]
      subst e
      refine KR.lst (KR.pre k pr1 (k1.trans kn)) (s1.laid hb) (reps_of eu fun p hp => hkL p (pm.mem_iff.mp hp)) t ht
  · cases hf
end
/-! ### xs.insert(i, x) -/
section
variable {K : PySem.W.Frag}
def insertW : W → List W → Sto → Option (W × Sto)
  | .ref n, [.int i, v], S => match S[n]? with
    | some (.lst xs) => if xs.length < sizeLine ∧ 0 ≤ i ∧ i < 2 ^ 63 then some (.non, S.set n (.lst (xs.take i.toNat ++ [v] ++ xs.drop i.toNat))) else none
    | _ => none
  | _, _, _ => none
theorem r_insert : RmW K (fun x vs H Q => ∃ (l : Addr) (xs : List V) (i : Int) (y : V), x = .ref l ∧ vs = [.int i, y] ∧ H l = some (.lst xs) ∧ xs.length < sizeLine ∧ 0 ≤ i ∧ i < 2 ^ 63 ∧ Q .non (upd H l (.lst (xs.take i.toNat ++ [y] ++ xs.drop i.toNat)))) insertW := by
  intro r S H x xs wx ws w S' Q s rx rxs e k
  unfold insertW at e
  split at e
  · split at e
    · rename_i hx
      split at e
      · rename_i hl
        cases e
        obtain ⟨a, ys, rfl, hr, h1, h2⟩ := rx.lstI s hx
        cases rxs with
        | cons ra rb =>
          cases ra
          cases rb with
          | cons rb rc =>
            cases rc
            exact ⟨a, ys, _, _, rfl, rfl, h1, by rw [h2.length]; exact hl.1, hl.2.1, hl.2.2, KR.set k s hr (((h2.take _).append (Reps.one rb)).append (h2.drop _)) .non⟩
      · cases e
    · cases e
  · cases e
end
end Bp
namespace Bp
open PySem L2
theorem u64 {k : Nat} {A : Around} (r : Room k A) : A.units + 64 < cLine := by have := u65 r; omega
end Bp

/-! Pg9: times_for, first_corner. -/
namespace Bp
set_option autoImplicit false
open PySem L2
theorem get_mid {S Z : Sto} {o : O} : (S ++ o :: Z)[S.length]? = some o := by simp
theorem set_mid {S Z : Sto} {o u : O} : (S ++ o :: Z).set S.length u = S ++ u :: Z := by simp
def RunD.cA (r : RunD) (k : Int) : Cg := ⟨r.a, k - r.x, 2 * r.w⟩
def RunD.cB (r : RunD) (k : Int) : Cg := ⟨r.b, k - r.y, 2 * r.h⟩
/-- both signs of a coordinate -/
def pm (i : Int) : List Int := srtI [i, -i]
theorem pm_mem {i k : Int} : k ∈ pm i ↔ k = i ∨ k = -i := by
  unfold pm srtI
  rw [srtO_mem intO]
  simp
theorem pm_len (i : Int) : (pm i).length ≤ 2 := by
  unfold pm
  rw [srtI_neg]
  split
  · simp
  · split <;> simp
def RunD.tfor (r : RunD) (i j : Int) : List (Int × Int) := Cg.all ((pm i).map r.cA) ((pm j).map r.cB)
theorem cA_ok {r : RunD} (hr : r.Ok) {k : Int} (hk : k.natAbs ≤ 12) : (r.cA k).Ok := by
  obtain ⟨h1, h2, h3, h4, h5, h6, h7⟩ : okRun r.w r.h r.x r.y r.a r.b := hr
  exact ⟨by show r.a.natAbs ≤ 100; omega, by show (k - r.x).natAbs ≤ 100; omega, by show 0 < 2 * r.w; omega, by show 2 * r.w ≤ 100; omega⟩
theorem cB_ok {r : RunD} (hr : r.Ok) {k : Int} (hk : k.natAbs ≤ 12) : (r.cB k).Ok := by
  obtain ⟨h1, h2, h3, h4, h5, h6, h7⟩ : okRun r.w r.h r.x r.y r.a r.b := hr
  exact ⟨by show r.b.natAbs ≤ 100; omega, by show (k - r.y).natAbs ≤ 100; omega, by show 0 < 2 * r.h; omega, by show 2 * r.h ≤ 100; omega⟩
/-- times_for(run, spot); slots 0:run 1:spot 2:found 3:across 4:w 5:h 6:x 7:y 8:a 9:b 10:along 11:time -/
noncomputable def b_times_for : Fs := sSeq (sAsg (eVar 0) (gTupW 6 (gsCons (gN 4) (gsCons (gN 5) (gsCons (gN 6) (gsCons (gN 7) (gsCons (gN 8) (gsCons (gN 9) (gsNil))))))))) (sSeq (sAsg (eLst (aNil)) (gN 2)) (sSeq (sFor (iSeq (eSorI (eLst (aCons (eOp ixW (eVar 1) (eC (.int 0))) (aCons (eUn negW (eOp ixW (eVar 1) (eC (.int 0)))) (aNil)))))) (gN 3) (sFor (iSeq (eSorI (eLst (aCons (eOp ixW (eVar 1) (eC (.int 1))) (aCons (eUn negW (eOp ixW (eVar 1) (eC (.int 1)))) (aNil)))))) (gN 10) (sSeq (sAsg (eCall G_earliest (aCons (eTup (aCons (eVar 8) (aCons (eOp subW (eVar 3) (eVar 6)) (aCons (eOp mulW (eC (.int 2)) (eVar 4)) (aNil))))) (aCons (eTup (aCons (eVar 9) (aCons (eOp subW (eVar 10) (eVar 7)) (aCons (eOp mulW (eC (.int 2)) (eVar 5)) (aNil))))) (aNil)))) (gN 11)) (sIf (tVal (eOp notNW (eVar 11) (eC .non))) (sDrop (eMethL appendW (eVar 2) (aCons (eVar 11) (aNil)))) (sNext))))) (sRet (eVar 2))))
def okSp (i j : Int) : Prop := i.natAbs ≤ 12 ∧ j.natAbs ≤ 12
instance (i j : Int) : Decidable (okSp i j) := inferInstanceAs (Decidable (_ ∧ _))
def G_times_for : Fn
  | [.tup [.int w, .int h, .int x, .int y, .int a, .int b], .tup [.int i, .int j]], S => if okRun w h x y a b ∧ okSp i j then some (.ref S.length, S ++ [.lst ((RunD.tfor ⟨w, h, x, y, a, b⟩ i j).map fr)]) else none
  | _, _ => none
def tfI : Fs := (sSeq (sAsg (eCall G_earliest (aCons (eTup (aCons (eVar 8) (aCons (eOp subW (eVar 3) (eVar 6)) (aCons (eOp mulW (eC (.int 2)) (eVar 4)) (aNil))))) (aCons (eTup (aCons (eVar 9) (aCons (eOp subW (eVar 10) (eVar 7)) (aCons (eOp mulW (eC (.int 2)) (eVar 5)) (aNil))))) (aNil)))) (gN 11)) (sIf (tVal (eOp notNW (eVar 11) (eC .non))) (sDrop (eMethL appendW (eVar 2) (aCons (eVar 11) (aNil)))) (sNext)))
noncomputable def tfL : Fs := (sFor (iSeq (eSorI (eLst (aCons (eOp ixW (eVar 1) (eC (.int 1))) (aCons (eUn negW (eOp ixW (eVar 1) (eC (.int 1)))) (aNil)))))) (gN 10) tfI)
def tfE (r : RunD) (i j : Int) (n : Nat) (e3 e10 e11 : Option W) : En := [some r.W, some (.tup [.int i, .int j]), some (.ref n), e3, some (.int r.w), some (.int r.h), some (.int r.x), some (.int r.y), some (.int r.a), some (.int r.b), e10, e11]
theorem tfI_ok (r : RunD) (i j : Int) (S Z : Sto) (k l : Int) (hc : (r.cA k).Ok) (hd : (r.cB l).Ok) (L : List (Int × Int)) (hl : L.length < 1000) (e11 : Option W) : ∃ e11', tfI (tfE r i j S.length (some (.int k)) (some (.int l)) e11) (S ++ .lst (L.map fr) :: Z) = some (.next (tfE r i j S.length (some (.int k)) (some (.int l)) e11'), S ++ .lst ((L ++ ((r.cA k).erl (r.cB l)).toList).map fr) :: Z) := by
  have E := earliest_at hc hd
  have lz : (L.map fr).length < sizeLine := by rw [List.length_map]; exact Nat.lt_trans hl (by decide)
  have m1 : okMul 2 r.w := .inl (by decide)
  have m2 : okMul 2 r.h := .inl (by decide)
  unfold tfI tfE
  cases he : (r.cA k).erl (r.cB l) with
  | none =>
    rw [he] at E
    refine ⟨some .non, ?_⟩
    simp only [optW, RunD.cA, RunD.cB] at E
    simp only [Option.toList_none, List.append_nil]
    generalize S ++ O.lst (L.map fr) :: Z = S' at *
    clear hc hd he hl lz
    simp only [fnB, en, List.map_cons, List.map_nil, List.length_cons, List.length_nil, List.replicate_succ, List.replicate_zero, List.cons_append, List.nil_append, List.append_nil, List.getElem?_cons_zero, List.getElem?_cons_succ, List.set_cons_zero, List.set_cons_succ,  Nat.zero_add, Nat.reduceAdd, Nat.reduceSub, Nat.sub_self, Nat.reduceEqDiff,  eVar, eC, eOp, eUn, aNil, aCons, eTup, eLst, eCall, eIf, eAnd, eOr, eNot, tVal, tAndW, tOrW, tNotW, eChain, sNext, sBrk, sCnt, sNever, sSeq, sRet, sRetN, sDrop, sIf, sAsg, sPar, sPar3, gN, gsNil, gsCons, gTupW, Option.bind_some, Option.bind_none,  s0, s1, s2, s3, s4, s6, subW, ltW, leW, gtW, geW, iop0, iop, modW, fdivW, powW, addW, mulW, negW, isi_int_int, isi_int_bool, isi_bl_int, isi_bl_bool, isi_non_int, isi_str_int, isi_tup_int, isi_tup_tup, eq_int, ne_int, len_p, len_6, len_l1, decide_true, decide_false, Int.reduceEq, Int.reduceNeg, absW, minW, ix_p0, ix_p1, ix_r0, ix_r1, ix_r2, ix_r3, ix_r4, ix_r5, if_true, if_false, ite_true, ite_false, Bool.not_true, Bool.not_false, Bool.false_eq_true, reduceIte, ↓reduceIte, eMethL, lstOf, get_mid, set_mid, appendW, notNW, isNW, W.isNon, s3, ne_eq, not_false_eq_true, and_self, and_false, false_and, true_and, and_true, *]
  | some t =>
    rw [he] at E
    refine ⟨some (fr t), ?_⟩
    simp only [optW, RunD.cA, RunD.cB] at E
    rw [Option.toList_some, List.map_append]
    generalize L.map fr = L' at *
    clear hc hd he hl
    simp only [fnB, en, List.map_cons, List.map_nil, List.length_cons, List.length_nil, List.replicate_succ, List.replicate_zero, List.cons_append, List.nil_append, List.append_nil, List.getElem?_cons_zero, List.getElem?_cons_succ, List.set_cons_zero, List.set_cons_succ,  Nat.zero_add, Nat.reduceAdd, Nat.reduceSub, Nat.sub_self, Nat.reduceEqDiff,  eVar, eC, eOp, eUn, aNil, aCons, eTup, eLst, eCall, eIf, eAnd, eOr, eNot, tVal, tAndW, tOrW, tNotW, eChain, sNext, sBrk, sCnt, sNever, sSeq, sRet, sRetN, sDrop, sIf, sAsg, sPar, sPar3, gN, gsNil, gsCons, gTupW, Option.bind_some, Option.bind_none,  s0, s1, s2, s3, s4, s6, subW, ltW, leW, gtW, geW, iop0, iop, modW, fdivW, powW, addW, mulW, negW, isi_int_int, isi_int_bool, isi_bl_int, isi_bl_bool, isi_non_int, isi_str_int, isi_tup_int, isi_tup_tup, eq_int, ne_int, len_p, len_6, len_l1, decide_true, decide_false, Int.reduceEq, Int.reduceNeg, absW, minW, ix_p0, ix_p1, ix_r0, ix_r1, ix_r2, ix_r3, ix_r4, ix_r5, if_true, if_false, ite_true, ite_false, Bool.not_true, Bool.not_false, Bool.false_eq_true, reduceIte, ↓reduceIte, eMethL, lstOf, get_mid, set_mid, appendW, notNW, isNW, W.isNon, s3, ne_eq, not_false_eq_true, and_self, and_false, false_and, true_and, and_true, *]
theorem tf_in (r : RunD) (i j : Int) (S Z : Sto) (k : Int) (hc : (r.cA k).Ok) (chk : Sto → Prop) (hk : ∀ X, chk (S ++ .lst X :: Z)) : ∀ (ls : List Int) (L : List (Int × Int)) (e10 e11 : Option W), (∀ l ∈ ls, (r.cB l).Ok) → L.length + ls.length < 1000 → ∃ e10' e11', forF (gN 10) tfI chk (ls.map W.int) (tfE r i j S.length (some (.int k)) e10 e11) (S ++ .lst (L.map fr) :: Z) = some (.next (tfE r i j S.length (some (.int k)) e10' e11'), S ++ .lst ((L ++ ls.filterMap fun l => (r.cA k).erl (r.cB l)).map fr) :: Z)
  | [], L, e10, e11, _, _ => ⟨e10, e11, by rw [List.map_nil, forF_nil, if_pos (hk _), List.filterMap_nil, List.append_nil]⟩
  | l :: ls, L, e10, e11, hd, hl => by
    simp only [List.length_cons] at hl
    obtain ⟨f11, h1⟩ := tfI_ok r i j S Z k l hc (hd l (List.mem_cons_self ..)) L (by omega) e11
    have ll : (L ++ ((r.cA k).erl (r.cB l)).toList).length ≤ L.length + 1 := by cases (r.cA k).erl (r.cB l) <;> simp
    obtain ⟨g10, g11, h2⟩ := tf_in r i j S Z k hc chk hk ls (L ++ ((r.cA k).erl (r.cB l)).toList) (some (.int l)) f11 (fun d' h => hd d' (List.mem_cons_of_mem _ h)) (by omega)
    refine ⟨g10, g11, ?_⟩
    rw [List.map_cons, forF_cons, if_pos (hk _)]
    have g : gN 10 (.int l) (tfE r i j S.length (some (.int k)) e10 e11) (S ++ .lst (L.map fr) :: Z) = some (tfE r i j S.length (some (.int k)) (some (.int l)) e11, S ++ .lst (L.map fr) :: Z) := rfl
    rw [g]
    simp only [Option.bind_some]
    rw [h1]
    simp only [Option.bind_some]
    rw [h2]
    have e : (l :: ls).filterMap (fun l => (r.cA k).erl (r.cB l)) = ((r.cA k).erl (r.cB l)).toList ++ ls.filterMap fun l => (r.cA k).erl (r.cB l) := by
      rw [List.filterMap_cons]
      cases (r.cA k).erl (r.cB l) <;> rfl
    rw [e, List.append_assoc]
theorem sor_it {f g : Fe} {e : En} {S : Sto} {i : Int} (h1 : f e S = some (.int i, S)) (h2 : g e S = some (.int (-i), S)) : iSeq (eSorI (eLst (aCons f (aCons g aNil)))) e S = some (⟨(pm i).map W.int, fun S' => S'[S.length + 1]? = some (.lst ((pm i).map W.int))⟩, S ++ [.lst [.int i, .int (-i)], .lst ((pm i).map W.int)]) := by
  have l2 : (2 : Nat) ≤ sizeLine := s2
  have e1 : eLst (aCons f (aCons g aNil)) e S = some (.ref S.length, S ++ [.lst [.int i, .int (-i)]]) := by
    simp only [eLst, aCons, aNil, h1, h2, Option.bind_some, List.length_cons, List.length_nil, Nat.zero_add, Nat.reduceAdd, l2, if_true]
  have e2 : eSorI (eLst (aCons f (aCons g aNil))) e S = some (.ref (S.length + 1), S ++ [.lst [.int i, .int (-i)], .lst ((pm i).map W.int)]) := by
    simp only [eSorI, e1, Option.bind_some, lstOf, get_last, intsOf, List.length_cons, List.length_nil, Nat.zero_add, Nat.reduceAdd, Nat.reduceLT, if_true, List.length_append, List.append_assoc, List.cons_append, List.nil_append]
    rfl
  refine iSeq_ref e2 ?_
  rw [List.getElem?_append_right (by omega)]
  simp
theorem tfL_ok (r : RunD) (i j : Int) (S Z : Sto) (k : Int) (hc : (r.cA k).Ok) (hB : ∀ l ∈ pm j, (r.cB l).Ok) (L : List (Int × Int)) (e10 e11 : Option W) (hl : L.length + 2 < 1000) : ∃ e10' e11' Y, tfL (tfE r i j S.length (some (.int k)) e10 e11) (S ++ .lst (L.map fr) :: Z) = some (.next (tfE r i j S.length (some (.int k)) e10' e11'), S ++ .lst ((L ++ (pm j).filterMap fun l => (r.cA k).erl (r.cB l)).map fr) :: (Z ++ Y)) := by
  have it := sor_it (f := eOp ixW (eVar 1) (eC (.int 1))) (g := eUn negW (eOp ixW (eVar 1) (eC (.int 1)))) (e := tfE r i j S.length (some (.int k)) e10 e11) (S := S ++ .lst (L.map fr) :: Z) (i := j) rfl rfl
  have pl := pm_len j
  rw [List.append_assoc, List.cons_append] at it
  obtain ⟨f10, f11, h⟩ := tf_in r i j S (Z ++ [.lst [.int j, .int (-j)], .lst ((pm j).map W.int)]) k hc (fun S' => S'[(S ++ .lst (L.map fr) :: Z).length + 1]? = some (.lst ((pm j).map W.int))) (fun X => by
    rw [List.length_append, List.length_cons, List.getElem?_append_right (by omega), show S.length + (Z.length + 1) + 1 - S.length = Z.length + 1 + 1 by omega, List.getElem?_cons_succ, List.getElem?_append_right (by omega), show Z.length + 1 - Z.length = 1 by omega]
    rfl) (pm j) L e10 e11 hB (by omega)
  refine ⟨f10, f11, [.lst [.int j, .int (-j)], .lst ((pm j).map W.int)], ?_⟩
  unfold tfL sFor
  rw [it]
  simp only [Option.bind_some]
  exact h
theorem tf_out (r : RunD) (i j : Int) (S : Sto) (hB : ∀ l ∈ pm j, (r.cB l).Ok) (chk : Sto → Prop) : ∀ (ks : List Int) (Z : Sto) (L : List (Int × Int)) (e3 e10 e11 : Option W), (∀ X Y, chk (S ++ .lst X :: (Z ++ Y))) → (∀ k ∈ ks, (r.cA k).Ok) → L.length + 2 * ks.length < 900 → ∃ e3' e10' e11' Y, forF (gN 3) tfL chk (ks.map W.int) (tfE r i j S.length e3 e10 e11) (S ++ .lst (L.map fr) :: Z) = some (.next (tfE r i j S.length e3' e10' e11'), S ++ .lst ((L ++ Cg.all (ks.map r.cA) ((pm j).map r.cB)).map fr) :: (Z ++ Y))
  | [], Z, L, e3, e10, e11, hk, _, _ => ⟨e3, e10, e11, [], by
      have := hk (L.map fr) []
      rw [List.append_nil] at this
      rw [List.map_nil, forF_nil, if_pos this]
      show _ = some (Out.next _, S ++ .lst ((L ++ []).map fr) :: (Z ++ []))
      rw [List.append_nil, List.append_nil]⟩
  | k :: ks, Z, L, e3, e10, e11, hk, hc, hl => by
    simp only [List.length_cons] at hl
    obtain ⟨f10, f11, Y, h1⟩ := tfL_ok r i j S Z k (hc k (List.mem_cons_self ..)) hB L e10 e11 (by omega)
    have lf := List.length_filterMap_le (fun l => (r.cA k).erl (r.cB l)) (pm j)
    have pl := pm_len j
    obtain ⟨g3, g10, g11, Y2, h2⟩ := tf_out r i j S hB chk ks (Z ++ Y) (L ++ (pm j).filterMap fun l => (r.cA k).erl (r.cB l)) (some (.int k)) f10 f11 (fun X Y' => by rw [List.append_assoc]; exact hk _ _) (fun d' h => hc d' (List.mem_cons_of_mem _ h)) (by rw [List.length_append]; omega)
    refine ⟨g3, g10, g11, Y ++ Y2, ?_⟩
    have hk0 := hk (L.map fr) []
    rw [List.append_nil] at hk0
    rw [List.map_cons, forF_cons, if_pos hk0]
    have g : gN 3 (.int k) (tfE r i j S.length e3 e10 e11) (S ++ .lst (L.map fr) :: Z) = some (tfE r i j S.length (some (.int k)) e10 e11, S ++ .lst (L.map fr) :: Z) := rfl
    rw [g]
    simp only [Option.bind_some]
    rw [h1]
    simp only [Option.bind_some]
    rw [h2]
    have e : Cg.all ((k :: ks).map r.cA) ((pm j).map r.cB) = (pm j).filterMap (fun l => (r.cA k).erl (r.cB l)) ++ Cg.all (ks.map r.cA) ((pm j).map r.cB) := by
      unfold Cg.all
      rw [List.map_cons, List.flatMap_cons, List.filterMap_map]
      rfl
    rw [e, List.append_assoc, List.append_assoc]
theorem belows_fr (n : Nat) : ∀ ts : List (Int × Int), belows n (ts.map fr) = true
  | [] => rfl
  | t :: ts => by simp [belows, below, belows_fr n ts]
theorem t_times_for : Tells 12 b_times_for G_times_for := by
  intro ws S r hh
  unfold G_times_for at hh
  split at hh
  · split at hh
    · rename_i w h x y a b i j hb
      cases hh
      obtain ⟨k1, k2, k3⟩ := hb
      have ok : RunD.Ok ⟨w, h, x, y, a, b⟩ := k1
      have hA : ∀ k ∈ pm i, (RunD.cA ⟨w, h, x, y, a, b⟩ k).Ok := fun k hk => cA_ok ok (by rcases pm_mem.mp hk with rfl | rfl <;> omega)
      have hB : ∀ k ∈ pm j, (RunD.cB ⟨w, h, x, y, a, b⟩ k).Ok := fun k hk => cB_ok ok (by rcases pm_mem.mp hk with rfl | rfl <;> omega)
      have it := sor_it (f := eOp ixW (eVar 1) (eC (.int 0))) (g := eUn negW (eOp ixW (eVar 1) (eC (.int 0)))) (e := tfE ⟨w, h, x, y, a, b⟩ i j S.length none none none) (S := S ++ [.lst []]) (i := i) rfl rfl
      rw [List.append_assoc, List.cons_append, List.nil_append] at it
      have pl := pm_len i
      obtain ⟨e3, e10, e11, Y, hl⟩ := tf_out ⟨w, h, x, y, a, b⟩ i j S hB (fun S' => S'[(S ++ [O.lst []]).length + 1]? = some (.lst ((pm i).map W.int))) (pm i) [.lst [.int i, .int (-i)], .lst ((pm i).map W.int)] [] none none none (fun X Y => by
        rw [List.length_append, List.getElem?_append_right (by omega), show S.length + [O.lst []].length + 1 - S.length = 2 by simp; omega]
        rfl) hA (by simp only [List.length_nil]; omega)
      rw [List.nil_append] at hl
      refine ⟨(.ref S.length, S ++ .lst ((RunD.tfor ⟨w, h, x, y, a, b⟩ i j).map fr) :: ([.lst [.int i, .int (-i)], .lst ((pm i).map W.int)] ++ Y)), fnB_ret ?_, .lst _ _ _ (Nat.le_refl _) get_mid (belows_fr _ _)⟩
      have e : b_times_for = sSeq (sAsg (eVar 0) (gTupW 6 (gsCons (gN 4) (gsCons (gN 5) (gsCons (gN 6) (gsCons (gN 7) (gsCons (gN 8) (gsCons (gN 9) (gsNil))))))))) (sSeq (sAsg (eLst (aNil)) (gN 2)) (sSeq (sFor (iSeq (eSorI (eLst (aCons (eOp ixW (eVar 1) (eC (.int 0))) (aCons (eUn negW (eOp ixW (eVar 1) (eC (.int 0)))) (aNil)))))) (gN 3) tfL) (sRet (eVar 2)))) := rfl
      rw [e]
      refine' seq_trans (e' := [some (.tup [.int w, .int h, .int x, .int y, .int a, .int b]), some (.tup [.int i, .int j]), none, none, some (.int w), some (.int h), some (.int x), some (.int y), some (.int a), some (.int b), none, none]) (S' := S) _ _
      · clear it hl hA hB ok k1 k2 k3 e pl
        simp only [fnB, en, List.map_cons, List.map_nil, List.length_cons, List.length_nil, List.replicate_succ, List.replicate_zero, List.cons_append, List.nil_append, List.append_nil, List.getElem?_cons_zero, List.getElem?_cons_succ, List.set_cons_zero, List.set_cons_succ,  Nat.zero_add, Nat.reduceAdd, Nat.reduceSub, Nat.sub_self, Nat.reduceEqDiff,  eVar, eC, eOp, eUn, aNil, aCons, eTup, eLst, eCall, eIf, eAnd, eOr, eNot, tVal, tAndW, tOrW, tNotW, eChain, sNext, sBrk, sCnt, sNever, sSeq, sRet, sRetN, sDrop, sIf, sAsg, sPar, sPar3, gN, gsNil, gsCons, gTupW, Option.bind_some, Option.bind_none,  s0, s1, s2, s3, s4, s6, subW, ltW, leW, gtW, geW, iop0, iop, modW, fdivW, powW, addW, mulW, negW, isi_int_int, isi_int_bool, isi_bl_int, isi_bl_bool, isi_non_int, isi_str_int, isi_tup_int, isi_tup_tup, eq_int, ne_int, len_p, len_6, len_l1, decide_true, decide_false, Int.reduceEq, Int.reduceNeg, absW, minW, ix_p0, ix_p1, ix_r0, ix_r1, ix_r2, ix_r3, ix_r4, ix_r5, if_true, if_false, ite_true, ite_false, Bool.not_true, Bool.not_false, Bool.false_eq_true, reduceIte, ↓reduceIte, s6, ne_eq, not_false_eq_true, and_self, and_false, false_and, true_and, and_true, *]
      refine' seq_trans (e' := tfE ⟨w, h, x, y, a, b⟩ i j S.length none none none) (S' := S ++ [.lst []]) rfl _
      refine' seq_trans (e' := tfE ⟨w, h, x, y, a, b⟩ i j S.length e3 e10 e11) (S' := S ++ .lst ((RunD.tfor ⟨w, h, x, y, a, b⟩ i j).map fr) :: ([.lst [.int i, .int (-i)], .lst ((pm i).map W.int)] ++ Y)) _ rfl
      simp only [sFor, it, Option.bind_some]
      exact hl
    · cases hh
  · cases hh
theorem l_times_for : ∀ ws S r, G_times_for ws S = some r → ws.length = 2 := by
  intro ws S r h
  unfold G_times_for at h
  split at h <;> first | rfl | cases h
theorem times_for_at {r : RunD} (ok : r.Ok) {i j : Int} (h : okSp i j) (S : Sto) : G_times_for [r.W, .tup [.int i, .int j]] S = some (.ref S.length, S ++ [.lst ((r.tfor i j).map fr)]) := by
  have ok' : okRun r.w r.h r.x r.y r.a r.b := ok
  simp only [G_times_for, RunD.W, ok', h, and_self, if_true]
theorem tfor_den {r : RunD} (ok : r.Ok) {i j : Int} (h : okSp i j) : okTs (r.tfor i j) := by
  refine Cg.all_den (fun c hc => ?_) fun c hc => ?_
  · obtain ⟨k, hk, rfl⟩ := List.mem_map.mp hc
    exact cA_ok ok (by rcases pm_mem.mp hk with rfl | rfl <;> have := h.1 <;> omega)
  · obtain ⟨k, hk, rfl⟩ := List.mem_map.mp hc
    exact cB_ok ok (by rcases pm_mem.mp hk with rfl | rfl <;> have := h.2 <;> omega)
/-- the first time at a place -/
def RunD.fat (r : RunD) (i j : Int) : Option (Int × Int) := lstP (r.tfor i j) none
theorem least_tfor {r : RunD} (ok : r.Ok) {i j : Int} (h : okSp i j) (S : Sto) : G_least [.ref S.length] (S ++ [.lst ((r.tfor i j).map fr)]) = some (optW (r.fat i j), S ++ [.lst ((r.tfor i j).map fr)]) := least_at get_last (tfor_den ok h)
/-! ### first_corner -/
/-- first_corner(run); slots 0:run 1:best 2:spot 3:time -/
noncomputable def b_first_corner : Fs := sSeq (sDrop (eCall G_need_run (aCons (eVar 0) (aNil)))) (sSeq (sAsg (eC .non) (gN 1)) (sSeq (sFor (iSeq (eTup (aCons (eTup (aCons (eC (.int 0)) (aCons (eC (.int 0)) (aNil)))) (aCons (eTup (aCons (eC (.int 0)) (aCons (eOp ixW (eVar 0) (eC (.int 1))) (aNil)))) (aCons (eTup (aCons (eOp ixW (eVar 0) (eC (.int 0))) (aCons (eC (.int 0)) (aNil)))) (aCons (eTup (aCons (eOp ixW (eVar 0) (eC (.int 0))) (aCons (eOp ixW (eVar 0) (eC (.int 1))) (aNil)))) (aNil))))))) (gN 2) (sSeq (sAsg (eCall G_least (aCons (eCall G_times_for (aCons (eVar 0) (aCons (eVar 2) (aNil)))) (aNil))) (gN 3)) (sIf (tAndW (tVal (eOp notNW (eVar 3) (eC .non))) (tOrW (tVal (eOp isNW (eVar 1) (eC .non))) (tVal (eCall G_is_less (aCons (eVar 3) (aCons (eOp ixW (eVar 1) (eC (.int 0))) (aNil))))))) (sAsg (eTup (aCons (eVar 3) (aCons (eVar 2) (aNil)))) (gN 1)) (sNext)))) (sRet (eVar 1))))
def corW : Option ((Int × Int) × (Int × Int)) → W
  | none => .non
  | some (t, s) => .tup [fr t, fr s]
/-- the first time in one of these corners, and the corner -/
def RunD.fcor (r : RunD) : List (Int × Int) → Option ((Int × Int) × (Int × Int)) → Option ((Int × Int) × (Int × Int))
  | [], b => b
  | s :: ss, b => r.fcor ss (match r.fat s.1 s.2, b with
    | none, b => b
    | some t, none => some (t, s)
    | some t, some u => if less t u.1 then some (t, s) else some u)
def RunD.cors (r : RunD) : List (Int × Int) := [(0, 0), (0, r.h), (r.w, 0), (r.w, r.h)]
def RunD.corner (r : RunD) : Option ((Int × Int) × (Int × Int)) := r.fcor r.cors none
def G_first_corner : Fn
  | [.tup [.int w, .int h, .int x, .int y, .int a, .int b]], S => if okRun w h x y a b then some (corW (RunD.corner ⟨w, h, x, y, a, b⟩), S) else none
  | _, _ => none
theorem lstP_den : ∀ {ts : List (Int × Int)} {b : Option (Int × Int)} {t : Int × Int}, okTs ts → (∀ t ∈ b, 0 < t.2 ∧ t.2.natAbs < 2 ^ 64) → lstP ts b = some t → 0 < t.2 ∧ t.2.natAbs < 2 ^ 64
  | [], b, t, _, hb, h => hb t h
  | s :: ts, none, t, hk, hb, h => lstP_den (fun t ht => hk t (List.mem_cons_of_mem _ ht)) (b := some s) (by intro t h; cases h; exact hk s (List.mem_cons_self ..)) h
  | s :: ts, some b, t, hk, hb, h => by
    unfold lstP at h
    refine lstP_den (fun t ht => hk t (List.mem_cons_of_mem _ ht)) (fun u hu => ?_) h
    split at hu
    · cases hu; exact hk s (List.mem_cons_self ..)
    · cases hu; exact hb b rfl
theorem fat_den {r : RunD} (ok : r.Ok) {i j : Int} (h : okSp i j) {t : Int × Int} (e : r.fat i j = some t) : 0 < t.2 ∧ t.2.natAbs < 2 ^ 64 := lstP_den (tfor_den ok h) (by intro t h; cases h) e
noncomputable def fcI : Fs := (sSeq (sAsg (eCall G_least (aCons (eCall G_times_for (aCons (eVar 0) (aCons (eVar 2) (aNil)))) (aNil))) (gN 3)) (sIf (tAndW (tVal (eOp notNW (eVar 3) (eC .non))) (tOrW (tVal (eOp isNW (eVar 1) (eC .non))) (tVal (eCall G_is_less (aCons (eVar 3) (aCons (eOp ixW (eVar 1) (eC (.int 0))) (aNil))))))) (sAsg (eTup (aCons (eVar 3) (aCons (eVar 2) (aNil)))) (gN 1)) (sNext)))
theorem fc_loop (r : RunD) (ok : r.Ok) (chk : Sto → Prop) (hk : ∀ S, chk S) : ∀ (ss : List (Int × Int)) (S : Sto) (b : Option ((Int × Int) × (Int × Int))) (e2 e3 : Option W), (∀ s ∈ ss, okSp s.1 s.2) → (∀ t ∈ b, 0 < t.1.2 ∧ t.1.2.natAbs < 2 ^ 64) → ∃ e2' e3' Y, forF (gN 2) fcI chk (ss.map fr) [some r.W, some (corW b), e2, e3] S = some (.next [some r.W, some (corW (r.fcor ss b)), e2', e3'], S ++ Y)
  | [], S, b, e2, e3, _, _ => ⟨e2, e3, [], by rw [List.map_nil, forF_nil, if_pos (hk _), List.append_nil]; rfl⟩
  | s :: ss, S, b, e2, e3, hs, hb => by
    have h1 := hs s (List.mem_cons_self ..)
    have TF := times_for_at ok h1
    have LT := least_tfor ok h1
    have step : ∃ b', fcI [some r.W, some (corW b), some (fr s), e3] S = some (.next [some r.W, some (corW b'), some (fr s), some (optW (r.fat s.1 s.2))], S ++ [.lst ((r.tfor s.1 s.2).map fr)]) ∧ r.fcor (s :: ss) b = r.fcor ss b' ∧ (∀ t ∈ b', 0 < t.1.2 ∧ t.1.2.natAbs < 2 ^ 64) := by
      have TF' := TF S
      have LT' := LT S
      unfold fcI
      cases e : r.fat s.1 s.2 with
      | none =>
        refine ⟨b, ?_, by simp only [RunD.fcor, e], hb⟩
        rw [e] at LT'
        simp only [optW] at LT' ⊢
        clear hs hb TF LT e
        simp only [fnB, en, List.map_cons, List.map_nil, List.length_cons, List.length_nil, List.replicate_succ, List.replicate_zero, List.cons_append, List.nil_append, List.append_nil, List.getElem?_cons_zero, List.getElem?_cons_succ, List.set_cons_zero, List.set_cons_succ,  Nat.zero_add, Nat.reduceAdd, Nat.reduceSub, Nat.sub_self, Nat.reduceEqDiff,  eVar, eC, eOp, eUn, aNil, aCons, eTup, eLst, eCall, eIf, eAnd, eOr, eNot, tVal, tAndW, tOrW, tNotW, eChain, sNext, sBrk, sCnt, sNever, sSeq, sRet, sRetN, sDrop, sIf, sAsg, sPar, sPar3, gN, gsNil, gsCons, gTupW, Option.bind_some, Option.bind_none,  s0, s1, s2, s3, s4, s6, subW, ltW, leW, gtW, geW, iop0, iop, modW, fdivW, powW, addW, mulW, negW, isi_int_int, isi_int_bool, isi_bl_int, isi_bl_bool, isi_non_int, isi_str_int, isi_tup_int, isi_tup_tup, eq_int, ne_int, len_p, len_6, len_l1, decide_true, decide_false, Int.reduceEq, Int.reduceNeg, absW, minW, ix_p0, ix_p1, ix_r0, ix_r1, ix_r2, ix_r3, ix_r4, ix_r5, if_true, if_false, ite_true, ite_false, Bool.not_true, Bool.not_false, Bool.false_eq_true, reduceIte, ↓reduceIte, notNW, isNW, W.isNon, ne_eq, not_false_eq_true, and_self, and_false, false_and, true_and, and_true, *]
      | some t =>
        have td := fat_den ok h1 e
        rw [e] at LT'
        simp only [optW] at LT' ⊢
        cases b with
        | none =>
          refine ⟨some (t, s), ?_, by simp only [RunD.fcor, e], by intro u hu; cases hu; exact td⟩
          simp only [corW]
          clear hs hb TF LT e td
          simp only [fnB, en, List.map_cons, List.map_nil, List.length_cons, List.length_nil, List.replicate_succ, List.replicate_zero, List.cons_append, List.nil_append, List.append_nil, List.getElem?_cons_zero, List.getElem?_cons_succ, List.set_cons_zero, List.set_cons_succ,  Nat.zero_add, Nat.reduceAdd, Nat.reduceSub, Nat.sub_self, Nat.reduceEqDiff,  eVar, eC, eOp, eUn, aNil, aCons, eTup, eLst, eCall, eIf, eAnd, eOr, eNot, tVal, tAndW, tOrW, tNotW, eChain, sNext, sBrk, sCnt, sNever, sSeq, sRet, sRetN, sDrop, sIf, sAsg, sPar, sPar3, gN, gsNil, gsCons, gTupW, Option.bind_some, Option.bind_none,  s0, s1, s2, s3, s4, s6, subW, ltW, leW, gtW, geW, iop0, iop, modW, fdivW, powW, addW, mulW, negW, isi_int_int, isi_int_bool, isi_bl_int, isi_bl_bool, isi_non_int, isi_str_int, isi_tup_int, isi_tup_tup, eq_int, ne_int, len_p, len_6, len_l1, decide_true, decide_false, Int.reduceEq, Int.reduceNeg, absW, minW, ix_p0, ix_p1, ix_r0, ix_r1, ix_r2, ix_r3, ix_r4, ix_r5, if_true, if_false, ite_true, ite_false, Bool.not_true, Bool.not_false, Bool.false_eq_true, reduceIte, ↓reduceIte, notNW, isNW, W.isNon, ne_eq, not_false_eq_true, and_self, and_false, false_and, true_and, and_true, *]
        | some u =>
          have ud := hb u rfl
          obtain ⟨u1, u2⟩ := u
          simp only at ud
          have LS : ∀ S, G_is_less [fr t, fr u1] S = some (.bl (decide (less t u1)), S) := g_less td.2 ud.2
          by_cases q : less t u1
          · refine ⟨some (t, s), ?_, by simp only [RunD.fcor, e, q, if_true], by intro u hu; cases hu; exact td⟩
            rw [decide_eq_true q] at LS
            simp only [corW]
            clear hs hb TF LT e td ud q
            simp only [fnB, en, List.map_cons, List.map_nil, List.length_cons, List.length_nil, List.replicate_succ, List.replicate_zero, List.cons_append, List.nil_append, List.append_nil, List.getElem?_cons_zero, List.getElem?_cons_succ, List.set_cons_zero, List.set_cons_succ,  Nat.zero_add, Nat.reduceAdd, Nat.reduceSub, Nat.sub_self, Nat.reduceEqDiff,  eVar, eC, eOp, eUn, aNil, aCons, eTup, eLst, eCall, eIf, eAnd, eOr, eNot, tVal, tAndW, tOrW, tNotW, eChain, sNext, sBrk, sCnt, sNever, sSeq, sRet, sRetN, sDrop, sIf, sAsg, sPar, sPar3, gN, gsNil, gsCons, gTupW, Option.bind_some, Option.bind_none,  s0, s1, s2, s3, s4, s6, subW, ltW, leW, gtW, geW, iop0, iop, modW, fdivW, powW, addW, mulW, negW, isi_int_int, isi_int_bool, isi_bl_int, isi_bl_bool, isi_non_int, isi_str_int, isi_tup_int, isi_tup_tup, eq_int, ne_int, len_p, len_6, len_l1, decide_true, decide_false, Int.reduceEq, Int.reduceNeg, absW, minW, ix_p0, ix_p1, ix_r0, ix_r1, ix_r2, ix_r3, ix_r4, ix_r5, if_true, if_false, ite_true, ite_false, Bool.not_true, Bool.not_false, Bool.false_eq_true, reduceIte, ↓reduceIte, notNW, isNW, W.isNon, ne_eq, not_false_eq_true, and_self, and_false, false_and, true_and, and_true, *]
          · refine ⟨some (u1, u2), ?_, by simp only [RunD.fcor, e, q, if_false], by intro u hu; cases hu; exact ud⟩
            rw [decide_eq_false q] at LS
            simp only [corW]
            clear hs hb TF LT e td ud q
            simp only [fnB, en, List.map_cons, List.map_nil, List.length_cons, List.length_nil, List.replicate_succ, List.replicate_zero, List.cons_append, List.nil_append, List.append_nil, List.getElem?_cons_zero, List.getElem?_cons_succ, List.set_cons_zero, List.set_cons_succ,  Nat.zero_add, Nat.reduceAdd, Nat.reduceSub, Nat.sub_self, Nat.reduceEqDiff,  eVar, eC, eOp, eUn, aNil, aCons, eTup, eLst, eCall, eIf, eAnd, eOr, eNot, tVal, tAndW, tOrW, tNotW, eChain, sNext, sBrk, sCnt, sNever, sSeq, sRet, sRetN, sDrop, sIf, sAsg, sPar, sPar3, gN, gsNil, gsCons, gTupW, Option.bind_some, Option.bind_none,  s0, s1, s2, s3, s4, s6, subW, ltW, leW, gtW, geW, iop0, iop, modW, fdivW, powW, addW, mulW, negW, isi_int_int, isi_int_bool, isi_bl_int, isi_bl_bool, isi_non_int, isi_str_int, isi_tup_int, isi_tup_tup, eq_int, ne_int, len_p, len_6, len_l1, decide_true, decide_false, Int.reduceEq, Int.reduceNeg, absW, minW, ix_p0, ix_p1, ix_r0, ix_r1, ix_r2, ix_r3, ix_r4, ix_r5, if_true, if_false, ite_true, ite_false, Bool.not_true, Bool.not_false, Bool.false_eq_true, reduceIte, ↓reduceIte, notNW, isNW, W.isNon, ne_eq, not_false_eq_true, and_self, and_false, false_and, true_and, and_true, *]
    obtain ⟨b', p1, p2, p3⟩ := step
    obtain ⟨f2, f3, Y, p4⟩ := fc_loop r ok chk hk ss (S ++ [.lst ((r.tfor s.1 s.2).map fr)]) b' (some (fr s)) (some (optW (r.fat s.1 s.2))) (fun t ht => hs t (List.mem_cons_of_mem _ ht)) p3
    refine ⟨f2, f3, .lst ((r.tfor s.1 s.2).map fr) :: Y, ?_⟩
    rw [List.map_cons, forF_cons, if_pos (hk _)]
    have g : gN 2 (fr s) [some r.W, some (corW b), e2, e3] S = some ([some r.W, some (corW b), some (fr s), e3], S) := rfl
    rw [g]
    simp only [Option.bind_some]
    rw [p1]
    simp only [Option.bind_some]
    rw [p4, p2, List.append_assoc]
    rfl
theorem below_cor (n : Nat) (b : Option ((Int × Int) × (Int × Int))) : below n (corW b) = true := by
  cases b <;> simp [corW, below, belows]
theorem cors_ok {r : RunD} (ok : r.Ok) : ∀ s ∈ r.cors, okSp s.1 s.2 := by
  obtain ⟨h1, h2, h3, h4, h5, h6, h7⟩ : okRun r.w r.h r.x r.y r.a r.b := ok
  intro s hs
  simp only [RunD.cors, List.mem_cons, List.not_mem_nil, or_false] at hs
  unfold okSp
  rcases hs with rfl | rfl | rfl | rfl <;> simp only <;> omega
theorem t_first_corner : Tells 4 b_first_corner G_first_corner := by
  intro ws S r hh
  unfold G_first_corner at hh
  split at hh
  · split at hh
    · rename_i w h x y a b k1
      cases hh
      have ok : RunD.Ok ⟨w, h, x, y, a, b⟩ := k1
      have N1 : ∀ S, G_need_run [.tup [.int w, .int h, .int x, .int y, .int a, .int b]] S = some (.non, S) := fun S => by simp only [G_need_run, k1, if_true]
      obtain ⟨e2, e3, Y, hl⟩ := fc_loop ⟨w, h, x, y, a, b⟩ ok (fun _ => True) (fun _ => trivial) (RunD.cors ⟨w, h, x, y, a, b⟩) S none none none (cors_ok ok) (by intro t h; cases h)
      refine ⟨(corW (RunD.corner ⟨w, h, x, y, a, b⟩), S ++ Y), fnB_ret ?_, .val _ _ (below_cor _ _)⟩
      have it : iSeq (eTup (aCons (eTup (aCons (eC (.int 0)) (aCons (eC (.int 0)) (aNil)))) (aCons (eTup (aCons (eC (.int 0)) (aCons (eOp ixW (eVar 0) (eC (.int 1))) (aNil)))) (aCons (eTup (aCons (eOp ixW (eVar 0) (eC (.int 0))) (aCons (eC (.int 0)) (aNil)))) (aCons (eTup (aCons (eOp ixW (eVar 0) (eC (.int 0))) (aCons (eOp ixW (eVar 0) (eC (.int 1))) (aNil)))) (aNil)))))) [some (.tup [.int w, .int h, .int x, .int y, .int a, .int b]), some .non, none, none] S = some (⟨(RunD.cors ⟨w, h, x, y, a, b⟩).map fr, fun _ => True⟩, S) := by
        unfold iSeq
        clear hl N1 ok k1
        simp only [fnB, en, List.map_cons, List.map_nil, List.length_cons, List.length_nil, List.replicate_succ, List.replicate_zero, List.cons_append, List.nil_append, List.append_nil, List.getElem?_cons_zero, List.getElem?_cons_succ, List.set_cons_zero, List.set_cons_succ,  Nat.zero_add, Nat.reduceAdd, Nat.reduceSub, Nat.sub_self, Nat.reduceEqDiff,  eVar, eC, eOp, eUn, aNil, aCons, eTup, eLst, eCall, eIf, eAnd, eOr, eNot, tVal, tAndW, tOrW, tNotW, eChain, sNext, sBrk, sCnt, sNever, sSeq, sRet, sRetN, sDrop, sIf, sAsg, sPar, sPar3, gN, gsNil, gsCons, gTupW, Option.bind_some, Option.bind_none,  s0, s1, s2, s3, s4, s6, subW, ltW, leW, gtW, geW, iop0, iop, modW, fdivW, powW, addW, mulW, negW, isi_int_int, isi_int_bool, isi_bl_int, isi_bl_bool, isi_non_int, isi_str_int, isi_tup_int, isi_tup_tup, eq_int, ne_int, len_p, len_6, len_l1, decide_true, decide_false, Int.reduceEq, Int.reduceNeg, absW, minW, ix_p0, ix_p1, ix_r0, ix_r1, ix_r2, ix_r3, ix_r4, ix_r5, if_true, if_false, ite_true, ite_false, Bool.not_true, Bool.not_false, Bool.false_eq_true, reduceIte, ↓reduceIte, s4, ne_eq, not_false_eq_true, and_self, and_false, false_and, true_and, and_true, *]
        rfl
      have e : b_first_corner = sSeq (sDrop (eCall G_need_run (aCons (eVar 0) (aNil)))) (sSeq (sAsg (eC .non) (gN 1)) (sSeq (sFor (iSeq (eTup (aCons (eTup (aCons (eC (.int 0)) (aCons (eC (.int 0)) (aNil)))) (aCons (eTup (aCons (eC (.int 0)) (aCons (eOp ixW (eVar 0) (eC (.int 1))) (aNil)))) (aCons (eTup (aCons (eOp ixW (eVar 0) (eC (.int 0))) (aCons (eC (.int 0)) (aNil)))) (aCons (eTup (aCons (eOp ixW (eVar 0) (eC (.int 0))) (aCons (eOp ixW (eVar 0) (eC (.int 1))) (aNil)))) (aNil))))))) (gN 2) fcI) (sRet (eVar 1)))) := rfl
      rw [e]
      refine' seq_trans (e' := en 4 [.tup [.int w, .int h, .int x, .int y, .int a, .int b]]) (S' := S) _ _
      · clear hl ok k1 it e
        simp only [fnB, en, List.map_cons, List.map_nil, List.length_cons, List.length_nil, List.replicate_succ, List.replicate_zero, List.cons_append, List.nil_append, List.append_nil, List.getElem?_cons_zero, List.getElem?_cons_succ, List.set_cons_zero, List.set_cons_succ,  Nat.zero_add, Nat.reduceAdd, Nat.reduceSub, Nat.sub_self, Nat.reduceEqDiff,  eVar, eC, eOp, eUn, aNil, aCons, eTup, eLst, eCall, eIf, eAnd, eOr, eNot, tVal, tAndW, tOrW, tNotW, eChain, sNext, sBrk, sCnt, sNever, sSeq, sRet, sRetN, sDrop, sIf, sAsg, sPar, sPar3, gN, gsNil, gsCons, gTupW, Option.bind_some, Option.bind_none,  s0, s1, s2, s3, s4, s6, subW, ltW, leW, gtW, geW, iop0, iop, modW, fdivW, powW, addW, mulW, negW, isi_int_int, isi_int_bool, isi_bl_int, isi_bl_bool, isi_non_int, isi_str_int, isi_tup_int, isi_tup_tup, eq_int, ne_int, len_p, len_6, len_l1, decide_true, decide_false, Int.reduceEq, Int.reduceNeg, absW, minW, ix_p0, ix_p1, ix_r0, ix_r1, ix_r2, ix_r3, ix_r4, ix_r5, if_true, if_false, ite_true, ite_false, Bool.not_true, Bool.not_false, Bool.false_eq_true, reduceIte, ↓reduceIte, s4, ne_eq, not_false_eq_true, and_self, and_false, false_and, true_and, and_true, *]
      refine' seq_trans (e' := [some (.tup [.int w, .int h, .int x, .int y, .int a, .int b]), some .non, none, none]) (S' := S) rfl _
      refine' seq_trans (e' := [some (.tup [.int w, .int h, .int x, .int y, .int a, .int b]), some (corW (RunD.corner ⟨w, h, x, y, a, b⟩)), e2, e3]) (S' := S ++ Y) _ rfl
      simp only [sFor, it, Option.bind_some]
      exact hl
    · cases hh
  · cases hh
theorem l_first_corner : ∀ ws S r, G_first_corner ws S = some r → ws.length = 1 := by
  intro ws S r h
  unfold G_first_corner at h
  split at h <;> first | rfl | cases h
end Bp

/-! Pg10: need_spot, first_at, plus, turns, ascending, times_at. -/
namespace Bp
set_option autoImplicit false
open PySem L2
/-- need_spot(run, value); slots 0:run 1:value -/
noncomputable def b_need_spot : Fs := sSeq (sIf (tOrW (tNotW (tVal (eCall isiW (aCons (eVar 1) (aCons (eC (.ty "tuple")) (aNil)))))) (tVal (eOp neW (eCall lenW (aCons (eVar 1) (aNil))) (eC (.int 2))))) (sNever) (sNext)) (sIf (tOrW (tNotW (tVal (eCall G_is_count (aCons (eOp ixW (eVar 1) (eC (.int 0))) (aCons (eC (.int 0)) (aCons (eOp ixW (eVar 0) (eC (.int 0))) (aNil))))))) (tNotW (tVal (eCall G_is_count (aCons (eOp ixW (eVar 1) (eC (.int 1))) (aCons (eC (.int 0)) (aCons (eOp ixW (eVar 0) (eC (.int 1))) (aNil)))))))) (sNever) (sNext))
/-- a place in the box -/
def inBox (w h i j : Int) : Prop := (0 ≤ i ∧ i ≤ w) ∧ (0 ≤ j ∧ j ≤ h)
instance (w h i j : Int) : Decidable (inBox w h i j) := inferInstanceAs (Decidable (_ ∧ _))
def G_need_spot : Fn
  | [.tup [.int w, .int h, .int _, .int _, .int _, .int _], .tup [.int i, .int j]], S => if inBox w h i j then some (.non, S) else none
  | _, _ => none
theorem t_need_spot : Tells 2 b_need_spot G_need_spot := by
  intro ws S r hh
  refine ⟨r, ?_, .same _⟩
  unfold b_need_spot
  unfold G_need_spot at hh
  split at hh
  · split at hh
    · rename_i hk
      cases hh
      obtain ⟨k1, k2⟩ := hk
      simp only [fnB, en, List.map_cons, List.map_nil, List.length_cons, List.length_nil, List.replicate_succ, List.replicate_zero, List.cons_append, List.nil_append, List.append_nil, List.getElem?_cons_zero, List.getElem?_cons_succ, List.set_cons_zero, List.set_cons_succ,  Nat.zero_add, Nat.reduceAdd, Nat.reduceSub, Nat.sub_self, Nat.reduceEqDiff,  eVar, eC, eOp, eUn, aNil, aCons, eTup, eLst, eCall, eIf, eAnd, eOr, eNot, tVal, tAndW, tOrW, tNotW, eChain, sNext, sBrk, sCnt, sNever, sSeq, sRet, sRetN, sDrop, sIf, sAsg, sPar, sPar3, gN, gsNil, gsCons, gTupW, Option.bind_some, Option.bind_none,  s0, s1, s2, s3, s4, s6, subW, ltW, leW, gtW, geW, iop0, iop, modW, fdivW, powW, addW, mulW, negW, isi_int_int, isi_int_bool, isi_bl_int, isi_bl_bool, isi_non_int, isi_str_int, isi_tup_int, isi_tup_tup, eq_int, ne_int, len_p, len_6, len_l1, decide_true, decide_false, Int.reduceEq, Int.reduceNeg, absW, minW, ix_p0, ix_p1, ix_r0, ix_r1, ix_r2, ix_r3, ix_r4, ix_r5, if_true, if_false, ite_true, ite_false, Bool.not_true, Bool.not_false, Bool.false_eq_true, reduceIte, ↓reduceIte, G_is_count, ne_eq, not_false_eq_true, and_self, and_false, false_and, true_and, and_true, *]
    · cases hh
  · cases hh
theorem l_need_spot : ∀ ws S r, G_need_spot ws S = some r → ws.length = 2 := by
  intro ws S r h
  unfold G_need_spot at h
  split at h <;> first | rfl | cases h
/-- first_at(run, spot); slots 0:run 1:spot -/
noncomputable def b_first_at : Fs := sSeq (sDrop (eCall G_need_run (aCons (eVar 0) (aNil)))) (sSeq (sDrop (eCall G_need_spot (aCons (eVar 0) (aCons (eVar 1) (aNil))))) (sRet (eCall G_least (aCons (eCall G_times_for (aCons (eVar 0) (aCons (eVar 1) (aNil)))) (aNil)))))
def G_first_at : Fn
  | [.tup [.int w, .int h, .int x, .int y, .int a, .int b], .tup [.int i, .int j]], S => if okRun w h x y a b ∧ inBox w h i j then some (optW (RunD.fat ⟨w, h, x, y, a, b⟩ i j), S) else none
  | _, _ => none
theorem inBox_sp {r : RunD} (ok : r.Ok) {i j : Int} (h : inBox r.w r.h i j) : okSp i j := by
  obtain ⟨h1, h2, h3, h4, h5, h6, h7⟩ : okRun r.w r.h r.x r.y r.a r.b := ok
  obtain ⟨k1, k2⟩ := h
  exact ⟨by omega, by omega⟩
theorem below_optW (n : Nat) (b : Option (Int × Int)) : below n (optW b) = true := by cases b <;> simp [optW, below, belows]
theorem t_first_at : Tells 2 b_first_at G_first_at := by
  intro ws S r hh
  unfold b_first_at
  unfold G_first_at at hh
  split at hh
  · split at hh
    · rename_i w h x y a b i j hk
      cases hh
      obtain ⟨k1, k2⟩ := hk
      have ok : RunD.Ok ⟨w, h, x, y, a, b⟩ := k1
      have sp := inBox_sp ok k2
      have TF := times_for_at ok sp S
      have LT := least_tfor ok sp S
      have N1 : G_need_run [.tup [.int w, .int h, .int x, .int y, .int a, .int b]] S = some (.non, S) := by simp only [G_need_run, k1, if_true]
      have N2 : G_need_spot [.tup [.int w, .int h, .int x, .int y, .int a, .int b], .tup [.int i, .int j]] S = some (.non, S) := by simp only [G_need_spot, k2, if_true]
      refine ⟨(optW (RunD.fat ⟨w, h, x, y, a, b⟩ i j), S ++ [.lst ((RunD.tfor ⟨w, h, x, y, a, b⟩ i j).map fr)]), fnB_ret ?_, .val _ _ (below_optW _ _)⟩
      simp only [RunD.W, runW] at TF
      clear ok k1 k2 sp
      simp only [fnB, en, List.map_cons, List.map_nil, List.length_cons, List.length_nil, List.replicate_succ, List.replicate_zero, List.cons_append, List.nil_append, List.append_nil, List.getElem?_cons_zero, List.getElem?_cons_succ, List.set_cons_zero, List.set_cons_succ,  Nat.zero_add, Nat.reduceAdd, Nat.reduceSub, Nat.sub_self, Nat.reduceEqDiff,  eVar, eC, eOp, eUn, aNil, aCons, eTup, eLst, eCall, eIf, eAnd, eOr, eNot, tVal, tAndW, tOrW, tNotW, eChain, sNext, sBrk, sCnt, sNever, sSeq, sRet, sRetN, sDrop, sIf, sAsg, sPar, sPar3, gN, gsNil, gsCons, gTupW, Option.bind_some, Option.bind_none,  s0, s1, s2, s3, s4, s6, subW, ltW, leW, gtW, geW, iop0, iop, modW, fdivW, powW, addW, mulW, negW, isi_int_int, isi_int_bool, isi_bl_int, isi_bl_bool, isi_non_int, isi_str_int, isi_tup_int, isi_tup_tup, eq_int, ne_int, len_p, len_6, len_l1, decide_true, decide_false, Int.reduceEq, Int.reduceNeg, absW, minW, ix_p0, ix_p1, ix_r0, ix_r1, ix_r2, ix_r3, ix_r4, ix_r5, if_true, if_false, ite_true, ite_false, Bool.not_true, Bool.not_false, Bool.false_eq_true, reduceIte, ↓reduceIte, ne_eq, not_false_eq_true, and_self, and_false, false_and, true_and, and_true, *]
    · cases hh
  · cases hh
theorem l_first_at : ∀ ws S r, G_first_at ws S = some r → ws.length = 2 := by
  intro ws S r h
  unfold G_first_at at h
  split at h <;> first | rfl | cases h
theorem first_at_at {r : RunD} (ok : r.Ok) {i j : Int} (h : inBox r.w r.h i j) (S : Sto) : G_first_at [r.W, .tup [.int i, .int j]] S = some (optW (r.fat i j), S) := by
  have ok' : okRun r.w r.h r.x r.y r.a r.b := ok
  simp only [G_first_at, RunD.W, ok', h, and_self, if_true]
/-! ### plus -/
/-- plus(one, two); slots 0:one 1:two -/
noncomputable def b_plus : Fs := sRet (eCall G_lowest (aCons (eOp addW (eOp mulW (eOp ixW (eVar 0) (eC (.int 0))) (eOp ixW (eVar 1) (eC (.int 1)))) (eOp mulW (eOp ixW (eVar 1) (eC (.int 0))) (eOp ixW (eVar 0) (eC (.int 1))))) (aCons (eOp mulW (eOp ixW (eVar 0) (eC (.int 1))) (eOp ixW (eVar 1) (eC (.int 1)))) (aNil))))
def pls (p q : Int × Int) : Int × Int := low (p.1 * q.2 + q.1 * p.2) (p.2 * q.2)
def G_plus : Fn
  | [.tup [.int a, .int b], .tup [.int c, .int d]], S => if b ≠ 0 ∧ d ≠ 0 ∧ b.natAbs < 2 ^ 64 ∧ d.natAbs < 2 ^ 64 then some (fr (pls (a, b) (c, d)), S) else none
  | _, _ => none
theorem t_plus : Tells 2 b_plus G_plus := by
  intro ws S r hh
  refine ⟨r, ?_, .same _⟩
  unfold b_plus
  unfold G_plus at hh
  split at hh
  · split at hh
    · rename_i a b c d hk
      cases hh
      obtain ⟨k1, k2, k3, k4⟩ := hk
      have m1 : okMul a d := .inr (.inl k4)
      have m2 : okMul c b := .inr (.inl k3)
      have m3 : okMul b d := .inl k3
      have z : ¬ b * d = 0 := fun e => by rcases Int.mul_eq_zero.mp e with e | e <;> contradiction
      have bg : (b * d).natAbs < big := by
        rw [Int.natAbs_mul]
        refine Nat.lt_of_lt_of_le (Nat.mul_lt_mul'' k3 k4) ?_
        unfold big
        rw [← Nat.pow_add]
        exact Nat.pow_le_pow_right (by decide) (by decide)
      clear k1 k2 k3 k4
      simp only [fnB, en, List.map_cons, List.map_nil, List.length_cons, List.length_nil, List.replicate_succ, List.replicate_zero, List.cons_append, List.nil_append, List.append_nil, List.getElem?_cons_zero, List.getElem?_cons_succ, List.set_cons_zero, List.set_cons_succ,  Nat.zero_add, Nat.reduceAdd, Nat.reduceSub, Nat.sub_self, Nat.reduceEqDiff,  eVar, eC, eOp, eUn, aNil, aCons, eTup, eLst, eCall, eIf, eAnd, eOr, eNot, tVal, tAndW, tOrW, tNotW, eChain, sNext, sBrk, sCnt, sNever, sSeq, sRet, sRetN, sDrop, sIf, sAsg, sPar, sPar3, gN, gsNil, gsCons, gTupW, Option.bind_some, Option.bind_none,  s0, s1, s2, s3, s4, s6, subW, ltW, leW, gtW, geW, iop0, iop, modW, fdivW, powW, addW, mulW, negW, isi_int_int, isi_int_bool, isi_bl_int, isi_bl_bool, isi_non_int, isi_str_int, isi_tup_int, isi_tup_tup, eq_int, ne_int, len_p, len_6, len_l1, decide_true, decide_false, Int.reduceEq, Int.reduceNeg, absW, minW, ix_p0, ix_p1, ix_r0, ix_r1, ix_r2, ix_r3, ix_r4, ix_r5, if_true, if_false, ite_true, ite_false, Bool.not_true, Bool.not_false, Bool.false_eq_true, reduceIte, ↓reduceIte, G_lowest, ne_eq, not_false_eq_true, and_self, and_false, false_and, true_and, and_true, *]
      rfl
    · cases hh
  · cases hh
theorem l_plus : ∀ ws S r, G_plus ws S = some r → ws.length = 2 := by
  intro ws S r h
  unfold G_plus at h
  split at h <;> first | rfl | cases h
theorem plus_at {p q : Int × Int} (h1 : 0 < p.2) (h2 : 0 < q.2) (h3 : p.2 ≤ 1000000) (h4 : q.2 ≤ 1000000) (S : Sto) : G_plus [fr p, fr q] S = some (fr (pls p q), S) := by
  have k1 : ¬ p.2 = 0 := by omega
  have k2 : ¬ q.2 = 0 := by omega
  have k3 : p.2.natAbs < 2 ^ 64 := by omega
  have k4 : q.2.natAbs < 2 ^ 64 := by omega
  simp only [G_plus, ne_eq, k1, k2, k3, k4, not_false_eq_true, and_self, if_true]
/-! ### turns -/
theorem lt_low {m n U p q : Int} (hU : 0 < U) (hq : 0 < q) (h : p * U = q * n) : less (low m U) (p, q) ↔ m < n := by
  have := le_low (m := m) hU hq h
  have h2 := le_low (m := n) hU hq h
  obtain ⟨s1, s2, s3⟩ := low_spec (n := m) hU
  unfold less
  simp only
  have a : (low m U).1 * q * U < p * (low m U).2 * U ↔ m < n := by
    rw [show (low m U).1 * q * U = m * (low m U).2 * q by rw [s2]; grind, show p * (low m U).2 * U = n * (low m U).2 * q by rw [show p * (low m U).2 * U = (p * U) * (low m U).2 by grind, h]; grind]
    constructor
    · intro z
      exact Int.lt_of_mul_lt_mul_right (Int.lt_of_mul_lt_mul_right z (Int.le_of_lt hq)) (Int.le_of_lt s1)
    · intro z
      exact Int.mul_lt_mul_of_pos_right (Int.mul_lt_mul_of_pos_right z s1) hq
  rw [← a]
  exact ⟨fun z => Int.mul_lt_mul_of_pos_right z hU, fun z => Int.lt_of_mul_lt_mul_right z (Int.le_of_lt hU)⟩
/-- the rest by which a coordinate comes to a goal -/
def trR (st sp sd k : Int) : Int := (if 0 < sp then k - st else st - k) % (2 * sd)
/-- how often its own period lies in P / Q -/
def trK (sp sd P Q : Int) : Nat := (P * (sp.natAbs : Nat) / (2 * sd * Q)).toNat
def trn1 (sp sd v : Int) (k : Nat) : List (Int × Int) := (List.range k).map fun m : Nat => low (v + 2 * sd * (m : Int)) (sp.natAbs : Nat)
def trn (st sp sd gl P Q : Int) : List (Int × Int) := (pm gl).flatMap fun k => trn1 sp sd (trR st sp sd k) (trK sp sd P Q)
def okTn (sp sd P Q : Int) : Prop := sp ≠ 0 ∧ sp.natAbs ≤ 6 ∧ 0 < sd ∧ sd ≤ 12 ∧ 0 < Q ∧ Q ≤ 1000000 ∧ P * (sp.natAbs : Nat) = 2 * sd * Q * (trK sp sd P Q : Nat) ∧ trK sp sd P Q ≤ 10000
instance (sp sd P Q : Int) : Decidable (okTn sp sd P Q) := inferInstanceAs (Decidable (_ ∧ _))
/-- turns(start, speed, side, goal, whole); slots 0:start 1:speed 2:side 3:goal 4:whole 5:ahead 6:found 7:step 8:rest 9:time -/
noncomputable def b_turns : Fs := sSeq (sPar 6 7 (aCons (eLst (aNil)) (aCons (eCall G_lowest (aCons (eOp mulW (eC (.int 2)) (eVar 2)) (aCons (eCall absW (aCons (eVar 1) (aNil))) (aNil)))) (aNil)))) (sSeq (sFor (iSeq (eSorI (eLst (aCons (eVar 3) (aCons (eUn negW (eVar 3)) (aNil)))))) (gN 5) (sSeq (sAsg (eOp modW (eIf (tVal (eOp gtW (eVar 1) (eC (.int 0)))) (eOp subW (eVar 5) (eVar 0)) (eOp subW (eVar 0) (eVar 5))) (eOp mulW (eC (.int 2)) (eVar 2))) (gN 8)) (sSeq (sAsg (eCall G_lowest (aCons (eVar 8) (aCons (eCall absW (aCons (eVar 1) (aNil))) (aNil)))) (gN 9)) (sWhile (tVal (eCall G_is_less (aCons (eVar 9) (aCons (eVar 4) (aNil))))) (sSeq (sDrop (eMethL appendW (eVar 6) (aCons (eVar 9) (aNil)))) (sAsg (eCall G_plus (aCons (eVar 9) (aCons (eVar 7) (aNil)))) (gN 9))))))) (sRet (eVar 6)))
def G_turns : Fn
  | [.int st, .int sp, .int sd, .int gl, .tup [.int P, .int Q]], S => if okTn sp sd P Q then some (.ref S.length, S ++ [.lst ((trn st sp sd gl P Q).map fr)]) else none
  | _, _ => none
def twC : Ft := (tVal (eCall G_is_less (aCons (eVar 9) (aCons (eVar 4) (aNil)))))
def twB : Fs := (sSeq (sDrop (eMethL appendW (eVar 6) (aCons (eVar 9) (aNil)))) (sAsg (eCall G_plus (aCons (eVar 9) (aCons (eVar 7) (aNil)))) (gN 9)))
def trE (st sp sd gl P Q : Int) (n : Nat) (e5 e8 e9 : Option W) : En := [some (.int st), some (.int sp), some (.int sd), some (.int gl), some (fr (P, Q)), e5, some (.ref n), some (fr (low (2 * sd) (sp.natAbs : Nat))), e8, e9]
theorem lowD_le {n d : Int} (hd : 0 < d) : (low n d).2 ≤ d := by
  rw [low_pos hd]
  exact Int.ediv_le_self _ (by omega)
theorem tw_loop (st sp sd gl P Q : Int) (ok : okTn sp sd P Q) (S Z : Sto) (e5 e8 : Option W) : ∀ (j : Nat) (v : Int) (L : List (Int × Int)), 2 * sd * (trK sp sd P Q : Nat) ≤ v + 2 * sd * (j : Int) → v + 2 * sd * (j : Int) < 2 * sd * (trK sp sd P Q : Nat) + 2 * sd → L.length + j < 100000 → ∃ e9, whileF twC twB (j + 1) (trE st sp sd gl P Q S.length e5 e8 (some (fr (low v (sp.natAbs : Nat))))) (S ++ .lst (L.map fr) :: Z) = some (.next (trE st sp sd gl P Q S.length e5 e8 e9), S ++ .lst ((L ++ trn1 sp sd v j).map fr) :: Z) := by
  obtain ⟨h1, h2, h3, h4, h5, h6, h7, h8⟩ := ok
  have A0 : (0 : Int) < (sp.natAbs : Nat) := by omega
  have hlt : ∀ v : Int, less (low v (sp.natAbs : Nat)) (P, Q) ↔ v < 2 * sd * (trK sp sd P Q : Nat) := fun v => lt_low A0 h5 (by rw [h7]; grind)
  have den : ∀ v : Int, 0 < (low v (sp.natAbs : Nat)).2 ∧ (low v (sp.natAbs : Nat)).2 ≤ 6 := fun v => ⟨(low_spec A0).1, Int.le_trans (lowD_le A0) (by omega)⟩
  have LS : ∀ (v : Int) S, G_is_less [fr (low v (sp.natAbs : Nat)), fr (P, Q)] S = some (.bl (decide (less (low v (sp.natAbs : Nat)) (P, Q))), S) := fun v => g_less (by have := den v; omega) (by simp only; omega)
  intro j
  induction j with
  | zero =>
    intro v L a1 a2 a3
    refine ⟨some (fr (low v (sp.natAbs : Nat))), ?_⟩
    rw [whileF_succ]
    have c : twC (trE st sp sd gl P Q S.length e5 e8 (some (fr (low v (sp.natAbs : Nat))))) (S ++ .lst (L.map fr) :: Z) = some (false, S ++ .lst (L.map fr) :: Z) := by
      have q : ¬ less (low v (sp.natAbs : Nat)) (P, Q) := by rw [hlt]; simp only [Int.natCast_zero, Int.mul_zero] at a1; omega
      have LS' := LS v (S ++ .lst (L.map fr) :: Z)
      rw [decide_eq_false q] at LS'
      unfold twC trE
      generalize S ++ .lst (L.map fr) :: Z = S' at *
      clear LS hlt a1 a2 q h7
      simp only [fnB, en, List.map_cons, List.map_nil, List.length_cons, List.length_nil, List.replicate_succ, List.replicate_zero, List.cons_append, List.nil_append, List.append_nil, List.getElem?_cons_zero, List.getElem?_cons_succ, List.set_cons_zero, List.set_cons_succ,  Nat.zero_add, Nat.reduceAdd, Nat.reduceSub, Nat.sub_self, Nat.reduceEqDiff,  eVar, eC, eOp, eUn, aNil, aCons, eTup, eLst, eCall, eIf, eAnd, eOr, eNot, tVal, tAndW, tOrW, tNotW, eChain, sNext, sBrk, sCnt, sNever, sSeq, sRet, sRetN, sDrop, sIf, sAsg, sPar, sPar3, gN, gsNil, gsCons, gTupW, Option.bind_some, Option.bind_none,  s0, s1, s2, s3, s4, s6, subW, ltW, leW, gtW, geW, iop0, iop, modW, fdivW, powW, addW, mulW, negW, isi_int_int, isi_int_bool, isi_bl_int, isi_bl_bool, isi_non_int, isi_str_int, isi_tup_int, isi_tup_tup, eq_int, ne_int, len_p, len_6, len_l1, decide_true, decide_false, Int.reduceEq, Int.reduceNeg, absW, minW, ix_p0, ix_p1, ix_r0, ix_r1, ix_r2, ix_r3, ix_r4, ix_r5, if_true, if_false, ite_true, ite_false, Bool.not_true, Bool.not_false, Bool.false_eq_true, reduceIte, ↓reduceIte, eMethL, lstOf, get_mid, set_mid, appendW, ne_eq, not_false_eq_true, and_self, and_false, false_and, true_and, and_true, *]
    rw [c]
    simp only [Option.bind_some, Bool.false_eq_true, if_false]
    have : trn1 sp sd v 0 = [] := rfl
    rw [this, List.append_nil]
  | succ j ih =>
    intro v L a1 a2 a3
    have ev : v + 2 * sd * ((j + 1 : Nat) : Int) = v + 2 * sd + 2 * sd * (j : Int) := by rw [Int.natCast_add, Int.mul_add]; simp; omega
    rw [ev] at a1 a2
    obtain ⟨e9, hI⟩ := ih (v + 2 * sd) (L ++ [low v (sp.natAbs : Nat)]) a1 a2 (by simp only [List.length_append, List.length_cons, List.length_nil]; omega)
    refine ⟨e9, ?_⟩
    rw [whileF_succ]
    have lt : v < 2 * sd * (trK sp sd P Q : Nat) := by
      have : 0 ≤ 2 * sd * (j : Int) := Int.mul_nonneg (by omega) (by omega)
      omega
    have c : twC (trE st sp sd gl P Q S.length e5 e8 (some (fr (low v (sp.natAbs : Nat))))) (S ++ .lst (L.map fr) :: Z) = some (true, S ++ .lst (L.map fr) :: Z) := by
      have q : less (low v (sp.natAbs : Nat)) (P, Q) := (hlt v).mpr lt
      have LS' := LS v (S ++ .lst (L.map fr) :: Z)
      rw [decide_eq_true q] at LS'
      unfold twC trE
      generalize S ++ .lst (L.map fr) :: Z = S' at *
      clear LS hlt a1 a2 q h7 hI ih
      simp only [fnB, en, List.map_cons, List.map_nil, List.length_cons, List.length_nil, List.replicate_succ, List.replicate_zero, List.cons_append, List.nil_append, List.append_nil, List.getElem?_cons_zero, List.getElem?_cons_succ, List.set_cons_zero, List.set_cons_succ,  Nat.zero_add, Nat.reduceAdd, Nat.reduceSub, Nat.sub_self, Nat.reduceEqDiff,  eVar, eC, eOp, eUn, aNil, aCons, eTup, eLst, eCall, eIf, eAnd, eOr, eNot, tVal, tAndW, tOrW, tNotW, eChain, sNext, sBrk, sCnt, sNever, sSeq, sRet, sRetN, sDrop, sIf, sAsg, sPar, sPar3, gN, gsNil, gsCons, gTupW, Option.bind_some, Option.bind_none,  s0, s1, s2, s3, s4, s6, subW, ltW, leW, gtW, geW, iop0, iop, modW, fdivW, powW, addW, mulW, negW, isi_int_int, isi_int_bool, isi_bl_int, isi_bl_bool, isi_non_int, isi_str_int, isi_tup_int, isi_tup_tup, eq_int, ne_int, len_p, len_6, len_l1, decide_true, decide_false, Int.reduceEq, Int.reduceNeg, absW, minW, ix_p0, ix_p1, ix_r0, ix_r1, ix_r2, ix_r3, ix_r4, ix_r5, if_true, if_false, ite_true, ite_false, Bool.not_true, Bool.not_false, Bool.false_eq_true, reduceIte, ↓reduceIte, eMethL, lstOf, get_mid, set_mid, appendW, ne_eq, not_false_eq_true, and_self, and_false, false_and, true_and, and_true, *]
    rw [c]
    simp only [Option.bind_some, if_true]
    have bd : twB (trE st sp sd gl P Q S.length e5 e8 (some (fr (low v (sp.natAbs : Nat))))) (S ++ .lst (L.map fr) :: Z) = some (.next (trE st sp sd gl P Q S.length e5 e8 (some (fr (low (v + 2 * sd) (sp.natAbs : Nat))))), S ++ .lst ((L ++ [low v (sp.natAbs : Nat)]).map fr) :: Z) := by
      have pe : pls (low v (sp.natAbs : Nat)) (low (2 * sd) (sp.natAbs : Nat)) = low (v + 2 * sd) (sp.natAbs : Nat) := by
        obtain ⟨s1, s2, _⟩ := low_spec (n := 2 * sd) A0
        exact low_add A0 s1 (by rw [← s2]; grind)
      have PL : ∀ S, G_plus [fr (low v (sp.natAbs : Nat)), fr (low (2 * sd) (sp.natAbs : Nat))] S = some (fr (low (v + 2 * sd) (sp.natAbs : Nat)), S) := fun S => by
        rw [plus_at (den v).1 (den (2 * sd)).1 (by have := den v; omega) (by have := den (2 * sd); omega), pe]
      have lz : (L.map fr).length < sizeLine := by rw [List.length_map]; exact Nat.lt_trans (show L.length < 100000 by omega) (by decide)
      rw [List.map_append, List.map_cons, List.map_nil]
      generalize L.map fr = L' at *
      unfold twB trE
      clear LS hlt a1 a2 h7 hI ih pe c
      simp only [fnB, en, List.map_cons, List.map_nil, List.length_cons, List.length_nil, List.replicate_succ, List.replicate_zero, List.cons_append, List.nil_append, List.append_nil, List.getElem?_cons_zero, List.getElem?_cons_succ, List.set_cons_zero, List.set_cons_succ,  Nat.zero_add, Nat.reduceAdd, Nat.reduceSub, Nat.sub_self, Nat.reduceEqDiff,  eVar, eC, eOp, eUn, aNil, aCons, eTup, eLst, eCall, eIf, eAnd, eOr, eNot, tVal, tAndW, tOrW, tNotW, eChain, sNext, sBrk, sCnt, sNever, sSeq, sRet, sRetN, sDrop, sIf, sAsg, sPar, sPar3, gN, gsNil, gsCons, gTupW, Option.bind_some, Option.bind_none,  s0, s1, s2, s3, s4, s6, subW, ltW, leW, gtW, geW, iop0, iop, modW, fdivW, powW, addW, mulW, negW, isi_int_int, isi_int_bool, isi_bl_int, isi_bl_bool, isi_non_int, isi_str_int, isi_tup_int, isi_tup_tup, eq_int, ne_int, len_p, len_6, len_l1, decide_true, decide_false, Int.reduceEq, Int.reduceNeg, absW, minW, ix_p0, ix_p1, ix_r0, ix_r1, ix_r2, ix_r3, ix_r4, ix_r5, if_true, if_false, ite_true, ite_false, Bool.not_true, Bool.not_false, Bool.false_eq_true, reduceIte, ↓reduceIte, eMethL, lstOf, get_mid, set_mid, appendW, ne_eq, not_false_eq_true, and_self, and_false, false_and, true_and, and_true, *]
    rw [bd]
    simp only [Option.bind_some]
    rw [hI]
    have : L ++ [low v (sp.natAbs : Nat)] ++ trn1 sp sd (v + 2 * sd) j = L ++ trn1 sp sd v (j + 1) := by
      rw [List.append_assoc]
      congr 1
      unfold trn1
      rw [List.range_succ_eq_map, List.map_cons, List.map_map]
      simp only [List.singleton_append, Int.natCast_zero, Int.mul_zero, Int.add_zero]
      congr 1
      apply List.map_congr_left
      intro m _
      simp only [Function.comp]
      rw [show v + 2 * sd + 2 * sd * (m : Int) = v + 2 * sd * ((m + 1 : Nat) : Int) by rw [Int.natCast_add, Int.mul_add]; simp; omega]
    rw [this]
def trI : Fs := (sSeq (sAsg (eOp modW (eIf (tVal (eOp gtW (eVar 1) (eC (.int 0)))) (eOp subW (eVar 5) (eVar 0)) (eOp subW (eVar 0) (eVar 5))) (eOp mulW (eC (.int 2)) (eVar 2))) (gN 8)) (sSeq (sAsg (eCall G_lowest (aCons (eVar 8) (aCons (eCall absW (aCons (eVar 1) (aNil))) (aNil)))) (gN 9)) (sWhile twC twB)))
theorem abs_if (i : Int) : (if i < 0 then -i else i) = (i.natAbs : Nat) := by split <;> omega
theorem trn1_len (sp sd v : Int) (k : Nat) : (trn1 sp sd v k).length = k := by simp [trn1]
theorem trI_ok (st sp sd gl P Q : Int) (ok : okTn sp sd P Q) (S Z : Sto) (k : Int) (e8 e9 : Option W) (L : List (Int × Int)) (hl : L.length < 30000) : ∃ e8' e9', trI (trE st sp sd gl P Q S.length (some (.int k)) e8 e9) (S ++ .lst (L.map fr) :: Z) = some (.next (trE st sp sd gl P Q S.length (some (.int k)) e8' e9'), S ++ .lst ((L ++ trn1 sp sd (trR st sp sd k) (trK sp sd P Q)).map fr) :: Z) := by
  obtain ⟨h1, h2, h3, h4, h5, h6, h7, h8⟩ := id ok
  have r0 : 0 ≤ trR st sp sd k := Int.emod_nonneg _ (by omega)
  have r1 : trR st sp sd k < 2 * sd := Int.emod_lt_of_pos _ (by omega)
  obtain ⟨f9, hw⟩ := tw_loop st sp sd gl P Q ok S Z (some (.int k)) (some (.int (trR st sp sd k))) (trK sp sd P Q) (trR st sp sd k) L (by omega) (by omega) (by omega)
  have hw2 := sWhile_of hw (show trK sp sd P Q + 1 ≤ FU from Nat.le_trans (show trK sp sd P Q + 1 ≤ 2 ^ 20 by omega) (by unfold FU; exact Nat.pow_le_pow_right (by decide) (by decide)))
  refine ⟨some (.int (trR st sp sd k)), f9, ?_⟩
  unfold trI
  refine' seq_trans (e' := trE st sp sd gl P Q S.length (some (.int k)) (some (.int (trR st sp sd k))) e9) (S' := S ++ .lst (L.map fr) :: Z) _ _
  · have m1 : okMul 2 sd := .inl (by decide)
    have z : ¬ 2 * sd = 0 := by omega
    generalize S ++ .lst (L.map fr) :: Z = S' at *
    unfold trR trE
    have fm : ∀ i : Int, Int.fmod i (2 * sd) = i % (2 * sd) := fun i => Int.fmod_eq_emod_of_nonneg _ (by omega)
    by_cases q : 0 < sp
    · simp only [q, if_true]
      clear hw hw2 ok h7
      simp only [fnB, en, List.map_cons, List.map_nil, List.length_cons, List.length_nil, List.replicate_succ, List.replicate_zero, List.cons_append, List.nil_append, List.append_nil, List.getElem?_cons_zero, List.getElem?_cons_succ, List.set_cons_zero, List.set_cons_succ,  Nat.zero_add, Nat.reduceAdd, Nat.reduceSub, Nat.sub_self, Nat.reduceEqDiff,  eVar, eC, eOp, eUn, aNil, aCons, eTup, eLst, eCall, eIf, eAnd, eOr, eNot, tVal, tAndW, tOrW, tNotW, eChain, sNext, sBrk, sCnt, sNever, sSeq, sRet, sRetN, sDrop, sIf, sAsg, sPar, sPar3, gN, gsNil, gsCons, gTupW, Option.bind_some, Option.bind_none,  s0, s1, s2, s3, s4, s6, subW, ltW, leW, gtW, geW, iop0, iop, modW, fdivW, powW, addW, mulW, negW, isi_int_int, isi_int_bool, isi_bl_int, isi_bl_bool, isi_non_int, isi_str_int, isi_tup_int, isi_tup_tup, eq_int, ne_int, len_p, len_6, len_l1, decide_true, decide_false, Int.reduceEq, Int.reduceNeg, absW, minW, ix_p0, ix_p1, ix_r0, ix_r1, ix_r2, ix_r3, ix_r4, ix_r5, if_true, if_false, ite_true, ite_false, Bool.not_true, Bool.not_false, Bool.false_eq_true, reduceIte, ↓reduceIte, eMethL, lstOf, get_mid, set_mid, appendW, ne_eq, not_false_eq_true, and_self, and_false, false_and, true_and, and_true, *]
    · simp only [q, if_false]
      clear hw hw2 ok h7
      simp only [fnB, en, List.map_cons, List.map_nil, List.length_cons, List.length_nil, List.replicate_succ, List.replicate_zero, List.cons_append, List.nil_append, List.append_nil, List.getElem?_cons_zero, List.getElem?_cons_succ, List.set_cons_zero, List.set_cons_succ,  Nat.zero_add, Nat.reduceAdd, Nat.reduceSub, Nat.sub_self, Nat.reduceEqDiff,  eVar, eC, eOp, eUn, aNil, aCons, eTup, eLst, eCall, eIf, eAnd, eOr, eNot, tVal, tAndW, tOrW, tNotW, eChain, sNext, sBrk, sCnt, sNever, sSeq, sRet, sRetN, sDrop, sIf, sAsg, sPar, sPar3, gN, gsNil, gsCons, gTupW, Option.bind_some, Option.bind_none,  s0, s1, s2, s3, s4, s6, subW, ltW, leW, gtW, geW, iop0, iop, modW, fdivW, powW, addW, mulW, negW, isi_int_int, isi_int_bool, isi_bl_int, isi_bl_bool, isi_non_int, isi_str_int, isi_tup_int, isi_tup_tup, eq_int, ne_int, len_p, len_6, len_l1, decide_true, decide_false, Int.reduceEq, Int.reduceNeg, absW, minW, ix_p0, ix_p1, ix_r0, ix_r1, ix_r2, ix_r3, ix_r4, ix_r5, if_true, if_false, ite_true, ite_false, Bool.not_true, Bool.not_false, Bool.false_eq_true, reduceIte, ↓reduceIte, eMethL, lstOf, get_mid, set_mid, appendW, ne_eq, not_false_eq_true, and_self, and_false, false_and, true_and, and_true, *]
  refine' seq_trans (e' := trE st sp sd gl P Q S.length (some (.int k)) (some (.int (trR st sp sd k))) (some (fr (low (trR st sp sd k) (sp.natAbs : Nat))))) (S' := S ++ .lst (L.map fr) :: Z) _ hw2
  have LW : ∀ S, G_lowest [.int (trR st sp sd k), .int (sp.natAbs : Nat)] S = some (fr (low (trR st sp sd k) (sp.natAbs : Nat)), S) := fun S => by
    have a1 : ¬ ((sp.natAbs : Nat) : Int) = 0 := by omega
    have a2 : ((sp.natAbs : Nat) : Int).natAbs < big := big_lt (by omega)
    simp only [G_lowest, ne_eq, a1, not_false_eq_true, a2, and_self, if_true]
  generalize S ++ .lst (L.map fr) :: Z = S' at *
  unfold trE
  clear hw hw2 ok h7
  simp only [abs_if, sAsg, eCall, aCons, aNil, eVar, List.getElem?_cons_zero, List.getElem?_cons_succ, Option.bind_some, absW, LW, gN, List.set_cons_zero, List.set_cons_succ]
theorem tr_out (st sp sd gl P Q : Int) (ok : okTn sp sd P Q) (S Z : Sto) (chk : Sto → Prop) (hk : ∀ X, chk (S ++ .lst X :: Z)) : ∀ (ks : List Int) (L : List (Int × Int)) (e5 e8 e9 : Option W), L.length + 10000 * ks.length < 30000 → ∃ e5' e8' e9', forF (gN 5) trI chk (ks.map W.int) (trE st sp sd gl P Q S.length e5 e8 e9) (S ++ .lst (L.map fr) :: Z) = some (.next (trE st sp sd gl P Q S.length e5' e8' e9'), S ++ .lst ((L ++ ks.flatMap fun k => trn1 sp sd (trR st sp sd k) (trK sp sd P Q)).map fr) :: Z)
  | [], L, e5, e8, e9, _ => ⟨e5, e8, e9, by rw [List.map_nil, forF_nil, if_pos (hk _), List.flatMap_nil, List.append_nil]⟩
  | k :: ks, L, e5, e8, e9, hl => by
    simp only [List.length_cons] at hl
    obtain ⟨f8, f9, h1⟩ := trI_ok st sp sd gl P Q ok S Z k e8 e9 L (by omega)
    have := ok.2.2.2.2.2.2.2
    obtain ⟨g5, g8, g9, h2⟩ := tr_out st sp sd gl P Q ok S Z chk hk ks (L ++ trn1 sp sd (trR st sp sd k) (trK sp sd P Q)) (some (.int k)) f8 f9 (by rw [List.length_append, trn1_len]; omega)
    refine ⟨g5, g8, g9, ?_⟩
    rw [List.map_cons, forF_cons, if_pos (hk _)]
    have g : gN 5 (.int k) (trE st sp sd gl P Q S.length e5 e8 e9) (S ++ .lst (L.map fr) :: Z) = some (trE st sp sd gl P Q S.length (some (.int k)) e8 e9, S ++ .lst (L.map fr) :: Z) := rfl
    rw [g]
    simp only [Option.bind_some]
    rw [h1]
    simp only [Option.bind_some]
    rw [h2, List.flatMap_cons, List.append_assoc]
theorem t_turns : Tells 10 b_turns G_turns := by
  intro ws S r hh
  unfold G_turns at hh
  split at hh
  · split at hh
    · rename_i st sp sd gl P Q ok
      cases hh
      obtain ⟨h1, h2, h3, h4, h5, h6, h7, h8⟩ := id ok
      have it := sor_it (f := eVar 3) (g := eUn negW (eVar 3)) (e := trE st sp sd gl P Q S.length none none none) (S := S ++ [.lst []]) (i := gl) rfl rfl
      rw [List.append_assoc, List.cons_append, List.nil_append] at it
      have pl := pm_len gl
      obtain ⟨e5, e8, e9, hl⟩ := tr_out st sp sd gl P Q ok S [.lst [.int gl, .int (-gl)], .lst ((pm gl).map W.int)] (fun S' => S'[(S ++ [O.lst []]).length + 1]? = some (.lst ((pm gl).map W.int))) (fun X => by
        rw [List.length_append, List.getElem?_append_right (by omega), show S.length + [O.lst []].length + 1 - S.length = 2 by simp; omega]
        rfl) (pm gl) [] none none none (by simp only [List.length_nil]; omega)
      rw [List.nil_append] at hl
      refine ⟨(.ref S.length, S ++ .lst ((trn st sp sd gl P Q).map fr) :: [.lst [.int gl, .int (-gl)], .lst ((pm gl).map W.int)]), fnB_ret ?_, .lst _ _ _ (Nat.le_refl _) get_mid (belows_fr _ _)⟩
      have e : b_turns = sSeq (sPar 6 7 (aCons (eLst (aNil)) (aCons (eCall G_lowest (aCons (eOp mulW (eC (.int 2)) (eVar 2)) (aCons (eCall absW (aCons (eVar 1) (aNil))) (aNil)))) (aNil)))) (sSeq (sFor (iSeq (eSorI (eLst (aCons (eVar 3) (aCons (eUn negW (eVar 3)) (aNil)))))) (gN 5) trI) (sRet (eVar 6))) := rfl
      rw [e]
      refine' seq_trans (e' := trE st sp sd gl P Q S.length none none none) (S' := S ++ [.lst []]) _ _
      · have m1 : okMul 2 sd := .inl (by decide)
        have LW : ∀ S, G_lowest [.int (2 * sd), .int (sp.natAbs : Nat)] S = some (fr (low (2 * sd) (sp.natAbs : Nat)), S) := fun S => by
          have a1 : ¬ ((sp.natAbs : Nat) : Int) = 0 := by omega
          have a2 : ((sp.natAbs : Nat) : Int).natAbs < big := big_lt (by omega)
          simp only [G_lowest, ne_eq, a1, not_false_eq_true, a2, and_self, if_true]
        unfold trE
        clear it hl ok h7 e pl
        have s0 : (0 : Nat) ≤ sizeLine := Nat.zero_le _
        simp only [en, List.map_cons, List.map_nil, List.length_cons, List.length_nil, List.replicate_succ, List.replicate_zero, List.cons_append, List.nil_append, Nat.zero_add, Nat.reduceAdd, Nat.reduceSub, abs_if, sPar, eLst, eCall, eOp, eC, aCons, aNil, eVar, mulW, m1, s0, if_true, List.getElem?_cons_zero, List.getElem?_cons_succ, Option.bind_some, absW, LW, List.set_cons_zero, List.set_cons_succ]
      refine' seq_trans (e' := trE st sp sd gl P Q S.length e5 e8 e9) (S' := S ++ .lst ((trn st sp sd gl P Q).map fr) :: [.lst [.int gl, .int (-gl)], .lst ((pm gl).map W.int)]) _ rfl
      simp only [sFor, it, Option.bind_some]
      exact hl
    · cases hh
  · cases hh
theorem l_turns : ∀ ws S r, G_turns ws S = some r → ws.length = 5 := by
  intro ws S r h
  unfold G_turns at h
  split at h <;> first | rfl | cases h
end Bp

/-! Mt10: earliest, least and meeting, told in parts of time (no program). -/
namespace Bp
set_option autoImplicit false
open PySem
namespace Cg
/-- a part of time solves a congruence -/
def Sol (U : Int) (c : Cg) (t : Nat) : Prop := c.m * U ∣ c.s * (t : Int) - c.r * U
def Div (U : Int) (c : Cg) : Prop := c.s ≠ 0 → c.s ∣ U
theorem neg_sol {U : Int} {c : Cg} {t : Nat} : c.neg.Sol U t ↔ c.Sol U t := by
  unfold Sol neg
  simp only
  have e : -c.s * (t : Int) - -c.r * U = -(c.s * (t : Int) - c.r * U) := by grind
  rw [e, Int.dvd_neg]
end Cg
/-- the first part of time with P, as a fraction, or none -/
def IsFirst (P : Nat → Prop) (U : Int) (res : Option (Int × Int)) : Prop := (res = none ∧ ∀ t, ¬ P t) ∨ ∃ t : Nat, res = some (low (t : Int) U) ∧ P t ∧ ∀ t', P t' → t ≤ t'
theorem IsFirst.congr {P Q : Nat → Prop} {U : Int} {res : Option (Int × Int)} (h : IsFirst P U res) (e : ∀ t, P t ↔ Q t) : IsFirst Q U res := by
  rcases h with ⟨h1, h2⟩ | ⟨t, h1, h2, h3⟩
  · exact .inl ⟨h1, fun t q => h2 t ((e t).mpr q)⟩
  · exact .inr ⟨t, h1, (e t).mp h2, fun t' q => h3 t' ((e t').mpr q)⟩
theorem IsFirst.uniq {P : Nat → Prop} {U : Int} {r r' : Option (Int × Int)} (h : IsFirst P U r) (h' : IsFirst P U r') : r = r' := by
  rcases h with ⟨h1, h2⟩ | ⟨t, h1, h2, h3⟩ <;> rcases h' with ⟨k1, k2⟩ | ⟨s, k1, k2, k3⟩
  · rw [h1, k1]
  · exact absurd k2 (h2 s)
  · exact absurd h2 (k2 t)
  · have a := h3 s k2
    have b := k3 t h2
    have : s = t := by omega
    rw [h1, k1, this]
namespace Cg
theorem erl1_first {U : Int} {c d : Cg} (hU : 0 < U) (hc : 0 < c.m) (hd : 0 < d.m) (hs : 0 < c.s) (dv : c.s ∣ U) : IsFirst (fun t => c.Sol U t ∧ d.Sol U t) U (c.erl1 d) := by
  obtain ⟨q, hq⟩ := dv
  have qp : 0 < q := Int.pos_of_mul_pos_right (a := c.s) (by rw [← hq]; exact hU) hs
  have mp : 0 < d.m * c.s := Int.mul_pos hd hs
  -- the solutions of the first one: t = (r + m n) q
  have sol1 : ∀ t : Nat, c.Sol U t ↔ ∃ n : Int, (t : Int) = (c.r + c.m * n) * q := fun t => by
    unfold Sol
    constructor
    · rintro ⟨n, hn⟩
      refine ⟨n, ?_⟩
      apply Int.eq_of_mul_eq_mul_left (a := c.s) (by omega)
      have : c.s * (t : Int) = c.r * U + c.m * U * n := by omega
      rw [this, hq]; grind
    · rintro ⟨n, hn⟩
      refine ⟨n, ?_⟩
      rw [hn, hq]; grind
  have sol2 : ∀ (t : Nat) (n : Int), (t : Int) = (c.r + c.m * n) * q → (d.Sol U t ↔ d.m * c.s ∣ d.s * c.m * n - (d.r * c.s - d.s * c.r)) := fun t n ht => by
    unfold Sol
    have e1 : d.s * (t : Int) - d.r * U = q * (d.s * c.m * n - (d.r * c.s - d.s * c.r)) := by rw [ht, hq]; grind
    have e2 : d.m * U = q * (d.m * c.s) := by rw [hq]; grind
    rw [e1, e2]
    constructor
    · exact Int.dvd_of_mul_dvd_mul_left (by omega)
    · exact Int.mul_dvd_mul_left q
  -- n is not below the start exactly when t is not below 0
  have start : ∀ n : Int, -(c.r / c.m) ≤ n ↔ 0 ≤ c.r + c.m * n := fun n => by
    have l1 := Int.ediv_mul_le c.r (show c.m ≠ 0 by omega)
    have l2 := Int.lt_ediv_add_one_mul_self c.r hc
    constructor
    · intro h
      have := Int.mul_le_mul_of_nonneg_left h (Int.le_of_lt hc)
      have e : c.m * -(c.r / c.m) = -(c.r / c.m * c.m) := by grind
      omega
    · intro h
      by_cases z : -(c.r / c.m) ≤ n
      · exact z
      · have : n + 1 ≤ -(c.r / c.m) := by omega
        have := Int.mul_le_mul_of_nonneg_left this (Int.le_of_lt hc)
        have e : c.m * -(c.r / c.m) = -(c.r / c.m * c.m) := by grind
        have e2 : (c.r / c.m + 1) * c.m = c.r / c.m * c.m + c.m := by grind
        have e3 : c.m * (n + 1) = c.m * n + c.m := by grind
        omega
  unfold erl1
  cases hw : wsol (d.s * c.m) (d.r * c.s - d.s * c.r) (d.m * c.s) (-(c.r / c.m)) with
  | none =>
    refine .inl ⟨rfl, fun t ⟨h1, h2⟩ => ?_⟩
    obtain ⟨n, hn⟩ := (sol1 t).mp h1
    exact wsol_none mp hw n ((sol2 t n hn).mp h2)
  | some n =>
    obtain ⟨w1, w2, w3⟩ := wsol_some mp hw
    have n0 := (start n).mp w1
    have tn : 0 ≤ (c.r + c.m * n) * q := Int.mul_nonneg n0 (by omega)
    have te : ((((c.r + c.m * n) * q).toNat : Nat) : Int) = (c.r + c.m * n) * q := by omega
    refine .inr ⟨((c.r + c.m * n) * q).toNat, ?_, ⟨(sol1 _).mpr ⟨n, te⟩, (sol2 _ n te).mpr w2⟩, fun t' ⟨h1, h2⟩ => ?_⟩
    · show some (low (c.r + c.m * n) c.s) = _
      rw [te]
      congr 1
      refine low_eq hs hU ?_
      rw [hq]; grind
    · obtain ⟨n', hn'⟩ := (sol1 t').mp h1
      have p0 : 0 ≤ c.r + c.m * n' := by
        by_cases z : 0 ≤ c.r + c.m * n'
        · exact z
        · have := Int.mul_neg_of_neg_of_pos (show c.r + c.m * n' < 0 by omega) qp
          omega
      have := w3 n' ((start n').mpr p0) ((sol2 t' n' hn').mp h2)
      have m1 := Int.mul_le_mul_of_nonneg_left this (Int.le_of_lt hc)
      have m2 := Int.mul_le_mul_of_nonneg_right (show c.r + c.m * n ≤ c.r + c.m * n' by omega) (Int.le_of_lt qp)
      omega
theorem sol_zero {U : Int} {c : Cg} (hU : 0 < U) (hc : 0 < c.m) (h : c.s = 0) (t : Nat) : c.Sol U t ↔ c.r % c.m = 0 := by
  unfold Sol
  rw [h, show (0 : Int) * (t : Int) - c.r * U = -(c.r * U) by grind, Int.dvd_neg]
  constructor
  · intro z
    exact Int.emod_eq_zero_of_dvd (Int.dvd_of_mul_dvd_mul_right (by omega) z)
  · intro z
    exact Int.mul_dvd_mul_right U (Int.dvd_of_emod_eq_zero z)
theorem erlA_first {U : Int} {c d : Cg} (hU : 0 < U) (hc : 0 < c.m) (hd : 0 < d.m) (dv : c.Div U) (hz : c.s = 0 → d.s = 0) : IsFirst (fun t => c.Sol U t ∧ d.Sol U t) U (c.erlA d) := by
  unfold erlA
  by_cases q : d.s = 0 ∧ d.r % d.m ≠ 0
  · rw [if_pos q]
    exact .inl ⟨rfl, fun t h => q.2 ((sol_zero hU hd q.1 t).mp h.2)⟩
  · rw [if_neg q]
    by_cases c0 : c.s = 0
    · rw [if_pos c0]
      have d0 := hz c0
      have dr : d.r % d.m = 0 := Classical.byContradiction fun z => q ⟨d0, z⟩
      by_cases cr : c.r % c.m = 0
      · rw [if_pos cr]
        refine .inr ⟨0, ?_, ⟨(sol_zero hU hc c0 0).mpr cr, (sol_zero hU hd d0 0).mpr dr⟩, fun _ _ => by omega⟩
        rw [show ((0 : Nat) : Int) = 0 from rfl, low_zero hU]
      · rw [if_neg cr]
        exact .inl ⟨rfl, fun t h => cr ((sol_zero hU hc c0 t).mp h.1)⟩
    · rw [if_neg c0]
      by_cases cp : 0 < c.s
      · rw [if_pos cp]
        exact erl1_first hU hc hd cp (dv c0)
      · rw [if_neg cp]
        have := erl1_first (c := c.neg) (d := d) hU hc hd (show 0 < -c.s by omega) (Int.neg_dvd.mpr (dv c0))
        exact this.congr fun t => by rw [neg_sol]
theorem erl_first {U : Int} {c d : Cg} (hU : 0 < U) (hc : 0 < c.m) (hd : 0 < d.m) (dc : c.Div U) (dd : d.Div U) : IsFirst (fun t => c.Sol U t ∧ d.Sol U t) U (c.erl d) := by
  unfold erl
  by_cases q : c.s = 0
  · rw [if_pos q]
    by_cases q2 : d.s = 0
    · exact (erlA_first hU hd hc dd (fun _ => q)).congr fun t => and_comm
    · exact (erlA_first hU hd hc dd (fun z => absurd z q2)).congr fun t => and_comm
  · rw [if_neg q]
    exact erlA_first hU hc hd dc (fun z => absurd z q)
end Cg
/-- the least of some times told in parts -/
theorem lstP_ticks {U : Int} (hU : 0 < U) : ∀ (ms : List Nat) (b : Option Nat), ∃ r : Option Nat, lstP (ms.map fun m : Nat => low (m : Int) U) (b.map fun m : Nat => low (m : Int) U) = r.map (fun m : Nat => low (m : Int) U) ∧ (r = none → ms = [] ∧ b = none) ∧ ∀ m, r = some m → (m ∈ ms ∨ b = some m) ∧ (∀ m' ∈ ms, m ≤ m') ∧ ∀ m', b = some m' → m ≤ m'
  | [], b => ⟨b, rfl, fun h => ⟨rfl, h⟩, fun m h => ⟨.inr h, by simp, fun m' h' => by rw [h] at h'; cases h'; omega⟩⟩
  | k :: ms, none => by
    obtain ⟨r, h1, h2, h3⟩ := lstP_ticks hU ms (some k)
    refine ⟨r, h1, fun z => ?_, fun m hm => ?_⟩
    · have := (h2 z).2; cases this
    · obtain ⟨a, b, c⟩ := h3 m hm
      refine ⟨?_, ?_, by intro m' h'; cases h'⟩
      · rcases a with a | a
        · exact .inl (List.mem_cons_of_mem _ a)
        · cases a; exact .inl (List.mem_cons_self ..)
      · intro m' hm'
        rcases List.mem_cons.mp hm' with q | q
        · subst q; exact c _ rfl
        · exact b m' q
  | k :: ms, some j => by
    by_cases q : k < j
    · obtain ⟨r, h1, h2, h3⟩ := lstP_ticks hU ms (some k)
      refine ⟨r, ?_, fun z => ?_, fun m hm => ?_⟩
      · rw [← h1]
        show lstP (ms.map fun m : Nat => low (m : Int) U) (if less (low (k : Int) U) (low (j : Int) U) then some (low (k : Int) U) else some (low (j : Int) U)) = _
        rw [if_pos ((less_low hU).mpr (by omega))]
        rfl
      · have := (h2 z).2; cases this
      · obtain ⟨a, b, c⟩ := h3 m hm
        have mk := c _ rfl
        refine ⟨?_, ?_, ?_⟩
        · rcases a with a | a
          · exact .inl (List.mem_cons_of_mem _ a)
          · cases a; exact .inl (List.mem_cons_self ..)
        · intro m' hm'
          rcases List.mem_cons.mp hm' with q | q
          · subst q; exact mk
          · exact b m' q
        · intro m' h'; cases h'; omega
    · obtain ⟨r, h1, h2, h3⟩ := lstP_ticks hU ms (some j)
      refine ⟨r, ?_, fun z => ?_, fun m hm => ?_⟩
      · rw [← h1]
        show lstP (ms.map fun m : Nat => low (m : Int) U) (if less (low (k : Int) U) (low (j : Int) U) then some (low (k : Int) U) else some (low (j : Int) U)) = _
        rw [if_neg (fun z => q (by have := (less_low hU).mp z; omega))]
        rfl
      · have := (h2 z).2; cases this
      · obtain ⟨a, b, c⟩ := h3 m hm
        have mk := c _ rfl
        refine ⟨?_, ?_, c⟩
        · rcases a with a | a
          · exact .inl (List.mem_cons_of_mem _ a)
          · exact .inr a
        · intro m' hm'
          rcases List.mem_cons.mp hm' with q | q
          · subst q; omega
          · exact b m' q
theorem ticks_of {U : Int} : ∀ ts : List (Int × Int), (∀ t ∈ ts, ∃ m : Nat, t = low (m : Int) U) → ∃ ms : List Nat, ts = ms.map fun m : Nat => low (m : Int) U
  | [], _ => ⟨[], rfl⟩
  | t :: ts, h => by
    obtain ⟨m, hm⟩ := h t (List.mem_cons_self ..)
    obtain ⟨ms, hs⟩ := ticks_of ts fun t' h' => h t' (List.mem_cons_of_mem _ h')
    exact ⟨m :: ms, by rw [List.map_cons, ← hm, ← hs]⟩
theorem low_tick_inj {U : Int} (hU : 0 < U) {m n : Nat} (h : low (m : Int) U = low (n : Int) U) : m = n := by
  have := low_inj hU hU h
  have := Int.eq_of_mul_eq_mul_right (show U ≠ 0 by omega) this
  omega
/-- the least of a list that holds solutions, and one not behind each -/
theorem lstP_first {P : Nat → Prop} {U : Int} (hU : 0 < U) {ts : List (Int × Int)} (h1 : ∀ t ∈ ts, ∃ m : Nat, t = low (m : Int) U ∧ P m) (h2 : ∀ m, P m → ∃ m', m' ≤ m ∧ low (m' : Int) U ∈ ts) : IsFirst P U (lstP ts none) := by
  obtain ⟨ms, hs⟩ := ticks_of (U := U) ts fun t ht => let ⟨m, e, _⟩ := h1 t ht; ⟨m, e⟩
  obtain ⟨r, e1, e2, e3⟩ := lstP_ticks hU ms none
  have mem : ∀ m : Nat, low (m : Int) U ∈ ts ↔ m ∈ ms := fun m => by
    rw [hs]
    constructor
    · intro h
      obtain ⟨n, h1, h2⟩ := List.mem_map.mp h
      rw [← low_tick_inj hU h2]; exact h1
    · intro h; exact List.mem_map.mpr ⟨m, h, rfl⟩
  have e1' : lstP ts none = r.map fun m : Nat => low (m : Int) U := by rw [hs]; exact e1
  cases r with
  | none =>
    refine .inl ⟨e1', fun t ht => ?_⟩
    obtain ⟨m', _, h⟩ := h2 t ht
    have := (mem m').mp h
    rw [(e2 rfl).1] at this
    cases this
  | some m =>
    obtain ⟨a, b, _⟩ := e3 m rfl
    have am : m ∈ ms := by
      rcases a with a | a
      · exact a
      · cases a
    obtain ⟨m2, q1, q2⟩ := h1 _ ((mem m).mpr am)
    have := low_tick_inj hU q1
    subst this
    refine .inr ⟨m, e1', q2, fun t' ht' => ?_⟩
    obtain ⟨m', l, h⟩ := h2 t' ht'
    have := b m' ((mem m').mp h)
    omega
/-- of all pairs of congruences -/
theorem all_first {U : Int} (hU : 0 < U) {cs ds : List Cg} (hc : ∀ c ∈ cs, 0 < c.m ∧ c.Div U) (hd : ∀ d ∈ ds, 0 < d.m ∧ d.Div U) : IsFirst (fun t => (∃ c ∈ cs, c.Sol U t) ∧ ∃ d ∈ ds, d.Sol U t) U (lstP (Cg.all cs ds) none) := by
  apply lstP_first hU
  · intro t ht
    unfold Cg.all at ht
    obtain ⟨c, c1, c2⟩ := List.mem_flatMap.mp ht
    obtain ⟨d, d1, d2⟩ := List.mem_filterMap.mp c2
    rcases Cg.erl_first hU (hc c c1).1 (hd d d1).1 (hc c c1).2 (hd d d1).2 with ⟨h1, _⟩ | ⟨m, h1, h2, _⟩
    · rw [h1] at d2; cases d2
    · rw [h1] at d2; cases d2
      exact ⟨m, rfl, ⟨c, c1, h2.1⟩, ⟨d, d1, h2.2⟩⟩
  · rintro m ⟨⟨c, c1, c2⟩, ⟨d, d1, d2⟩⟩
    rcases Cg.erl_first hU (hc c c1).1 (hd d d1).1 (hc c c1).2 (hd d d1).2 with ⟨_, h2⟩ | ⟨m', h1, _, h3⟩
    · exact absurd ⟨c2, d2⟩ (h2 m)
    · refine ⟨m', h3 m ⟨c2, d2⟩, ?_⟩
      unfold Cg.all
      exact List.mem_flatMap.mpr ⟨c, c1, List.mem_filterMap.mpr ⟨d, d1, h1⟩⟩
/-- two folds agree -/
theorem fold_eq {z z' m : Int} (hm : 0 < m) : foldI z m = foldI z' m ↔ (2 * m ∣ z - z' ∨ 2 * m ∣ z + z') := by
  constructor
  · intro h
    obtain ⟨a1, a2⟩ := emod_bounds (z := z) hm
    obtain ⟨b1, b2⟩ := emod_bounds (z := z') hm
    have q1 := Int.emod_add_mul_ediv z (2 * m)
    have q2 := Int.emod_add_mul_ediv z' (2 * m)
    unfold foldI at h
    have : z % (2 * m) = z' % (2 * m) ∨ z % (2 * m) + z' % (2 * m) = 2 * m := by
      split at h <;> split at h <;> omega
    rcases this with e | e
    · exact .inl ⟨z / (2 * m) - z' / (2 * m), by rw [Int.mul_sub]; omega⟩
    · exact .inr ⟨z / (2 * m) + z' / (2 * m) + 1, by rw [Int.mul_add, Int.mul_add]; omega⟩
  · rintro (⟨k, hk⟩ | ⟨k, hk⟩)
    · rw [show z = z' + 2 * m * k by omega, foldI_add]
    · rw [show z = -z' + 2 * m * k by omega, foldI_add, foldI_neg hm]
/-- both balls at the same coordinate -/
theorem px_meet {w x u a c U : Int} (hw : 0 < w) (hU : 0 < U) (t : Nat) : px (x * U) (w * U) a t = px (u * U) (w * U) c t ↔ (Cg.Sol U ⟨a - c, u - x, 2 * w⟩ t ∨ Cg.Sol U ⟨a + c, -u - x, 2 * w⟩ t) := by
  unfold px Cg.Sol
  rw [fold_eq (Int.mul_pos hw hU)]
  simp only
  rw [show x * U + a * (t : Int) - (u * U + c * (t : Int)) = (a - c) * (t : Int) - (u - x) * U by grind, show x * U + a * (t : Int) + (u * U + c * (t : Int)) = (a + c) * (t : Int) - (-u - x) * U by grind, show 2 * (w * U) = 2 * w * U by grind]
/-- .. at the same place -/
def Meet (r s : RunD) (U : Int) (t : Nat) : Prop := (r.wk U).sp t = (s.wk U).sp t
structure MOk (r s : RunD) (U : Int) : Prop where
  pos : 0 < U
  d1 : r.a - s.a ≠ 0 → r.a - s.a ∣ U
  d2 : r.a + s.a ≠ 0 → r.a + s.a ∣ U
  d3 : r.b - s.b ≠ 0 → r.b - s.b ∣ U
  d4 : r.b + s.b ≠ 0 → r.b + s.b ∣ U
theorem mtg_first {r s : RunD} (hr : r.Ok) (hs : s.Ok) (hw : r.w = s.w) (hh : r.h = s.h) {U : Int} (u : MOk r s U) : IsFirst (Meet r s U) U (r.mtg s) := by
  have hr' : okRun r.w r.h r.x r.y r.a r.b := hr
  obtain ⟨h1, h2, _⟩ := hr'
  have := all_first u.pos (cs := r.mA s) (ds := r.mB s) (by
    intro c hc
    simp only [RunD.mA, List.mem_cons, List.mem_singleton, List.not_mem_nil, or_false] at hc
    rcases hc with rfl | rfl
    · exact ⟨by show 0 < 2 * r.w; omega, u.d1⟩
    · exact ⟨by show 0 < 2 * r.w; omega, u.d2⟩) (by
    intro c hc
    simp only [RunD.mB, List.mem_cons, List.mem_singleton, List.not_mem_nil, or_false] at hc
    rcases hc with rfl | rfl
    · exact ⟨by show 0 < 2 * r.h; omega, u.d3⟩
    · exact ⟨by show 0 < 2 * r.h; omega, u.d4⟩)
  refine this.congr fun t => ?_
  have ex : Meet r s U t ↔ (px (r.x * U) (r.w * U) r.a t = px (s.x * U) (r.w * U) s.a t ∧ px (r.y * U) (r.h * U) r.b t = px (s.y * U) (r.h * U) s.b t) := by
    unfold Meet WalkD.sp RunD.wk
    rw [Prod.mk.injEq]
    unfold WalkD.px WalkD.py wkD
    simp only
    rw [← hw, ← hh]
  rw [ex, px_meet (by omega) u.pos, px_meet (by omega) u.pos]
  simp only [RunD.mA, RunD.mB, List.mem_cons, List.not_mem_nil, or_false, exists_eq_or_imp, exists_eq_left]
theorem mtg_den {r s : RunD} (hr : r.Ok) (hs : s.Ok) (hw : r.w = s.w) (hh : r.h = s.h) {t : Int × Int} (h : r.mtg s = some t) : 0 < t.2 ∧ t.2 ≤ 100 := by
  have key : ∀ (ts : List (Int × Int)) (b : Option (Int × Int)), lstP ts b = some t → t ∈ ts ∨ b = some t := by
    intro ts
    induction ts with
    | nil => intro b h; exact .inr h
    | cons k ts ih =>
      intro b h
      cases b with
      | none =>
        rcases ih (some k) h with q | q
        · exact .inl (List.mem_cons_of_mem _ q)
        · cases q; exact .inl (List.mem_cons_self ..)
      | some b =>
        have h' : lstP ts (if less k b then some k else some b) = some t := h
        rcases ih _ h' with q | q
        · exact .inl (List.mem_cons_of_mem _ q)
        · split at q
          · cases q; exact .inl (List.mem_cons_self ..)
          · exact .inr q
  rcases key _ _ h with q | q
  · unfold Cg.all at q
    obtain ⟨c, c1, c2⟩ := List.mem_flatMap.mp q
    obtain ⟨d, d1, d2⟩ := List.mem_filterMap.mp c2
    exact Cg.erl_den (mA_ok hr hs hw c c1) (mB_ok hr hs hh d d1) d2
  · cases q
end Bp

/-! Mt11: the first meeting lies within a common period. -/
namespace Bp
set_option autoImplicit false
open PySem
theorem low_den_dvd {n d : Int} (hd : 0 < d) : (low n d).2 ∣ d := by
  rw [low_pos hd]
  exact ⟨(Int.gcd n d : Nat), (Int.ediv_mul_cancel (Int.gcd_dvd_right ..)).symm⟩
/-- the parts of a common period of two runs -/
structure ComT (r s : RunD) (U : Int) (K : Nat) : Prop where
  e : (lm r.per s.per).1 * U = (lm r.per s.per).2 * (K : Int)
  pos : 0 < K
  turn1 : ∀ t, (r.wk U).sp (t % K) = (r.wk U).sp t
  turn2 : ∀ t, (s.wk U).sp (t % K) = (s.wk U).sp t
theorem Round.mod_of {k : WalkD} {P K : Nat} (r : Round k P) (h : P ∣ K) (t : Nat) : k.sp (t % K) = k.sp t := by
  rw [r.mod (t % K), r.mod t, Nat.mod_mod_of_dvd _ h]
theorem comT {r s : RunD} {U : Int} {T1 T2 : Nat → Nat} {P1 P2 : Nat} (R : RunT r U T1 P1) (R' : RunT s U T2 P2) : ∃ K, ComT r s U K := by
  obtain ⟨l1, l2, ⟨k, k0, e1⟩, ⟨l, l0, e2⟩⟩ := lm_mul R.p1 R.p2 R'.p1 R'.p2
  have gp := gcd_pos (n := r.per.2) (d := s.per.2) (by have := R'.p2; omega)
  have dv : (lm r.per s.per).2 ∣ U := by
    have h1 : (lm r.per s.per).2 ∣ ((Int.gcd r.per.2 s.per.2 : Nat) : Int) := low_den_dvd (by omega)
    have h2 : ((Int.gcd r.per.2 s.per.2 : Nat) : Int) ∣ r.per.2 := Int.gcd_dvd_left ..
    have h3 : r.per.2 ∣ U := per_dvd (show okRun r.w r.h r.x r.y r.a r.b from R.ok) R.u.da R.u.db
    exact Int.dvd_trans h1 (Int.dvd_trans h2 h3)
  obtain ⟨c, hc⟩ := dv
  have U0 := R.u.pos
  have cp : 0 < c := Int.pos_of_mul_pos_right (a := (lm r.per s.per).2) (by rw [← hc]; exact U0) l2
  have Kp : 0 < (lm r.per s.per).1 * c := Int.mul_pos l1 cp
  have e : (lm r.per s.per).1 * U = (lm r.per s.per).2 * ((((lm r.per s.per).1 * c).toNat : Nat) : Int) := by
    rw [show ((((lm r.per s.per).1 * c).toNat : Nat) : Int) = (lm r.per s.per).1 * c by omega]
    conv => lhs; rw [hc]
    grind
  generalize hK : ((lm r.per s.per).1 * c).toNat = K at *
  have key : ∀ (p : Int × Int) (P : Nat) (k : Int), 0 < p.1 → 0 < p.2 → p.1 * U = p.2 * (P : Int) → (lm r.per s.per).1 * p.2 = k * p.1 * (lm r.per s.per).2 → P ∣ K := by
    intro p P k p1 p2 h1 h2
    have : (K : Int) = (P : Int) * k := by
      apply Int.eq_of_mul_eq_mul_left (a := (lm r.per s.per).2 * p.2) (Int.mul_ne_zero (by omega) (by omega))
      rw [show (lm r.per s.per).2 * p.2 * (K : Int) = ((lm r.per s.per).2 * (K : Int)) * p.2 by grind, ← e, show (lm r.per s.per).1 * U * p.2 = ((lm r.per s.per).1 * p.2) * U by grind, h2, show k * p.1 * (lm r.per s.per).2 * U = k * (lm r.per s.per).2 * (p.1 * U) by grind, h1]
      grind
    exact Int.natCast_dvd_natCast.mp ⟨k, this⟩
  exact ⟨K, e, by omega, fun t => R.rd.mod_of (key _ P1 k R.p1 R.p2 R.e e1) t, fun t => R'.rd.mod_of (key _ P2 l R'.p1 R'.p2 R'.e e2) t⟩
open Classical in
/-- the first one within a turn -/
theorem IsFirst.find {P : Nat → Prop} {U : Int} {res : Option (Int × Int)} (h : IsFirst P U res) {K : Nat} (hK : 0 < K) (hP : ∀ t, P t → P (t % K)) (p : Nat → Bool) (hp : ∀ t, p t = true ↔ P t) : res = ((List.range K).find? p).map fun t : Nat => low (t : Int) U := by
  rcases h with ⟨h1, h2⟩ | ⟨t, h1, h2, h3⟩
  · have : (List.range K).find? p = none := List.find?_eq_none.mpr fun t _ z => h2 t ((hp t).mp z)
    rw [h1, this]; rfl
  · have tK : t < K := by
      have := h3 _ (hP t h2)
      have := Nat.mod_lt t hK
      omega
    have : (List.range K).find? p = some t := by
      rw [List.find?_range_eq_some]
      refine ⟨(hp t).mpr h2, List.mem_range.mpr tK, fun j hj => ?_⟩
      cases q : p j with
      | false => rfl
      | true => have := h3 j ((hp j).mp q); omega
    rw [h1, this]; rfl
def meetB (r s : RunD) (U : Int) (t : Nat) : Bool := decide ((r.wk U).sp t = (s.wk U).sp t)
theorem mtg_find {r s : RunD} (hr : r.Ok) (hs : s.Ok) (hw : r.w = s.w) (hh : r.h = s.h) {U : Int} (u : MOk r s U) {K : Nat} (c : ComT r s U K) : r.mtg s = ((List.range K).find? (meetB r s U)).map fun t : Nat => low (t : Int) U := by
  refine (mtg_first hr hs hw hh u).find c.pos (fun t h => ?_) _ (fun t => by unfold meetB Meet; simp)
  unfold Meet at *
  rw [c.turn1, c.turn2]
  exact h
theorem mtg_comm {r s : RunD} (hr : r.Ok) (hs : s.Ok) (hw : r.w = s.w) (hh : r.h = s.h) {U : Int} (u : MOk r s U) : s.mtg r = r.mtg s := by
  have u' : MOk s r U := ⟨u.pos, fun z => by
      have := u.d1 (by omega)
      rw [show s.a - r.a = -(r.a - s.a) by omega]
      exact Int.neg_dvd.mpr this, fun z => by
      have := u.d2 (by omega)
      rw [show s.a + r.a = r.a + s.a by omega]
      exact this, fun z => by
      have := u.d3 (by omega)
      rw [show s.b - r.b = -(r.b - s.b) by omega]
      exact Int.neg_dvd.mpr this, fun z => by
      have := u.d4 (by omega)
      rw [show s.b + r.b = r.b + s.b by omega]
      exact this⟩
  exact ((mtg_first hs hr hw.symm hh.symm u').congr fun t => ⟨fun h => h.symm, fun h => h.symm⟩).uniq (mtg_first hr hs hw hh u)
theorem mtg_self {r : RunD} (hr : r.Ok) : r.mtg r = some (0, 1) := by
  obtain ⟨U1, U2, U3⟩ := unitR_pos (ns := [r.a - r.a, r.a + r.a, r.b - r.b, r.b + r.b]) (u := 1) (by decide)
  have u : MOk r r (unitR [r.a - r.a, r.a + r.a, r.b - r.b, r.b + r.b] 1) := ⟨U1, U3 _ (by simp), U3 _ (by simp), U3 _ (by simp), U3 _ (by simp)⟩
  rcases mtg_first hr hr rfl rfl u with ⟨_, h2⟩ | ⟨t, h1, _, h3⟩
  · exact absurd rfl (h2 0)
  · have := h3 0 rfl
    have : t = 0 := by omega
    subst this
    rw [h1, show ((0 : Nat) : Int) = 0 from rfl, low_zero U1]
/-- at the told time both stand at one place -/
theorem mtg_place {r s : RunD} (hr : r.Ok) (hs : s.Ok) (hw : r.w = s.w) (hh : r.h = s.h) {U : Int} (u : MOk r s U) {t : Int × Int} (h : r.mtg s = some t) : plc r.w r.x r.a t = plc s.w s.x s.a t ∧ plc r.h r.y r.b t = plc s.h s.y s.b t := by
  rcases mtg_first hr hs hw hh u with ⟨h1, _⟩ | ⟨m, h1, h2, _⟩
  · rw [h1] at h; cases h
  · rw [h1] at h; cases h
    have z1 := congrArg Prod.fst h2
    have z2 := congrArg Prod.snd h2
    rw [plc_tick u.pos, plc_tick u.pos, plc_tick u.pos, plc_tick u.pos]
    exact ⟨congrArg (fun z => low z U) z1, congrArg (fun z => low z U) z2⟩
end Bp

/-! Mt12: a run and its mirror image meet in the middle. -/
namespace Bp
set_option autoImplicit false
open PySem
theorem sol_ex {s r m U : Int} (hs : s ≠ 0) (dv : s ∣ U) (hm : 0 < m) : ∃ t : Nat, Cg.Sol U ⟨s, r, m⟩ t := by
  obtain ⟨q, hq⟩ := dv
  have key : ∃ n : Int, 0 ≤ q * (r + m * n) := by
    have ma : ((r.natAbs : Nat) : Int) ≤ m * ((r.natAbs : Nat) : Int) := by
      have := Int.mul_le_mul_of_nonneg_right (show (1 : Int) ≤ m by omega) (show 0 ≤ ((r.natAbs : Nat) : Int) by omega)
      omega
    by_cases h : 0 ≤ q
    · refine ⟨(r.natAbs : Nat), Int.mul_nonneg h ?_⟩
      omega
    · refine ⟨-(r.natAbs : Nat), Int.mul_nonneg_of_nonpos_of_nonpos (by omega) ?_⟩
      have : m * -((r.natAbs : Nat) : Int) = -(m * ((r.natAbs : Nat) : Int)) := by grind
      omega
  obtain ⟨n, hn⟩ := key
  refine ⟨(q * (r + m * n)).toNat, ?_⟩
  unfold Cg.Sol
  simp only
  rw [show (((q * (r + m * n)).toNat : Nat) : Int) = q * (r + m * n) by omega, hq]
  exact ⟨n, by grind⟩
/-- the mirror image of a run across the middle of the width -/
def RunD.mir (r : RunD) : RunD := ⟨r.w, r.h, r.w - r.x, r.y, -r.a, r.b⟩
def RunD.mir2 (r : RunD) : RunD := ⟨r.w, r.h, r.x, r.h - r.y, r.a, -r.b⟩
theorem RunD.mir_ok {r : RunD} (ok : r.Ok) : r.mir.Ok := by
  have ok' : okRun r.w r.h r.x r.y r.a r.b := ok
  obtain ⟨h1, h2, h3, h4, h5, h6, h7⟩ := ok'
  show okRun r.w r.h (r.w - r.x) r.y (-r.a) r.b
  exact ⟨h1, h2, by omega, h4, by omega, h6, fun z => h7 (by omega)⟩
theorem RunD.mir2_ok {r : RunD} (ok : r.Ok) : r.mir2.Ok := by
  have ok' : okRun r.w r.h r.x r.y r.a r.b := ok
  obtain ⟨h1, h2, h3, h4, h5, h6, h7⟩ := ok'
  show okRun r.w r.h r.x (r.h - r.y) r.a (-r.b)
  exact ⟨h1, h2, h3, by omega, h5, by omega, fun z => h7 (by omega)⟩
theorem px_mir {x m a : Int} (hm : 0 < m) (t : Nat) : px (m - x) m (-a) t = m - px x m a t := by
  unfold px
  have e : m - x + -a * (t : Int) = m - (x + a * (t : Int)) := by grind
  rw [e]
  generalize x + a * (t : Int) = z
  -- fold (m - z) = m - fold z
  obtain ⟨b1, b2⟩ := emod_bounds (z := z) hm
  have q := Int.emod_add_mul_ediv z (2 * m)
  have e2 : foldI (m - z) m = foldI (m - z % (2 * m)) m := by
    rw [show m - z = m - z % (2 * m) + 2 * m * (-(z / (2 * m))) by rw [Int.mul_neg]; omega, foldI_add]
  have e3 : foldI z m = foldI (z % (2 * m)) m := by
    conv => lhs; rw [← q, foldI_add]
  rw [e2, e3]
  generalize z % (2 * m) = y at *
  by_cases h : y ≤ m
  · rw [foldI_self (by omega) (by omega) hm, foldI_self (by omega) h hm]
  · rw [← foldI_neg hm, show -(m - y) = y - m by omega, foldI_self (by omega) (by omega) hm]
    have : foldI y m = 2 * m - y := by
      rw [← foldI_neg hm, show -y = 2 * m - y + 2 * m * (-1) by omega, foldI_add, foldI_self (by omega) (by omega) hm]
    omega
theorem meet_mir {r : RunD} (ok : r.Ok) {U : Int} (hU : 0 < U) (t : Nat) : Meet r r.mir U t ↔ 2 * (r.wk U).px t = r.w * U := by
  have ok' : okRun r.w r.h r.x r.y r.a r.b := ok
  obtain ⟨h1, h2, h3, h4, h5, h6, h7⟩ := ok'
  have M1 : 0 < r.w * U := Int.mul_pos (by omega) hU
  unfold Meet WalkD.sp
  have e1 : (r.mir.wk U).px t = r.w * U - (r.wk U).px t := by
    show px ((r.w - r.x) * U) (r.w * U) (-r.a) t = r.w * U - px (r.x * U) (r.w * U) r.a t
    rw [show (r.w - r.x) * U = r.w * U - r.x * U by grind]
    exact px_mir M1 t
  have e2 : (r.mir.wk U).py t = (r.wk U).py t := rfl
  rw [e1, e2, Prod.mk.injEq]
  constructor
  · intro ⟨h, _⟩; omega
  · intro h; exact ⟨by omega, rfl⟩
theorem mir_some {r : RunD} (ok : r.Ok) (ha : r.a ≠ 0) {U : Int} (hU : 0 < U) (dv : 2 * r.a ∣ U) : ∃ t, Meet r r.mir U t := by
  have ok' : okRun r.w r.h r.x r.y r.a r.b := ok
  obtain ⟨h1, h2, h3, h4, h5, h6, h7⟩ := ok'
  obtain ⟨t, ht⟩ := sol_ex (s := r.a - -r.a) (r := r.w - r.x - r.x) (m := 2 * r.w) (U := U) (by omega) (by rw [show r.a - -r.a = 2 * r.a by omega]; exact dv) (by omega)
  refine ⟨t, ?_⟩
  have := (px_meet (w := r.w) (x := r.x) (u := r.w - r.x) (a := r.a) (c := -r.a) (by omega) hU t).mpr (.inl ht)
  unfold Meet WalkD.sp
  have e2 : (r.mir.wk U).py t = (r.wk U).py t := rfl
  rw [e2, Prod.mk.injEq]
  exact ⟨this, rfl⟩
theorem mir2_some {r : RunD} (ok : r.Ok) (hb : r.b ≠ 0) {U : Int} (hU : 0 < U) (dv : 2 * r.b ∣ U) : ∃ t, Meet r r.mir2 U t := by
  have ok' : okRun r.w r.h r.x r.y r.a r.b := ok
  obtain ⟨h1, h2, h3, h4, h5, h6, h7⟩ := ok'
  obtain ⟨t, ht⟩ := sol_ex (s := r.b - -r.b) (r := r.h - r.y - r.y) (m := 2 * r.h) (U := U) (by omega) (by rw [show r.b - -r.b = 2 * r.b by omega]; exact dv) (by omega)
  refine ⟨t, ?_⟩
  have := (px_meet (w := r.h) (x := r.y) (u := r.h - r.y) (a := r.b) (c := -r.b) (by omega) hU t).mpr (.inl ht)
  unfold Meet WalkD.sp
  have e2 : (r.mir2.wk U).px t = (r.wk U).px t := rfl
  rw [e2, Prod.mk.injEq]
  exact ⟨rfl, this⟩
/-- a first meeting of two runs of one period lies within it -/
theorem mtg_small {r s : RunD} {U : Int} {T1 T2 : Nat → Nat} {P1 P2 : Nat} (R : RunT r U T1 P1) (R' : RunT s U T2 P2) (hw : r.w = s.w) (hh : r.h = s.h) (hp : s.per = r.per) (u : MOk r s U) {t : Int × Int} (h : r.mtg s = some t) : 0 ≤ t.1 ∧ t.1 ≤ 57600 := by
  have pp : P2 = P1 := by
    have e1 := R.e
    have e2 := R'.e
    rw [hp] at e2
    have := Int.eq_of_mul_eq_mul_left (show r.per.2 ≠ 0 by have := R.p2; omega) (e1.symm.trans e2)
    omega
  subst pp
  have den := mtg_den R.ok R'.ok hw hh h
  have pl : r.per.1 ≤ 576 ∧ r.per.2 ≤ 6 := per_le (show okRun r.w r.h r.x r.y r.a r.b from R.ok)
  have U0 := u.pos
  rcases mtg_first R.ok R'.ok hw hh u with ⟨h1, _⟩ | ⟨m, h1, h2, h3⟩
  · rw [h1] at h; cases h
  · rw [h1] at h
    have h : low (m : Int) U = t := Option.some.inj h
    have mP : m < P2 := by
      have := h3 (m % P2) (by
        unfold Meet at *
        rw [← R.rd.mod, ← R'.rd.mod]; exact h2)
      have := Nat.mod_lt m R.rd.pos
      omega
    obtain ⟨s1, s2, _⟩ := low_spec (n := (m : Int)) U0
    rw [h] at s1 s2
    -- P ≤ 576 U
    have PU : (P2 : Int) ≤ 576 * U := by
      have e := R.e
      have a1 : 1 * (P2 : Int) ≤ r.per.2 * (P2 : Int) := Int.mul_le_mul_of_nonneg_right (by have := R.p2; omega) (by omega)
      have a2 : r.per.1 * U ≤ 576 * U := Int.mul_le_mul_of_nonneg_right pl.1 (by omega)
      omega
    have a3 : (m : Int) * t.2 ≤ 576 * U * t.2 := Int.mul_le_mul_of_nonneg_right (by omega) (by omega)
    have a4 : 576 * U * t.2 ≤ 57600 * U := by
      have := Int.mul_le_mul_of_nonneg_left den.2 (show 0 ≤ 576 * U by omega)
      omega
    refine ⟨?_, ?_⟩
    · by_cases z : 0 ≤ t.1
      · exact z
      · have := Int.mul_neg_of_neg_of_pos (show t.1 < 0 by omega) U0
        have := Int.mul_nonneg (show 0 ≤ (m : Int) by omega) (Int.le_of_lt s1)
        omega
    · apply Int.le_of_mul_le_mul_right (a := U) _ U0
      rw [← s2]; omega
end Bp

/-! Lw5: words used by several laws. -/
namespace Bp
set_option autoImplicit false
open PySem L2
theorem RunD.mkOk {w h x y a b : Int} (k : okRun w h x y a b) : RunD.Ok ⟨w, h, x, y, a, b⟩ := k
theorem mtg_at {r s : RunD} (hr : r.Ok) (hs : s.Ok) (hw : r.w = s.w) (hh : r.h = s.h) (S : Sto) : G_meeting [r.W, s.W] S = some (optW (r.mtg s), S) := by
  obtain ⟨w, h, x, y, a, b⟩ := r
  obtain ⟨w', h', x', y', a', b'⟩ := s
  exact if_pos ⟨hr, hs, hw, hh⟩
theorem place_ok {r : RunD} (hr : r.Ok) {t : Int × Int} (ht : okTime t.1 t.2) (S : Sto) : G_place [r.W, fr t] S = some (.tup [fr (plc r.w r.x r.a t), fr (plc r.h r.y r.b t)], S) := by
  obtain ⟨w, h, x, y, a, b⟩ := r
  exact if_pos ⟨hr, ht⟩
theorem optW_eqv (o : Option (Int × Int)) (S : Sto) : eqvW S (optW o) (optW o) = some true := by
  cases o with
  | none => rfl
  | some p => simp [optW, eqvW, toD, mapO, PyData.eqv, PyData.eqvAll]
theorem optW_ne (o : Option (Int × Int)) (S : Sto) : neW (optW o) (optW o) S = some (.bl false, S) := by simp only [neW, optW_eqv, Option.bind_some, Bool.not_true]
theorem optW_eq (o : Option (Int × Int)) (S : Sto) : eqW (optW o) (optW o) S = some (.bl true, S) := by simp only [eqW, optW_eqv, Option.bind_some]
def ppK : DatK ((Int × Int) × (Int × Int)) where
  w := fun p => .tup [fr p.1, fr p.2]
  d := fun p => .tuple [.tuple [.int p.1.1, .int p.1.2], .tuple [.int p.2.1, .int p.2.2]]
  ok := fun _ => True
  to := fun S p _ => by simp [fr, toD, mapO]
  eqv := fun p q => by
    obtain ⟨⟨a, b⟩, c, d⟩ := p; obtain ⟨⟨a', b'⟩, c', d'⟩ := q
    simp only [PyData.eqv, PyData.eqvAll, Bool.and_true]
    by_cases h1 : a = a' <;> by_cases h2 : b = b' <;> by_cases h3 : c = c' <;> by_cases h4 : d = d' <;> simp [h1, h2, h3, h4]
theorem pp_eq (p q p' q' : Int × Int) (S : Sto) : eqW (.tup [fr p, fr q]) (.tup [fr p', fr q']) S = some (.bl (decide ((p, q) = (p', q'))), S) := ppK.eq_one (a := (p, q)) (b := (p', q')) trivial trivial
theorem pp_ne (p q p' q' : Int × Int) (S : Sto) : neW (.tup [fr p, fr q]) (.tup [fr p', fr q']) S = some (.bl (!decide ((p, q) = (p', q'))), S) := ppK.ne_one (a := (p, q)) (b := (p', q')) trivial trivial
theorem ret_seq {s t : Fs} {e : En} {S S' : Sto} {v : W} (h : s e S = some (.ret v, S')) : sSeq s t e S = some (.ret v, S') := by simp only [sSeq, h, Option.bind_some]
theorem exs {s t : Fs} {e e' : En} {S S' : Sto} {v : W} (h : s e S = some (.next e', S')) (k : ∃ Y, t e' S' = some (.ret v, Y)) : ∃ Y, sSeq s t e S = some (.ret v, Y) := by rw [seq_next h]; exact k
def natD : DatK Nat where
  w := fun i => .int (i : Nat)
  d := fun i => .int (i : Nat)
  ok := fun _ => True
  to := fun S a _ => rfl
  eqv := fun a b => by
    simp only [PyData.eqv]
    by_cases h : a = b
    · subst h; simp
    · have : ¬ ((a : Nat) : Int) = ((b : Nat) : Int) := by omega
      simp [h, this]
theorem take_one_filter {α : Type} (p : α → Bool) (l : List α) : (l.filter p).take 1 = (l.find? p).toList := by
  rw [List.take_one, List.head?_filter]
theorem intsW_nat (n : Nat) : intsW 0 n = (List.range n).map natD.w := by
  unfold intsW
  apply List.map_congr_left
  intro i _
  show W.int (0 + (i : Int)) = W.int (i : Int)
  rw [Int.zero_add]
theorem ne_cons {α : Type} (x : α) (xs : List α) : ¬ (x :: xs) = [] := by simp
theorem sz8 : (8 : Nat) ≤ sizeLine := sz_le (by decide)
theorem fr01_ne (S : Sto) : neW (fr (0, 1)) (.tup [.int 0, .int 1]) S = some (.bl false, S) := by
  have := ne_fr (0, 1) (0, 1) S
  rw [decide_eq_true rfl] at this
  exact this
end Bp

/-! Pg11: ascending, times_at. -/
namespace Bp
set_option autoImplicit false
open PySem L2
/-- ascending(times); slots 0:times 1:found 2:time 3:at 4:one -/
noncomputable def b_ascending : Fs := sSeq (sAsg (eLst (aNil)) (gN 1)) (sSeq (sFor (iSeq (eSorT (eVar 0))) (gN 2) (sSeq (sAsg (eCall lenW (aCons (eLc (iSeq (eVar 1)) (gN 4) (tVal (eCall G_is_less (aCons (eVar 4) (aCons (eVar 2) (aNil))))) (eVar 4) [4]) (aNil))) (gN 3)) (sDrop (eMethL insertW (eVar 1) (aCons (eVar 3) (aCons (eVar 2) (aNil))))))) (sRet (eVar 1)))
open Classical in
/-- a fraction put behind those that are less -/
noncomputable def insA (found : List (Int × Int)) (t : Int × Int) : List (Int × Int) := found.take (found.filter fun s => decide (less s t)).length ++ [t] ++ found.drop (found.filter fun s => decide (less s t)).length
noncomputable def ascF : List (Int × Int) → List (Int × Int) → List (Int × Int)
  | [], f => f
  | t :: ts, f => ascF ts (insA f t)
noncomputable def asc (ts : List (Int × Int)) : List (Int × Int) := ascF (srtP ts) []
open Classical in
noncomputable def G_ascending : Fn
  | [.ref n], S => match S[n]? with
    | some (.lst ws) => (mapO pairOf ws).bind fun ts => if okTs ts ∧ ts.length < 64 ∧ ts.all nn = true then some (.ref S.length, S ++ [.lst ((asc ts).map fr)]) else none
    | _ => none
  | _, _ => none
noncomputable def asI : Fs := (sSeq (sAsg (eCall lenW (aCons (eLc (iSeq (eVar 1)) (gN 4) (tVal (eCall G_is_less (aCons (eVar 4) (aCons (eVar 2) (aNil))))) (eVar 4) [4]) (aNil))) (gN 3)) (sDrop (eMethL insertW (eVar 1) (aCons (eVar 3) (aCons (eVar 2) (aNil))))))
theorem insA_len (f : List (Int × Int)) (t : Int × Int) : (insA f t).length = f.length + 1 := by
  have := List.length_filter_le (fun s => decide (less s t)) f
  simp only [insA, List.length_append, List.length_take, List.length_drop, List.length_cons, List.length_nil]
  omega
theorem insA_mem (f : List (Int × Int)) (t s : Int × Int) : s ∈ insA f t ↔ s = t ∨ s ∈ f := by
  unfold insA
  constructor
  · intro h
    rcases List.mem_append.mp h with h | h
    · rcases List.mem_append.mp h with h | h
      · exact .inr (List.mem_of_mem_take h)
      · exact .inl (List.mem_singleton.mp h)
    · exact .inr (List.mem_of_mem_drop h)
  · rintro (rfl | h)
    · simp
    · have : s ∈ f.take (f.filter fun s => decide (less s t)).length ++ f.drop (f.filter fun s => decide (less s t)).length := by rw [List.take_append_drop]; exact h
      rcases List.mem_append.mp this with h | h
      · exact List.mem_append_left _ (List.mem_append_left _ h)
      · exact List.mem_append_right _ h
theorem asI_ok (S Z : Sto) (e0 e3 : Option W) (t : Int × Int) (ht : 0 < t.2 ∧ t.2.natAbs < 2 ^ 64) (f : List (Int × Int)) (hf : okTs f) (hl : f.length < 1000) : ∃ e3' Y, asI [e0, some (.ref S.length), some (fr t), e3, none] (S ++ .lst (f.map fr) :: Z) = some (.next [e0, some (.ref S.length), some (fr t), e3', none], S ++ .lst ((insA f t).map fr) :: (Z ++ Y)) := by
  have it := iSeq_ref (f := eVar 1) (e := [e0, some (.ref S.length), some (fr t), e3, none]) (S := S ++ .lst (f.map fr) :: Z) (S' := S ++ .lst (f.map fr) :: Z) (n := S.length) rfl get_mid
  have lc := elc_pure (g := gN 4) (t := tVal (eCall G_is_less (aCons (eVar 4) (aCons (eVar 2) (aNil))))) (f := eVar 4) (vs := [4]) (fun s : Int × Int => fr s) (fun s => [e0, some (.ref S.length), some (fr t), e3, some (fr s)]) (fun s => decide (less s t)) (fun s => fr s) f it (fun L => chk_app get_mid _) (fun _ _ _ => rfl) (fun s hs S => by
    have LS : G_is_less [fr s, fr t] S = some (.bl (decide (less s t)), S) := g_less (hf s hs).2 ht.2 S
    simp only [tVal, eCall, aCons, aNil, eVar, List.getElem?_cons_zero, List.getElem?_cons_succ, Option.bind_some, LS]) (fun _ _ _ _ => rfl) (Nat.lt_trans hl (by decide))
  have ln : ∀ (ws : List W) (S : Sto), lenW [.ref S.length] (S ++ [.lst ws]) = some (.int ws.length, S ++ [.lst ws]) := fun ws S => by simp [lenW, seqOf, get_last]
  have lf := List.length_filter_le (fun s => decide (less s t)) f
  refine ⟨some (.int (((f.filter fun s => decide (less s t)).map fr).length : Nat)), [.lst ((f.filter fun s => decide (less s t)).map fr)], ?_⟩
  have e2 : S ++ .lst (f.map fr) :: Z ++ [.lst ((f.filter fun s => decide (less s t)).map fr)] = S ++ .lst (f.map fr) :: (Z ++ [.lst ((f.filter fun s => decide (less s t)).map fr)]) := by rw [List.append_assoc, List.cons_append]
  unfold asI
  refine' seq_trans (e' := [e0, some (.ref S.length), some (fr t), some (.int (((f.filter fun s => decide (less s t)).map fr).length : Nat)), none]) (S' := S ++ .lst (f.map fr) :: (Z ++ [.lst ((f.filter fun s => decide (less s t)).map fr)])) _ _
  · simp only [sAsg, eCall, aCons, aNil, lc, Option.bind_some]
    rw [ln]
    simp only [Option.bind_some, gN, List.set_cons_zero, List.set_cons_succ, e2]
  have q1 : (f.map fr).length < sizeLine := by rw [List.length_map]; exact Nat.lt_trans hl (by decide)
  have q2 : (0 : Int) ≤ (((f.filter fun s => decide (less s t)).map fr).length : Nat) := by omega
  have q3 : ((((f.filter fun s => decide (less s t)).map fr).length : Nat) : Int) < 2 ^ 63 := by rw [List.length_map]; omega
  have q4 : (insA f t).map fr = (f.map fr).take ((((f.filter fun s => decide (less s t)).map fr).length : Nat) : Int).toNat ++ [fr t] ++ (f.map fr).drop ((((f.filter fun s => decide (less s t)).map fr).length : Nat) : Int).toNat := by
    unfold insA
    rw [Int.toNat_natCast, List.length_map, List.map_append, List.map_append, List.map_take, List.map_drop]
    rfl
  rw [q4]
  generalize ((f.filter fun s => decide (less s t)).map fr).length = N at *
  generalize Z ++ [O.lst ((f.filter fun s => decide (less s t)).map fr)] = Z' at *
  generalize f.map fr = F at *
  clear it lc ln hf hl e2 q4 lf
  simp only [fnB, en, List.map_cons, List.map_nil, List.length_cons, List.length_nil, List.replicate_succ, List.replicate_zero, List.cons_append, List.nil_append, List.append_nil, List.getElem?_cons_zero, List.getElem?_cons_succ, List.set_cons_zero, List.set_cons_succ,  Nat.zero_add, Nat.reduceAdd, Nat.reduceSub, Nat.sub_self, Nat.reduceEqDiff,  eVar, eC, eOp, eUn, aNil, aCons, eTup, eLst, eCall, eIf, eAnd, eOr, eNot, tVal, tAndW, tOrW, tNotW, eChain, sNext, sBrk, sCnt, sNever, sSeq, sRet, sRetN, sDrop, sIf, sAsg, sPar, sPar3, gN, gsNil, gsCons, gTupW, Option.bind_some, Option.bind_none,  s0, s1, s2, s3, s4, s6, subW, ltW, leW, gtW, geW, iop0, iop, modW, fdivW, powW, addW, mulW, negW, isi_int_int, isi_int_bool, isi_bl_int, isi_bl_bool, isi_non_int, isi_str_int, isi_tup_int, isi_tup_tup, eq_int, ne_int, len_p, len_6, len_l1, decide_true, decide_false, Int.reduceEq, Int.reduceNeg, absW, minW, ix_p0, ix_p1, ix_r0, ix_r1, ix_r2, ix_r3, ix_r4, ix_r5, if_true, if_false, ite_true, ite_false, Bool.not_true, Bool.not_false, Bool.false_eq_true, reduceIte, ↓reduceIte, eMethL, lstOf, get_mid, set_mid, insertW, ne_eq, not_false_eq_true, and_self, and_false, false_and, true_and, and_true, *]
theorem as_loop (S : Sto) (e0 : Option W) (chk : Sto → Prop) : ∀ (ts : List (Int × Int)) (Z : Sto) (f : List (Int × Int)) (e2 e3 : Option W), (∀ X Y, chk (S ++ .lst X :: (Z ++ Y))) → okTs ts → okTs f → f.length + ts.length < 1000 → ∃ e2' e3' Y, forF (gN 2) asI chk (ts.map fr) [e0, some (.ref S.length), e2, e3, none] (S ++ .lst (f.map fr) :: Z) = some (.next [e0, some (.ref S.length), e2', e3', none], S ++ .lst ((ascF ts f).map fr) :: (Z ++ Y))
  | [], Z, f, e2, e3, hk, _, _, _ => ⟨e2, e3, [], by
      have := hk (f.map fr) []
      rw [List.append_nil] at this
      rw [List.map_nil, forF_nil, if_pos this, List.append_nil]
      rfl⟩
  | t :: ts, Z, f, e2, e3, hk, h1, h2, hl => by
    simp only [List.length_cons] at hl
    obtain ⟨g3, Y, p1⟩ := asI_ok S Z e0 e3 t (h1 t (List.mem_cons_self ..)) f h2 (by omega)
    obtain ⟨k2, k3, Y2, p2⟩ := as_loop S e0 chk ts (Z ++ Y) (insA f t) (some (fr t)) g3 (fun X Y' => by rw [List.append_assoc]; exact hk _ _) (fun s hs => h1 s (List.mem_cons_of_mem _ hs)) (fun s hs => by
      rcases (insA_mem f t s).mp hs with rfl | hs
      · exact h1 _ (List.mem_cons_self ..)
      · exact h2 s hs) (by rw [insA_len]; omega)
    refine ⟨k2, k3, Y ++ Y2, ?_⟩
    have hk0 := hk (f.map fr) []
    rw [List.append_nil] at hk0
    rw [List.map_cons, forF_cons, if_pos hk0]
    have g : gN 2 (fr t) [e0, some (.ref S.length), e2, e3, none] (S ++ .lst (f.map fr) :: Z) = some ([e0, some (.ref S.length), some (fr t), e3, none], S ++ .lst (f.map fr) :: Z) := rfl
    rw [g]
    simp only [Option.bind_some]
    rw [p1]
    simp only [Option.bind_some]
    rw [p2, List.append_assoc]
    rfl
theorem srtO_len {α : Type} {lt : α → α → Prop} [DecidableRel lt] : ∀ l : List α, (srtO lt l).length ≤ l.length
  | [] => Nat.le_refl _
  | x :: l => by
    have h1 : ∀ m : List α, (insO lt x m).length ≤ m.length + 1 := by
      intro m
      induction m with
      | nil => simp [insO]
      | cons y m ih =>
        unfold insO
        split
        · simp
        · split
          · simp only [List.length_cons]; omega
          · simp
    have := h1 (srtO lt l)
    have := srtO_len (lt := lt) l
    simp only [srtO, List.length_cons]
    omega
theorem t_ascending : Tells 5 b_ascending G_ascending := by
  intro ws S r hh
  unfold G_ascending at hh
  split at hh
  · rename_i n
    split at hh
    · rename_i ws hS
      obtain ⟨ts, h1, h2⟩ := bindS hh
      have := pairs_eq h1
      subst this
      clear hh
      split at h2
      · rename_i hk
        cases h2
        obtain ⟨k1, k2, k3⟩ := hk
        have hn : n < S.length := (List.getElem?_eq_some_iff.mp hS).1
        have hS2 : (S ++ [O.lst []])[n]? = some (.lst (ts.map fr)) := by rw [List.getElem?_append_left hn]; exact hS
        have pm : mapO pairO_ (ts.map fr) = some ts := pairsO_map ts
        have e2 : eSorT (eVar 0) [some (.ref n), some (.ref S.length), none, none, none] (S ++ [.lst []]) = some (.ref (S.length + 1), S ++ .lst [] :: [.lst ((srtP ts).map fr)]) := by
          simp only [eSorT, eVar, List.getElem?_cons_zero, Option.bind_some, lstOf, hS2, pm, k2, k3, and_self, if_true, List.length_append, List.length_cons, List.length_nil, List.append_assoc, List.cons_append, List.nil_append]
        have it := iSeq_ref e2 (xs := (srtP ts).map fr) (by rw [List.getElem?_append_right (by omega), show S.length + 1 - S.length = 1 by omega]; rfl)
        have os : okTs (srtP ts) := fun t ht => k1 t ((srtO_mem pairO).mp ht)
        have sl := srtO_len (lt := ltPr) ts
        obtain ⟨f2, f3, Y, hl⟩ := as_loop S (some (.ref n)) (fun S' => S'[S.length + 1]? = some (.lst ((srtP ts).map fr))) (srtP ts) [.lst ((srtP ts).map fr)] [] none none (fun X Y => by
          rw [List.getElem?_append_right (by omega), show S.length + 1 - S.length = 1 by omega]; rfl) os (by intro t h; cases h) (by simp only [List.length_nil]; unfold srtP; omega)
        refine ⟨(.ref S.length, S ++ .lst ((asc ts).map fr) :: ([.lst ((srtP ts).map fr)] ++ Y)), fnB_ret ?_, .lst _ _ _ (Nat.le_refl _) get_mid (belows_fr _ _)⟩
        have e : b_ascending = sSeq (sAsg (eLst (aNil)) (gN 1)) (sSeq (sFor (iSeq (eSorT (eVar 0))) (gN 2) asI) (sRet (eVar 1))) := rfl
        rw [e]
        refine' seq_trans (e' := [some (.ref n), some (.ref S.length), none, none, none]) (S' := S ++ [.lst []]) rfl _
        refine' seq_trans (e' := [some (.ref n), some (.ref S.length), f2, f3, none]) (S' := S ++ .lst ((asc ts).map fr) :: ([.lst ((srtP ts).map fr)] ++ Y)) _ rfl
        simp only [sFor, it, Option.bind_some]
        exact hl
      · cases h2
    · cases hh
  · cases hh
theorem l_ascending : ∀ ws S r, G_ascending ws S = some r → ws.length = 1 := by
  intro ws S r h
  unfold G_ascending at h
  split at h <;> first | rfl | cases h
/-! ### times_at -/
/-- times_at(run, spot); slots 0:run 1:spot 2:times 3:w 4:h 5:x 6:y 7:a 8:b 9:whole 10:goal 11:time -/
noncomputable def b_times_at : Fs := sSeq (sDrop (eCall G_need_run (aCons (eVar 0) (aNil)))) (sSeq (sDrop (eCall G_need_spot (aCons (eVar 0) (aCons (eVar 1) (aNil))))) (sSeq (sAsg (eVar 0) (gTupW 6 (gsCons (gN 3) (gsCons (gN 4) (gsCons (gN 5) (gsCons (gN 6) (gsCons (gN 7) (gsCons (gN 8) (gsNil))))))))) (sSeq (sAsg (eTup (aCons (eCall G_period_of (aCons (eVar 0) (aNil))) (aCons (eTup (aCons (eTup (aCons (eOp ixW (eVar 1) (eC (.int 0))) (aCons (eC (.int 1)) (aNil)))) (aCons (eTup (aCons (eOp ixW (eVar 1) (eC (.int 1))) (aCons (eC (.int 1)) (aNil)))) (aNil)))) (aNil)))) (gTupW 2 (gsCons (gN 9) (gsCons (gN 10) (gsNil))))) (sSeq (sAsg (eIf (tVal (eOp neW (eVar 7) (eC (.int 0)))) (eCall G_turns (aCons (eVar 5) (aCons (eVar 7) (aCons (eVar 3) (aCons (eOp ixW (eVar 1) (eC (.int 0))) (aCons (eVar 9) (aNil))))))) (eCall G_turns (aCons (eVar 6) (aCons (eVar 8) (aCons (eVar 4) (aCons (eOp ixW (eVar 1) (eC (.int 1))) (aCons (eVar 9) (aNil)))))))) (gN 2)) (sRet (eCall G_ascending (aCons (eLc (iSeq (eVar 2)) (gN 11) (tVal (eOp eqW (eCall G_place_at (aCons (eVar 0) (aCons (eVar 11) (aNil)))) (eVar 10))) (eVar 11) [11]) (aNil))))))))
/-- the times of one coordinate at which the ball is at the place -/
def RunD.tcan (r : RunD) (i j : Int) : List (Int × Int) :=
  (if r.a ≠ 0 then trn r.x r.a r.w i (Bp.per r.w r.h r.a r.b).1 (Bp.per r.w r.h r.a r.b).2 else trn r.y r.b r.h j (Bp.per r.w r.h r.a r.b).1 (Bp.per r.w r.h r.a r.b).2).filter fun t => decide (plc r.w r.x r.a t = (i, 1) ∧ plc r.h r.y r.b t = (j, 1))
noncomputable def RunD.tms (r : RunD) (i j : Int) : List (Int × Int) := asc (r.tcan i j)
def okTa (r : RunD) (i j : Int) : Prop := (if r.a ≠ 0 then okTn r.a r.w (Bp.per r.w r.h r.a r.b).1 (Bp.per r.w r.h r.a r.b).2 else okTn r.b r.h (Bp.per r.w r.h r.a r.b).1 (Bp.per r.w r.h r.a r.b).2) ∧ okTs (r.tcan i j) ∧ (r.tcan i j).length < 64 ∧ (r.tcan i j).all nn = true
open Classical in
noncomputable def G_times_at : Fn
  | [.tup [.int w, .int h, .int x, .int y, .int a, .int b], .tup [.int i, .int j]], S => if okRun w h x y a b ∧ inBox w h i j ∧ okTa ⟨w, h, x, y, a, b⟩ i j then some (.ref S.length, S ++ [.lst ((RunD.tms ⟨w, h, x, y, a, b⟩ i j).map fr)]) else none
  | _, _ => none
theorem turns_at {st sp sd gl P Q : Int} (ok : okTn sp sd P Q) (S : Sto) : G_turns [.int st, .int sp, .int sd, .int gl, fr (P, Q)] S = some (.ref S.length, S ++ [.lst ((trn st sp sd gl P Q).map fr)]) := by
  simp only [G_turns, ok, if_true]
theorem ascending_at {S : Sto} {n : Nat} {ts : List (Int × Int)} (h : S[n]? = some (.lst (ts.map fr))) (h1 : okTs ts) (h2 : ts.length < 64) (h3 : ts.all nn = true) : G_ascending [.ref n] S = some (.ref S.length, S ++ [.lst ((asc ts).map fr)]) := by
  simp only [G_ascending, h, pairs_map, Option.bind_some, h1, h2, h3, and_self, if_true]
theorem trn_den {st sp sd gl P Q : Int} (ok : okTn sp sd P Q) : ∀ t ∈ trn st sp sd gl P Q, 0 < t.2 ∧ t.2 ≤ 6 := by
  obtain ⟨h1, h2, h3, h4, h5, h6, h7, h8⟩ := ok
  intro t ht
  obtain ⟨k, _, hk⟩ := List.mem_flatMap.mp ht
  obtain ⟨m, _, rfl⟩ := List.mem_map.mp hk
  have A0 : (0 : Int) < (sp.natAbs : Nat) := by omega
  exact ⟨(low_spec A0).1, Int.le_trans (lowD_le A0) (by omega)⟩
theorem trn_len {st sp sd gl P Q : Int} (ok : okTn sp sd P Q) : (trn st sp sd gl P Q).length ≤ 20000 := by
  have h8 := ok.2.2.2.2.2.2.2
  have key : ∀ ks : List Int, (ks.flatMap fun k => trn1 sp sd (trR st sp sd k) (trK sp sd P Q)).length = ks.length * trK sp sd P Q := by
    intro ks
    induction ks with
    | nil => simp
    | cons k ks ih => rw [List.flatMap_cons, List.length_append, ih, trn1_len, List.length_cons, Nat.add_mul]; omega
  unfold trn
  rw [key]
  exact Nat.le_trans (Nat.mul_le_mul (pm_len gl) h8) (by decide)
/-- the last line of times_at -/
noncomputable def taR : Fs := (sRet (eCall G_ascending (aCons (eLc (iSeq (eVar 2)) (gN 11) (tVal (eOp eqW (eCall G_place_at (aCons (eVar 0) (aCons (eVar 11) (aNil)))) (eVar 10))) (eVar 11) [11]) (aNil))))
theorem ta_end (r : RunD) (ok : r.Ok) (i j : Int) (S : Sto) (ts : List (Int × Int)) (hd : ∀ t ∈ ts, 0 < t.2 ∧ t.2 ≤ 6) (hl : ts.length ≤ 20000) (e1 e3 e4 e5 e6 e7 e8 e9 : Option W)
    (q1 : okTs (ts.filter fun t => decide (plc r.w r.x r.a t = (i, 1) ∧ plc r.h r.y r.b t = (j, 1)))) (q2 : (ts.filter fun t => decide (plc r.w r.x r.a t = (i, 1) ∧ plc r.h r.y r.b t = (j, 1))).length < 64) (q3 : (ts.filter fun t => decide (plc r.w r.x r.a t = (i, 1) ∧ plc r.h r.y r.b t = (j, 1))).all nn = true) :
    ∃ m Y, taR [some r.W, e1, some (.ref S.length), e3, e4, e5, e6, e7, e8, e9, some (.tup [fr (i, 1), fr (j, 1)]), none] (S ++ [.lst (ts.map fr)]) = some (.ret (.ref m), S ++ Y) ∧ S.length ≤ m ∧ (S ++ Y)[m]? = some (.lst ((asc (ts.filter fun t => decide (plc r.w r.x r.a t = (i, 1) ∧ plc r.h r.y r.b t = (j, 1)))).map fr)) := by
  have it := iSeq_ref (f := eVar 2) (e := [some r.W, e1, some (.ref S.length), e3, e4, e5, e6, e7, e8, e9, some (.tup [fr (i, 1), fr (j, 1)]), none]) (S := S ++ [.lst (ts.map fr)]) (S' := S ++ [.lst (ts.map fr)]) (n := S.length) rfl get_last
  have lc := elc_pure (g := gN 11) (t := tVal (eOp eqW (eCall G_place_at (aCons (eVar 0) (aCons (eVar 11) (aNil)))) (eVar 10))) (f := eVar 11) (vs := [11]) (fun s : Int × Int => fr s) (fun s => [some r.W, e1, some (.ref S.length), e3, e4, e5, e6, e7, e8, e9, some (.tup [fr (i, 1), fr (j, 1)]), some (fr s)]) (fun t => decide (plc r.w r.x r.a t = (i, 1) ∧ plc r.h r.y r.b t = (j, 1))) (fun s => fr s) ts it (fun L => chk_app get_last _) (fun _ _ _ => rfl) (fun s hs S => by
    have d := hd s hs
    have bx : okBox r.w r.h r.x r.y r.a r.b := okRun.box ok
    have b2 : s.2.natAbs < big := big_lt (by omega)
    have d1 := d.1
    have PA : G_place_at [r.W, fr s] S = some (.tup [fr (plc r.w r.x r.a s), fr (plc r.h r.y r.b s)], S) := by
      simp only [G_place_at, RunD.W, bx, d1, b2, and_self, if_true]
    simp only [tVal, eOp, eCall, aCons, aNil, eVar, List.getElem?_cons_zero, List.getElem?_cons_succ, Option.bind_some, PA, pp_eq, Prod.mk.injEq]) (fun _ _ _ _ => rfl) (Nat.lt_of_le_of_lt hl (by decide))
  have AT := ascending_at (S := S ++ [.lst (ts.map fr)] ++ [.lst ((ts.filter fun t => decide (plc r.w r.x r.a t = (i, 1) ∧ plc r.h r.y r.b t = (j, 1))).map fr)]) (n := (S ++ [O.lst (ts.map fr)]).length) get_last q1 q2 q3
  refine ⟨(S ++ [O.lst (ts.map fr)] ++ [O.lst ((ts.filter fun t => decide (plc r.w r.x r.a t = (i, 1) ∧ plc r.h r.y r.b t = (j, 1))).map fr)]).length, [.lst (ts.map fr)] ++ [.lst ((ts.filter fun t => decide (plc r.w r.x r.a t = (i, 1) ∧ plc r.h r.y r.b t = (j, 1))).map fr)] ++ [.lst ((asc (ts.filter fun t => decide (plc r.w r.x r.a t = (i, 1) ∧ plc r.h r.y r.b t = (j, 1)))).map fr)], ?_, ?_, ?_⟩
  · unfold taR
    simp only [sRet, eCall, aCons, aNil, lc, Option.bind_some]
    rw [AT]
    simp only [Option.bind_some, List.append_assoc]
  · simp only [List.length_append]; omega
  · rw [← List.append_assoc, ← List.append_assoc]
    exact get_last
theorem t_times_at : Tells 12 b_times_at G_times_at := by
  intro ws S r hh
  unfold G_times_at at hh
  split at hh
  · split at hh
    · rename_i w h x y a b i j hk
      cases hh
      obtain ⟨k1, k2, k3, q1, q2, q3⟩ := hk
      have ok : RunD.Ok ⟨w, h, x, y, a, b⟩ := k1
      have N1 : ∀ S, G_need_run [.tup [.int w, .int h, .int x, .int y, .int a, .int b]] S = some (.non, S) := fun S => by simp only [G_need_run, k1, if_true]
      have N2 : ∀ S, G_need_spot [.tup [.int w, .int h, .int x, .int y, .int a, .int b], .tup [.int i, .int j]] S = some (.non, S) := fun S => by simp only [G_need_spot, k2, if_true]
      have PE : ∀ S, G_period_of [.tup [.int w, .int h, .int x, .int y, .int a, .int b]] S = some (fr (per w h a b), S) := fun S => by simp only [G_period_of, k1, if_true]
      unfold RunD.tcan at q1 q2 q3
      simp only at k3 q1 q2 q3
      have main : ∃ ts : List (Int × Int), (∀ t ∈ ts, 0 < t.2 ∧ t.2 ≤ 6) ∧ ts.length ≤ 20000 ∧ (eIf (tVal (eOp neW (eVar 7) (eC (.int 0)))) (eCall G_turns (aCons (eVar 5) (aCons (eVar 7) (aCons (eVar 3) (aCons (eOp ixW (eVar 1) (eC (.int 0))) (aCons (eVar 9) (aNil))))))) (eCall G_turns (aCons (eVar 6) (aCons (eVar 8) (aCons (eVar 4) (aCons (eOp ixW (eVar 1) (eC (.int 1))) (aCons (eVar 9) (aNil)))))))) [some (.tup [.int w, .int h, .int x, .int y, .int a, .int b]), some (.tup [.int i, .int j]), none, some (.int w), some (.int h), some (.int x), some (.int y), some (.int a), some (.int b), some (fr (per w h a b)), some (.tup [fr (i, 1), fr (j, 1)]), none] S = some (.ref S.length, S ++ [.lst (ts.map fr)]) ∧ (RunD.tcan ⟨w, h, x, y, a, b⟩ i j) = ts.filter (fun t => decide (plc w x a t = (i, 1) ∧ plc h y b t = (j, 1))) := by
        by_cases ha : a = 0
        · rw [if_neg (by simp [ha])] at k3
          have TA := turns_at (st := y) (gl := j) k3 S
          refine ⟨trn y b h j (per w h a b).1 (per w h a b).2, trn_den k3, trn_len k3, ?_, by unfold RunD.tcan; simp only; rw [if_neg (by simp [ha])]⟩
          clear N1 N2 PE q1 q2 q3 ok k1 k2 k3
          simp only [fnB, en, List.map_cons, List.map_nil, List.length_cons, List.length_nil, List.replicate_succ, List.replicate_zero, List.cons_append, List.nil_append, List.append_nil, List.getElem?_cons_zero, List.getElem?_cons_succ, List.set_cons_zero, List.set_cons_succ,  Nat.zero_add, Nat.reduceAdd, Nat.reduceSub, Nat.sub_self, Nat.reduceEqDiff,  eVar, eC, eOp, eUn, aNil, aCons, eTup, eLst, eCall, eIf, eAnd, eOr, eNot, tVal, tAndW, tOrW, tNotW, eChain, sNext, sBrk, sCnt, sNever, sSeq, sRet, sRetN, sDrop, sIf, sAsg, sPar, sPar3, gN, gsNil, gsCons, gTupW, Option.bind_some, Option.bind_none,  s0, s1, s2, s3, s4, s6, subW, ltW, leW, gtW, geW, iop0, iop, modW, fdivW, powW, addW, mulW, negW, isi_int_int, isi_int_bool, isi_bl_int, isi_bl_bool, isi_non_int, isi_str_int, isi_tup_int, isi_tup_tup, eq_int, ne_int, len_p, len_6, len_l1, decide_true, decide_false, Int.reduceEq, Int.reduceNeg, absW, minW, ix_p0, ix_p1, ix_r0, ix_r1, ix_r2, ix_r3, ix_r4, ix_r5, if_true, if_false, ite_true, ite_false, Bool.not_true, Bool.not_false, Bool.false_eq_true, reduceIte, ↓reduceIte, ne_eq, not_false_eq_true, and_self, and_false, false_and, true_and, and_true, *]
          rw [ha] at TA
          exact TA
        · rw [if_pos ha] at k3
          have TA := turns_at (st := x) (gl := i) k3 S
          refine ⟨trn x a w i (per w h a b).1 (per w h a b).2, trn_den k3, trn_len k3, ?_, by unfold RunD.tcan; simp only; rw [if_pos ha]⟩
          clear N1 N2 PE q1 q2 q3 ok k1 k2 k3
          simp only [fnB, en, List.map_cons, List.map_nil, List.length_cons, List.length_nil, List.replicate_succ, List.replicate_zero, List.cons_append, List.nil_append, List.append_nil, List.getElem?_cons_zero, List.getElem?_cons_succ, List.set_cons_zero, List.set_cons_succ,  Nat.zero_add, Nat.reduceAdd, Nat.reduceSub, Nat.sub_self, Nat.reduceEqDiff,  eVar, eC, eOp, eUn, aNil, aCons, eTup, eLst, eCall, eIf, eAnd, eOr, eNot, tVal, tAndW, tOrW, tNotW, eChain, sNext, sBrk, sCnt, sNever, sSeq, sRet, sRetN, sDrop, sIf, sAsg, sPar, sPar3, gN, gsNil, gsCons, gTupW, Option.bind_some, Option.bind_none,  s0, s1, s2, s3, s4, s6, subW, ltW, leW, gtW, geW, iop0, iop, modW, fdivW, powW, addW, mulW, negW, isi_int_int, isi_int_bool, isi_bl_int, isi_bl_bool, isi_non_int, isi_str_int, isi_tup_int, isi_tup_tup, eq_int, ne_int, len_p, len_6, len_l1, decide_true, decide_false, Int.reduceEq, Int.reduceNeg, absW, minW, ix_p0, ix_p1, ix_r0, ix_r1, ix_r2, ix_r3, ix_r4, ix_r5, if_true, if_false, ite_true, ite_false, Bool.not_true, Bool.not_false, Bool.false_eq_true, reduceIte, ↓reduceIte, ne_eq, not_false_eq_true, and_self, and_false, false_and, true_and, and_true, *]
      obtain ⟨ts, m1, m2, m3, m4⟩ := main
      have m4' := m4
      unfold RunD.tcan at m4'
      simp only at m4'
      rw [m4'] at q1 q2 q3
      obtain ⟨m, Y, p1, p2, p3⟩ := ta_end ⟨w, h, x, y, a, b⟩ ok i j S ts m1 m2 (some (.tup [.int i, .int j])) (some (.int w)) (some (.int h)) (some (.int x)) (some (.int y)) (some (.int a)) (some (.int b)) (some (fr (per w h a b))) q1 q2 q3
      have er : RunD.tms ⟨w, h, x, y, a, b⟩ i j = asc (ts.filter fun t => decide (plc w x a t = (i, 1) ∧ plc h y b t = (j, 1))) := by unfold RunD.tms; rw [m4]
      rw [er]
      refine ⟨(.ref m, S ++ Y), fnB_ret ?_, .lst _ _ _ p2 p3 (belows_fr _ _)⟩
      have e : b_times_at = sSeq (sDrop (eCall G_need_run (aCons (eVar 0) (aNil)))) (sSeq (sDrop (eCall G_need_spot (aCons (eVar 0) (aCons (eVar 1) (aNil))))) (sSeq (sAsg (eVar 0) (gTupW 6 (gsCons (gN 3) (gsCons (gN 4) (gsCons (gN 5) (gsCons (gN 6) (gsCons (gN 7) (gsCons (gN 8) (gsNil))))))))) (sSeq (sAsg (eTup (aCons (eCall G_period_of (aCons (eVar 0) (aNil))) (aCons (eTup (aCons (eTup (aCons (eOp ixW (eVar 1) (eC (.int 0))) (aCons (eC (.int 1)) (aNil)))) (aCons (eTup (aCons (eOp ixW (eVar 1) (eC (.int 1))) (aCons (eC (.int 1)) (aNil)))) (aNil)))) (aNil)))) (gTupW 2 (gsCons (gN 9) (gsCons (gN 10) (gsNil))))) (sSeq (sAsg (eIf (tVal (eOp neW (eVar 7) (eC (.int 0)))) (eCall G_turns (aCons (eVar 5) (aCons (eVar 7) (aCons (eVar 3) (aCons (eOp ixW (eVar 1) (eC (.int 0))) (aCons (eVar 9) (aNil))))))) (eCall G_turns (aCons (eVar 6) (aCons (eVar 8) (aCons (eVar 4) (aCons (eOp ixW (eVar 1) (eC (.int 1))) (aCons (eVar 9) (aNil)))))))) (gN 2)) taR)))) := rfl
      rw [e]
      have cl : True := trivial
      refine' seq_trans (e' := en 12 [.tup [.int w, .int h, .int x, .int y, .int a, .int b], .tup [.int i, .int j]]) (S' := S) _ _
      · clear m4 m4' m3 p1 p3 q1 q2 q3 er ok k1 k2 k3 e N2 PE
        simp only [fnB, en, List.map_cons, List.map_nil, List.length_cons, List.length_nil, List.replicate_succ, List.replicate_zero, List.cons_append, List.nil_append, List.append_nil, List.getElem?_cons_zero, List.getElem?_cons_succ, List.set_cons_zero, List.set_cons_succ,  Nat.zero_add, Nat.reduceAdd, Nat.reduceSub, Nat.sub_self, Nat.reduceEqDiff,  eVar, eC, eOp, eUn, aNil, aCons, eTup, eLst, eCall, eIf, eAnd, eOr, eNot, tVal, tAndW, tOrW, tNotW, eChain, sNext, sBrk, sCnt, sNever, sSeq, sRet, sRetN, sDrop, sIf, sAsg, sPar, sPar3, gN, gsNil, gsCons, gTupW, Option.bind_some, Option.bind_none,  s0, s1, s2, s3, s4, s6, subW, ltW, leW, gtW, geW, iop0, iop, modW, fdivW, powW, addW, mulW, negW, isi_int_int, isi_int_bool, isi_bl_int, isi_bl_bool, isi_non_int, isi_str_int, isi_tup_int, isi_tup_tup, eq_int, ne_int, len_p, len_6, len_l1, decide_true, decide_false, Int.reduceEq, Int.reduceNeg, absW, minW, ix_p0, ix_p1, ix_r0, ix_r1, ix_r2, ix_r3, ix_r4, ix_r5, if_true, if_false, ite_true, ite_false, Bool.not_true, Bool.not_false, Bool.false_eq_true, reduceIte, ↓reduceIte, ne_eq, not_false_eq_true, and_self, and_false, false_and, true_and, and_true, *]
      refine' seq_trans (e' := en 12 [.tup [.int w, .int h, .int x, .int y, .int a, .int b], .tup [.int i, .int j]]) (S' := S) _ _
      · clear m4 m4' m3 p1 p3 q1 q2 q3 er ok k1 k2 k3 e N1 PE
        simp only [fnB, en, List.map_cons, List.map_nil, List.length_cons, List.length_nil, List.replicate_succ, List.replicate_zero, List.cons_append, List.nil_append, List.append_nil, List.getElem?_cons_zero, List.getElem?_cons_succ, List.set_cons_zero, List.set_cons_succ,  Nat.zero_add, Nat.reduceAdd, Nat.reduceSub, Nat.sub_self, Nat.reduceEqDiff,  eVar, eC, eOp, eUn, aNil, aCons, eTup, eLst, eCall, eIf, eAnd, eOr, eNot, tVal, tAndW, tOrW, tNotW, eChain, sNext, sBrk, sCnt, sNever, sSeq, sRet, sRetN, sDrop, sIf, sAsg, sPar, sPar3, gN, gsNil, gsCons, gTupW, Option.bind_some, Option.bind_none,  s0, s1, s2, s3, s4, s6, subW, ltW, leW, gtW, geW, iop0, iop, modW, fdivW, powW, addW, mulW, negW, isi_int_int, isi_int_bool, isi_bl_int, isi_bl_bool, isi_non_int, isi_str_int, isi_tup_int, isi_tup_tup, eq_int, ne_int, len_p, len_6, len_l1, decide_true, decide_false, Int.reduceEq, Int.reduceNeg, absW, minW, ix_p0, ix_p1, ix_r0, ix_r1, ix_r2, ix_r3, ix_r4, ix_r5, if_true, if_false, ite_true, ite_false, Bool.not_true, Bool.not_false, Bool.false_eq_true, reduceIte, ↓reduceIte, ne_eq, not_false_eq_true, and_self, and_false, false_and, true_and, and_true, *]
      refine' seq_trans (e' := [some (.tup [.int w, .int h, .int x, .int y, .int a, .int b]), some (.tup [.int i, .int j]), none, some (.int w), some (.int h), some (.int x), some (.int y), some (.int a), some (.int b), none, none, none]) (S' := S) _ _
      · clear m4 m4' m3 p1 p3 q1 q2 q3 er ok k1 k2 k3 e N1 N2 PE
        simp only [fnB, en, List.map_cons, List.map_nil, List.length_cons, List.length_nil, List.replicate_succ, List.replicate_zero, List.cons_append, List.nil_append, List.append_nil, List.getElem?_cons_zero, List.getElem?_cons_succ, List.set_cons_zero, List.set_cons_succ,  Nat.zero_add, Nat.reduceAdd, Nat.reduceSub, Nat.sub_self, Nat.reduceEqDiff,  eVar, eC, eOp, eUn, aNil, aCons, eTup, eLst, eCall, eIf, eAnd, eOr, eNot, tVal, tAndW, tOrW, tNotW, eChain, sNext, sBrk, sCnt, sNever, sSeq, sRet, sRetN, sDrop, sIf, sAsg, sPar, sPar3, gN, gsNil, gsCons, gTupW, Option.bind_some, Option.bind_none,  s0, s1, s2, s3, s4, s6, subW, ltW, leW, gtW, geW, iop0, iop, modW, fdivW, powW, addW, mulW, negW, isi_int_int, isi_int_bool, isi_bl_int, isi_bl_bool, isi_non_int, isi_str_int, isi_tup_int, isi_tup_tup, eq_int, ne_int, len_p, len_6, len_l1, decide_true, decide_false, Int.reduceEq, Int.reduceNeg, absW, minW, ix_p0, ix_p1, ix_r0, ix_r1, ix_r2, ix_r3, ix_r4, ix_r5, if_true, if_false, ite_true, ite_false, Bool.not_true, Bool.not_false, Bool.false_eq_true, reduceIte, ↓reduceIte, s6, G_need_spot, ne_eq, not_false_eq_true, and_self, and_false, false_and, true_and, and_true, *]
      refine' seq_trans (e' := [some (.tup [.int w, .int h, .int x, .int y, .int a, .int b]), some (.tup [.int i, .int j]), none, some (.int w), some (.int h), some (.int x), some (.int y), some (.int a), some (.int b), some (fr (per w h a b)), some (.tup [fr (i, 1), fr (j, 1)]), none]) (S' := S) _ _
      · clear m4 m4' m3 p1 p3 q1 q2 q3 er ok k1 k2 k3 e N1 N2
        simp only [fnB, en, List.map_cons, List.map_nil, List.length_cons, List.length_nil, List.replicate_succ, List.replicate_zero, List.cons_append, List.nil_append, List.append_nil, List.getElem?_cons_zero, List.getElem?_cons_succ, List.set_cons_zero, List.set_cons_succ,  Nat.zero_add, Nat.reduceAdd, Nat.reduceSub, Nat.sub_self, Nat.reduceEqDiff,  eVar, eC, eOp, eUn, aNil, aCons, eTup, eLst, eCall, eIf, eAnd, eOr, eNot, tVal, tAndW, tOrW, tNotW, eChain, sNext, sBrk, sCnt, sNever, sSeq, sRet, sRetN, sDrop, sIf, sAsg, sPar, sPar3, gN, gsNil, gsCons, gTupW, Option.bind_some, Option.bind_none,  s0, s1, s2, s3, s4, s6, subW, ltW, leW, gtW, geW, iop0, iop, modW, fdivW, powW, addW, mulW, negW, isi_int_int, isi_int_bool, isi_bl_int, isi_bl_bool, isi_non_int, isi_str_int, isi_tup_int, isi_tup_tup, eq_int, ne_int, len_p, len_6, len_l1, decide_true, decide_false, Int.reduceEq, Int.reduceNeg, absW, minW, ix_p0, ix_p1, ix_r0, ix_r1, ix_r2, ix_r3, ix_r4, ix_r5, if_true, if_false, ite_true, ite_false, Bool.not_true, Bool.not_false, Bool.false_eq_true, reduceIte, ↓reduceIte, s6, G_need_spot, ne_eq, not_false_eq_true, and_self, and_false, false_and, true_and, and_true, *]
      refine' seq_trans (e' := [some (.tup [.int w, .int h, .int x, .int y, .int a, .int b]), some (.tup [.int i, .int j]), some (.ref S.length), some (.int w), some (.int h), some (.int x), some (.int y), some (.int a), some (.int b), some (fr (per w h a b)), some (.tup [fr (i, 1), fr (j, 1)]), none]) (S' := S ++ [.lst (ts.map fr)]) _ p1
      simp only [sAsg, m3, Option.bind_some, gN, List.set_cons_succ, List.set_cons_zero]
    · cases hh
  · cases hh
theorem l_times_at : ∀ ws S r, G_times_at ws S = some r → ws.length = 2 := by
  intro ws S r h
  unfold G_times_at at h
  split at h <;> first | rfl | cases h
end Bp

/-! Mt14: first times and all times at a place, in parts of time. -/
namespace Bp
set_option autoImplicit false
open PySem L2
theorem px_spot {w x a i U : Int} (hw : 0 < w) (hU : 0 < U) (h0 : 0 ≤ i) (h1 : i ≤ w) (t : Nat) : px (x * U) (w * U) a t = i * U ↔ ∃ k ∈ pm i, Cg.Sol U ⟨a, k - x, 2 * w⟩ t := by
  have e : foldI (i * U) (w * U) = i * U := foldI_self (Int.mul_nonneg h0 (by omega)) (Int.mul_le_mul_of_nonneg_right h1 (by omega)) (Int.mul_pos hw hU)
  unfold px
  rw [show (foldI (x * U + a * (t : Int)) (w * U) = i * U) ↔ (foldI (x * U + a * (t : Int)) (w * U) = foldI (i * U) (w * U)) by rw [e], fold_eq (Int.mul_pos hw hU)]
  have a1 : x * U + a * (t : Int) - i * U = a * (t : Int) - (i - x) * U := by grind
  have a2 : x * U + a * (t : Int) + i * U = a * (t : Int) - (-i - x) * U := by grind
  have a3 : 2 * (w * U) = 2 * w * U := by grind
  rw [a1, a2, a3]
  unfold Cg.Sol
  simp only
  constructor
  · rintro (h | h)
    · exact ⟨i, pm_mem.mpr (.inl rfl), h⟩
    · exact ⟨-i, pm_mem.mpr (.inr rfl), h⟩
  · rintro ⟨k, hk, h⟩
    rcases pm_mem.mp hk with rfl | rfl
    · exact .inl h
    · exact .inr h
def At2 (r : RunD) (U i j : Int) (t : Nat) : Prop := (r.wk U).sp t = (i * U, j * U)
theorem at2_iff {r : RunD} {U i j : Int} {t : Nat} : At2 r U i j t ↔ px (r.x * U) (r.w * U) r.a t = i * U ∧ px (r.y * U) (r.h * U) r.b t = j * U := by
  unfold At2 WalkD.sp RunD.wk
  rw [Prod.mk.injEq]
  rfl
theorem fat_first {r : RunD} (ok : r.Ok) {U : Int} (u : UOk r U) {i j : Int} (hb : inBox r.w r.h i j) : IsFirst (At2 r U i j) U (r.fat i j) := by
  have hr' : okRun r.w r.h r.x r.y r.a r.b := ok
  obtain ⟨h1, h2, _⟩ := hr'
  obtain ⟨b1, b2⟩ := hb
  have := all_first u.pos (cs := (pm i).map r.cA) (ds := (pm j).map r.cB) (by
    intro c hc
    obtain ⟨k, _, rfl⟩ := List.mem_map.mp hc
    exact ⟨by show 0 < 2 * r.w; omega, u.da⟩) (by
    intro c hc
    obtain ⟨k, _, rfl⟩ := List.mem_map.mp hc
    exact ⟨by show 0 < 2 * r.h; omega, u.db⟩)
  refine this.congr fun t => ?_
  rw [at2_iff, px_spot (by omega) u.pos b1.1 b1.2, px_spot (by omega) u.pos b2.1 b2.2]
  constructor
  · rintro ⟨⟨c, hc, h3⟩, d, hd, h4⟩
    obtain ⟨k, hk, rfl⟩ := List.mem_map.mp hc
    obtain ⟨l, hl, rfl⟩ := List.mem_map.mp hd
    exact ⟨⟨k, hk, h3⟩, l, hl, h4⟩
  · rintro ⟨⟨k, hk, h3⟩, l, hl, h4⟩
    exact ⟨⟨_, List.mem_map.mpr ⟨k, hk, rfl⟩, h3⟩, _, List.mem_map.mpr ⟨l, hl, rfl⟩, h4⟩
instance (r : RunD) (U i j : Int) (t : Nat) : Decidable (At2 r U i j t) := inferInstanceAs (Decidable (_ = _))
/-- the parts of a turn at which the ball is there -/
def RunD.ats (r : RunD) (U i j : Int) (P : Nat) : List Nat := (List.range P).filter fun t => decide (At2 r U i j t)
theorem ats_mem {r : RunD} {U i j : Int} {P t : Nat} : t ∈ r.ats U i j P ↔ t < P ∧ At2 r U i j t := by
  unfold RunD.ats
  rw [List.mem_filter, List.mem_range, decide_eq_true_eq]
theorem fat_find {r : RunD} {U : Int} {T : Nat → Nat} {P : Nat} (R : RunT r U T P) {i j : Int} (hb : inBox r.w r.h i j) : r.fat i j = (r.ats U i j P).head?.map fun t : Nat => low (t : Int) U := by
  unfold RunD.ats
  rw [List.head?_filter]
  exact (fat_first R.ok R.u hb).find R.rd.pos (fun t ht => by
    unfold At2 at ht ⊢
    rw [← R.rd.mod t]; exact ht) _ (fun t => decide_eq_true_iff)
/-! ### rows of times -/
theorem filter_split (n : Nat) : ∀ {fs : List Nat}, fs.Pairwise (· < ·) → fs = fs.filter (fun m => decide (m < n)) ++ fs.filter (fun m => !decide (m < n))
  | [], _ => rfl
  | f :: fs, h => by
    have h1 := List.pairwise_cons.mp h
    by_cases q : f < n
    · rw [List.filter_cons_of_pos (by simpa using q), List.filter_cons_of_neg (by simpa using q), List.cons_append]
      exact congrArg _ (filter_split n h1.2)
    · have e : fs.filter (fun m => decide (m < n)) = [] := by
        rw [List.filter_eq_nil_iff]
        intro m hm
        have := h1.1 m hm
        simp; omega
      have e2 : fs.filter (fun m => !decide (m < n)) = fs := by
        rw [List.filter_eq_self]
        intro m hm
        have := h1.1 m hm
        simp; omega
      rw [List.filter_cons_of_neg (by simpa using q), List.filter_cons_of_pos (by simpa using q), e, e2]
      rfl
theorem insA_ticks {U : Int} (hU : 0 < U) {fs : List Nat} (h : fs.Pairwise (· < ·)) {n : Nat} (hn : n ∉ fs) : ∃ gs : List Nat, insA (fs.map fun m : Nat => low (m : Int) U) (low (n : Int) U) = gs.map (fun m : Nat => low (m : Int) U) ∧ gs.Pairwise (· < ·) ∧ ∀ m, m ∈ gs ↔ m = n ∨ m ∈ fs := by
  have e1 : ((fs.map fun m : Nat => low (m : Int) U).filter fun s => decide (less s (low (n : Int) U))) = (fs.filter fun m => decide (m < n)).map fun m : Nat => low (m : Int) U := by
    rw [List.filter_map]
    congr 1
    apply List.filter_congr
    intro m _
    simp only [Function.comp]
    exact decide_eq_decide.mpr ((less_low hU).trans (by omega))
  have e2 := filter_split n h
  refine ⟨fs.filter (fun m => decide (m < n)) ++ [n] ++ fs.filter (fun m => !decide (m < n)), ?_, ?_, fun m => ?_⟩
  · unfold insA
    have cv : (fun s => @decide (less s (low (n : Int) U)) (Classical.propDecidable _)) = fun s => decide (less s (low (n : Int) U)) := by
      funext s; congr
    simp only [cv, e1, List.length_map]
    rw [← List.map_take, ← List.map_drop, List.map_append, List.map_append]
    have t1 : fs.take (fs.filter (fun m => decide (m < n))).length = fs.filter (fun m => decide (m < n)) := by
      conv => lhs; arg 2; rw [e2]
      rw [List.take_left]
    have t2 : fs.drop (fs.filter (fun m => decide (m < n))).length = fs.filter (fun m => !decide (m < n)) := by
      conv => lhs; arg 2; rw [e2]
      rw [List.drop_left]
    rw [t1, t2]
    rfl
  · have h1 : (fs.filter (fun m => decide (m < n))).Pairwise (· < ·) := h.filter _
    have h2 : (fs.filter (fun m => !decide (m < n))).Pairwise (· < ·) := h.filter _
    rw [List.append_assoc, List.pairwise_append, List.singleton_append, List.pairwise_cons]
    refine ⟨h1, ⟨fun a ha => ?_, h2⟩, fun a ha b hb => ?_⟩
    · have := List.mem_filter.mp ha
      have ne : a ≠ n := fun e => hn (e ▸ this.1)
      have := this.2
      simp at this; omega
    · have ha' := (List.mem_filter.mp ha).2
      simp at ha'
      rcases List.mem_cons.mp hb with rfl | hb
      · exact ha'
      · have := (List.mem_filter.mp hb).2
        simp at this; omega
  · conv => rhs; rw [e2]
    simp only [List.mem_append, List.mem_singleton]
    constructor
    · rintro ((h | h) | h) <;> simp [h]
    · rintro (h | h | h) <;> simp [h]
theorem ascF_ticks {U : Int} (hU : 0 < U) : ∀ (ms fs : List Nat), ms.Nodup → fs.Pairwise (· < ·) → (∀ m ∈ ms, m ∉ fs) → ∃ gs : List Nat, ascF (ms.map fun m : Nat => low (m : Int) U) (fs.map fun m : Nat => low (m : Int) U) = gs.map (fun m : Nat => low (m : Int) U) ∧ gs.Pairwise (· < ·) ∧ ∀ m, m ∈ gs ↔ m ∈ ms ∨ m ∈ fs
  | [], fs, _, h, _ => ⟨fs, rfl, h, by simp⟩
  | n :: ms, fs, nd, h, hd => by
    obtain ⟨gs, g1, g2, g3⟩ := insA_ticks hU h (hd n (List.mem_cons_self ..))
    have nd' := List.nodup_cons.mp nd
    obtain ⟨ks, k1, k2, k3⟩ := ascF_ticks hU ms gs nd'.2 g2 (fun m hm z => by
      rcases (g3 m).mp z with rfl | z
      · exact nd'.1 hm
      · exact hd m (List.mem_cons_of_mem _ hm) z)
    refine ⟨ks, ?_, k2, fun m => ?_⟩
    · rw [List.map_cons]
      show ascF _ (insA _ _) = _
      rw [g1, k1]
    · rw [k3, g3, List.mem_cons]
      constructor
      · rintro (h | h | h) <;> simp [h]
      · rintro ((h | h) | h) <;> simp [h]
theorem natO : StrictO (fun a b : Nat => a < b) := ⟨fun a => by omega, fun a b c => by omega, fun a b => by omega⟩
/-- ascending, told in parts -/
theorem asc_ticks {U : Int} (hU : 0 < U) {ts : List (Int × Int)} {gs : List Nat} (h1 : ∀ t ∈ ts, ∃ m : Nat, t = low (m : Int) U) (h2 : gs.Pairwise (· < ·)) (h3 : ∀ m : Nat, low (m : Int) U ∈ ts ↔ m ∈ gs) : asc ts = gs.map fun m : Nat => low (m : Int) U := by
  obtain ⟨ms, em⟩ := ticks_of (srtP ts) fun t ht => h1 t ((srtO_mem pairO).mp ht)
  have nd : ms.Nodup := by
    have pw := srtO_pw pairO ts
    have n1 : (srtP ts).Nodup := List.Pairwise.imp (S := fun a b => a ≠ b) (fun {a b} (h : ltPr a b) (e : a = b) => pairO.irr b (by rw [e] at h; exact h)) pw
    rw [em] at n1
    exact List.Pairwise.of_map _ (fun a b h e => h (by rw [e])) n1
  obtain ⟨ks, k1, k2, k3⟩ := ascF_ticks hU ms [] nd .nil (by simp)
  have : ks = gs := strict_uniq natO k2 h2 fun m => by
    rw [k3, ← h3, ← srtO_mem pairO, show srtO ltPr ts = srtP ts from rfl, em, List.mem_map]
    constructor
    · rintro (h | h)
      · exact ⟨m, h, rfl⟩
      · cases h
    · rintro ⟨m', h, e⟩
      rw [low_tick_inj hU e] at h
      exact .inl h
  unfold asc
  rw [em]
  show ascF _ ([].map fun m : Nat => low (m : Int) U) = _
  rw [k1, this]
/-! ### one coordinate's turns, in parts -/
theorem sg_cases {a : Int} (h : a ≠ 0) : (0 < a ∧ ((a.natAbs : Nat) : Int) = a) ∨ (a < 0 ∧ ((a.natAbs : Nat) : Int) = -a) := by omega
theorem trn_tick {st sp sd gl P Q U : Int} {N : Nat} (ok : okTn sp sd P Q) (hU : 0 < U) (hd : sp ∣ U) (hN : P * U = Q * (N : Int)) (h0 : 0 ≤ gl) (h1 : gl ≤ sd) :
    (∀ k ∈ pm gl, ∀ m < trK sp sd P Q, ∃ n : Nat, low (trR st sp sd k + 2 * sd * (m : Int)) (sp.natAbs : Nat) = low (n : Int) U ∧ n < N ∧ Cg.Sol U ⟨sp, k - st, 2 * sd⟩ n ∧ (n : Int) * (sp.natAbs : Nat) = (trR st sp sd k + 2 * sd * (m : Int)) * U) ∧
    ∀ n : Nat, n < N → (∃ k ∈ pm gl, Cg.Sol U ⟨sp, k - st, 2 * sd⟩ n) → low (n : Int) U ∈ trn st sp sd gl P Q := by
  obtain ⟨h2, h3, h4, h5, h6, h7, h8, h9⟩ := ok
  have A0 : (0 : Int) < (sp.natAbs : Nat) := by omega
  have dA : ((sp.natAbs : Nat) : Int) ∣ U := Int.natAbs_dvd.mpr hd
  obtain ⟨c, hc⟩ := dA
  have c0 : 0 < c := Int.pos_of_mul_pos_right (a := ((sp.natAbs : Nat) : Int)) (by rw [← hc]; exact hU) A0
  have eN : (N : Int) = 2 * sd * (trK sp sd P Q : Nat) * c := by
    have : Q * (N : Int) = Q * (2 * sd * (trK sp sd P Q : Nat) * c) := by
      rw [← hN, hc, show P * (((sp.natAbs : Nat) : Int) * c) = P * ((sp.natAbs : Nat) : Int) * c by grind, h8]; grind
    exact Int.eq_of_mul_eq_mul_left (by omega) this
  refine ⟨fun k hk m hm => ?_, fun n hn hk => ?_⟩
  · have r0 : 0 ≤ trR st sp sd k := Int.emod_nonneg _ (by omega)
    have r1 : trR st sp sd k < 2 * sd := Int.emod_lt_of_pos _ (by omega)
    have v0 : 0 ≤ trR st sp sd k + 2 * sd * (m : Int) := by have := Int.mul_nonneg (show 0 ≤ 2 * sd by omega) (show (0 : Int) ≤ m by omega); omega
    have n0 : 0 ≤ (trR st sp sd k + 2 * sd * (m : Int)) * c := Int.mul_nonneg v0 (by omega)
    have cn : ((((trR st sp sd k + 2 * sd * (m : Int)) * c).toNat : Nat) : Int) = (trR st sp sd k + 2 * sd * (m : Int)) * c := by omega
    refine ⟨((trR st sp sd k + 2 * sd * (m : Int)) * c).toNat, ?_, ?_, ?_, ?_⟩
    · rw [cn, hc, Int.mul_comm _ c, Int.mul_comm _ c, low_scale c0 A0]
    · have : (trR st sp sd k + 2 * sd * (m : Int)) * c < 2 * sd * (trK sp sd P Q : Nat) * c := by
        apply Int.mul_lt_mul_of_pos_right _ c0
        have : 2 * sd * ((m : Int) + 1) ≤ 2 * sd * (trK sp sd P Q : Nat) := Int.mul_le_mul_of_nonneg_left (by omega) (by omega)
        rw [Int.mul_add] at this
        omega
      omega
    · unfold Cg.Sol
      simp only
      rw [cn]
      have em := Int.emod_add_mul_ediv (if 0 < sp then k - st else st - k) (2 * sd)
      unfold trR
      rcases sg_cases h2 with ⟨s1, s2⟩ | ⟨s1, s2⟩
      · rw [if_pos s1] at em ⊢
        refine ⟨(m : Int) - (k - st) / (2 * sd), ?_⟩
        have : sp * (((k - st) % (2 * sd) + 2 * sd * (m : Int)) * c) = ((k - st) % (2 * sd) + 2 * sd * (m : Int)) * (((sp.natAbs : Nat) : Int) * c) := by rw [s2]; grind
        rw [this, ← hc]
        have e2 : (k - st) % (2 * sd) = (k - st) - 2 * sd * ((k - st) / (2 * sd)) := by omega
        rw [e2]; grind
      · rw [if_neg (by omega)] at em ⊢
        refine ⟨(st - k) / (2 * sd) - (m : Int), ?_⟩
        have : sp * (((st - k) % (2 * sd) + 2 * sd * (m : Int)) * c) = -(((st - k) % (2 * sd) + 2 * sd * (m : Int)) * (((sp.natAbs : Nat) : Int) * c)) := by rw [s2]; grind
        rw [this, ← hc]
        have e2 : (st - k) % (2 * sd) = (st - k) - 2 * sd * ((st - k) / (2 * sd)) := by omega
        rw [e2]; grind
    · rw [cn, hc]; grind
  · obtain ⟨k, hk, q, hq⟩ := hk
    simp only at hq
    have dv : U ∣ sp * (n : Int) := ⟨2 * sd * q + (k - st), by rw [show sp * (n : Int) = 2 * sd * U * q + (k - st) * U by omega]; grind⟩
    have dn : c ∣ (n : Int) := by
      obtain ⟨z, hz⟩ := dv
      rcases sg_cases h2 with ⟨s1, s2⟩ | ⟨s1, s2⟩
      · refine ⟨z, Int.eq_of_mul_eq_mul_left (a := sp) (by omega) ?_⟩
        rw [hz, hc, s2]; grind
      · refine ⟨-z, Int.eq_of_mul_eq_mul_left (a := sp) (by omega) ?_⟩
        rw [hz, hc, s2]; grind
    obtain ⟨n', hn'⟩ := dn
    have n0 : 0 ≤ n' := by
      rcases Int.lt_or_le n' 0 with z | z
      · have := Int.mul_neg_of_pos_of_neg c0 z
        omega
      · exact z
    have n1 : n' < 2 * sd * (trK sp sd P Q : Nat) := by
      have : c * n' < c * (2 * sd * (trK sp sd P Q : Nat)) := by rw [← hn', Int.mul_comm c, ← eN]; omega
      exact Int.lt_of_mul_lt_mul_left this (by omega)
    have en : n' % (2 * sd) = trR st sp sd k := by
      unfold trR
      have e1 : U * (sp / (sp.natAbs : Nat) * n') = sp * (n : Int) := by
        rcases sg_cases h2 with ⟨s1, s2⟩ | ⟨s1, s2⟩
        · rw [s2, Int.ediv_self (by omega), hn', hc, s2]; grind
        · rw [s2, show sp / -sp = -1 by rw [Int.ediv_neg, Int.ediv_self (by omega)], hn', hc, s2]; grind
      have e2 : sp / (sp.natAbs : Nat) * n' = (k - st) + 2 * sd * q := by
        apply Int.eq_of_mul_eq_mul_left (a := U) (by omega)
        rw [e1, show sp * (n : Int) = 2 * sd * U * q + (k - st) * U by omega]; grind
      rcases sg_cases h2 with ⟨s1, s2⟩ | ⟨s1, s2⟩
      · rw [s2, Int.ediv_self (by omega), Int.one_mul] at e2
        rw [if_pos s1, e2, Int.add_mul_emod_self_left]
      · rw [s2, show sp / -sp = -1 by rw [Int.ediv_neg, Int.ediv_self (by omega)]] at e2
        rw [if_neg (by omega), show n' = (st - k) + 2 * sd * (-q) by rw [Int.mul_neg]; omega, Int.add_mul_emod_self_left]
    have em := Int.emod_add_mul_ediv n' (2 * sd)
    have d0 : 0 ≤ n' / (2 * sd) := Int.ediv_nonneg n0 (by omega)
    unfold trn
    refine List.mem_flatMap.mpr ⟨k, hk, List.mem_map.mpr ⟨(n' / (2 * sd)).toNat, List.mem_range.mpr ?_, ?_⟩⟩
    · have : n' / (2 * sd) < (trK sp sd P Q : Nat) := Int.ediv_lt_of_lt_mul (by omega) (by rw [Int.mul_comm]; exact n1)
      omega
    · rw [show (((n' / (2 * sd)).toNat : Nat) : Int) = n' / (2 * sd) by omega, ← en, em, hn', hc, Int.mul_comm _ c, low_scale c0 A0]
end Bp

/-! Mt15: times_at tells all parts of a turn at which the ball is there. -/
namespace Bp
set_option autoImplicit false
open PySem L2
theorem okTn_of {sp sd P Q : Int} (h1 : sp ≠ 0) (h2 : sp.natAbs ≤ 6) (h3 : 0 < sd) (h4 : sd ≤ 12) (p0 : 0 < P) (p1 : P ≤ 576) (q0 : 0 < Q) (q1 : Q ≤ 6) (e : ∃ k, sp * P = 2 * sd * Q * k) : okTn sp sd P Q := by
  obtain ⟨k, hk⟩ := e
  have A0 : (0 : Int) < (sp.natAbs : Nat) := by omega
  have m0 : 0 < 2 * sd * Q := Int.mul_pos (by omega) q0
  have ek : ∃ k' : Int, P * (sp.natAbs : Nat) = 2 * sd * Q * k' := by
    rcases sg_cases h1 with ⟨s1, s2⟩ | ⟨s1, s2⟩
    · exact ⟨k, by rw [s2, ← hk]; grind⟩
    · exact ⟨-k, by rw [s2, show 2 * sd * Q * -k = -(2 * sd * Q * k) by grind, ← hk]; grind⟩
  obtain ⟨k', hk'⟩ := ek
  have pp : 0 < P * ((sp.natAbs : Nat) : Int) := Int.mul_pos p0 A0
  have kp : 0 < k' := Int.pos_of_mul_pos_right (a := 2 * sd * Q) (by rw [← hk']; exact pp) m0
  have tk : ((trK sp sd P Q : Nat) : Int) = k' := by
    unfold trK
    rw [hk', Int.mul_ediv_cancel_left _ (by omega)]
    omega
  have pl : P * ((sp.natAbs : Nat) : Int) ≤ 576 * 6 := Int.mul_le_mul p1 (by omega) (by omega) (by omega)
  have k1 : 1 * k' ≤ 2 * sd * Q * k' := Int.mul_le_mul_of_nonneg_right (by omega) (by omega)
  refine ⟨h1, h2, h3, h4, q0, by omega, by rw [hk', tk], by omega⟩
theorem okTn_a {w h x y a b : Int} (ok : okRun w h x y a b) (ha : a ≠ 0) : okTn a w (per w h a b).1 (per w h a b).2 := by
  obtain ⟨p1, p2, e1, e2⟩ := per_mul ok
  obtain ⟨b1, b2⟩ := per_le ok
  obtain ⟨h1, h2, h3, h4, h5, h6, h7⟩ := ok
  exact okTn_of ha (by omega) (by omega) (by omega) p1 b1 p2 b2 e1
theorem okTn_b {w h x y a b : Int} (ok : okRun w h x y a b) (hb : b ≠ 0) : okTn b h (per w h a b).1 (per w h a b).2 := by
  obtain ⟨p1, p2, e1, e2⟩ := per_mul ok
  obtain ⟨b1, b2⟩ := per_le ok
  obtain ⟨h1, h2, h3, h4, h5, h6, h7⟩ := ok
  exact okTn_of hb (by omega) (by omega) (by omega) p1 b1 p2 b2 e2
/-- the ball's place at a part of time, as the program tells it -/
theorem plc_at {r : RunD} (ok : r.Ok) {U : Int} (u : UOk r U) {i j : Int} (t : Nat) : (plc r.w r.x r.a (low (t : Int) U) = (i, 1) ∧ plc r.h r.y r.b (low (t : Int) U) = (j, 1)) ↔ At2 r U i j t := by
  rw [plc_tick u.pos, plc_tick u.pos, low_is u.pos, low_is u.pos, at2_iff]
theorem len_two {α : Type} {L : List α} {p : α → Bool} {q1 q2 : α → Prop} (nd : L.Nodup) (h : ∀ x ∈ L, p x = true → q1 x ∨ q2 x) (u1 : ∀ x y, x ∈ L → y ∈ L → q1 x → q1 y → x = y) (u2 : ∀ x y, x ∈ L → y ∈ L → q2 x → q2 y → x = y) : (L.filter p).length ≤ 2 := by
  have nd' : (L.filter p).Nodup := nd.filter _
  have hm : ∀ x ∈ L.filter p, x ∈ L ∧ (q1 x ∨ q2 x) := fun x hx => by
    have := List.mem_filter.mp hx
    exact ⟨this.1, h x this.1 this.2⟩
  match e : L.filter p with
  | [] => simp
  | [a] => simp
  | [a, b] => simp
  | a :: b :: c :: t =>
    exfalso
    rw [e] at nd' hm
    obtain ⟨a1, a2⟩ := hm a (by simp)
    obtain ⟨b1, b2⟩ := hm b (by simp)
    obtain ⟨c1, c2⟩ := hm c (by simp)
    have n1 : a ≠ b := fun z => by subst z; simp at nd'
    have n2 : a ≠ c := fun z => by subst z; simp at nd'
    have n3 : b ≠ c := fun z => by subst z; simp at nd'
    rcases a2 with a2 | a2 <;> rcases b2 with b2 | b2 <;> rcases c2 with c2 | c2
    · exact n1 (u1 _ _ a1 b1 a2 b2)
    · exact n1 (u1 _ _ a1 b1 a2 b2)
    · exact n2 (u1 _ _ a1 c1 a2 c2)
    · exact n3 (u2 _ _ b1 c1 b2 c2)
    · exact n3 (u1 _ _ b1 c1 b2 c2)
    · exact n2 (u2 _ _ a1 c1 a2 c2)
    · exact n1 (u2 _ _ a1 b1 a2 b2)
    · exact n1 (u2 _ _ a1 b1 a2 b2)
theorem flat_len {α β : Type} (f : α → List β) (n : Nat) : ∀ (l : List α), (∀ x ∈ l, (f x).length ≤ n) → (l.flatMap f).length ≤ n * l.length
  | [], _ => by simp
  | x :: l, h => by
    have := flat_len f n l fun y hy => h y (List.mem_cons_of_mem _ hy)
    have := h x (List.mem_cons_self ..)
    rw [List.flatMap_cons, List.length_append, List.length_cons, Nat.mul_add]
    omega
/-- the same congruences at two parts of a turn: the same part -/
theorem sol_same {r : RunD} {U : Int} {T : Nat → Nat} {P : Nat} (R : RunT r U T P) {c d : Int} {m n : Nat} (hm : m < P) (hn : n < P) (a1 : Cg.Sol U ⟨r.a, c, 2 * r.w⟩ m) (a2 : Cg.Sol U ⟨r.a, c, 2 * r.w⟩ n) (b1 : r.b ≠ 0 → Cg.Sol U ⟨r.b, d, 2 * r.h⟩ m) (b2 : r.b ≠ 0 → Cg.Sol U ⟨r.b, d, 2 * r.h⟩ n) : m = n := by
  have key : ∀ {m n : Nat}, m < n → n < P → Cg.Sol U ⟨r.a, c, 2 * r.w⟩ m → Cg.Sol U ⟨r.a, c, 2 * r.w⟩ n → (r.b ≠ 0 → Cg.Sol U ⟨r.b, d, 2 * r.h⟩ m) → (r.b ≠ 0 → Cg.Sol U ⟨r.b, d, 2 * r.h⟩ n) → False := by
    intro m n lt hn a1 a2 b1 b2
    refine R.rd.least (n - m) (by omega) (by omega) fun t => ?_
    have ex : ∃ k, r.a * ((n - m : Nat) : Int) = 2 * (r.w * U) * k := by
      obtain ⟨p, hp⟩ := a1
      obtain ⟨q, hq⟩ := a2
      simp only at hp hq
      refine ⟨q - p, ?_⟩
      rw [Int.natCast_sub (by omega), Int.mul_sub]
      have e1 : r.a * (n : Int) = 2 * r.w * U * q + c * U := by omega
      have e2 : r.a * (m : Int) = 2 * r.w * U * p + c * U := by omega
      rw [e1, e2]; grind
    have ey : ∃ k, r.b * ((n - m : Nat) : Int) = 2 * (r.h * U) * k := by
      by_cases hb : r.b = 0
      · exact ⟨0, by rw [hb]; simp⟩
      obtain ⟨p, hp⟩ := b1 hb
      obtain ⟨q, hq⟩ := b2 hb
      simp only at hp hq
      refine ⟨q - p, ?_⟩
      rw [Int.natCast_sub (by omega), Int.mul_sub]
      have e1 : r.b * (n : Int) = 2 * r.h * U * q + d * U := by omega
      have e2 : r.b * (m : Int) = 2 * r.h * U * p + d * U := by omega
      rw [e1, e2]; grind
    obtain ⟨k, ek⟩ := ex
    obtain ⟨l, el⟩ := ey
    unfold WalkD.sp RunD.wk
    rw [show (wkD r.w r.h r.x r.y r.a r.b U).px (t + (n - m)) = (wkD r.w r.h r.x r.y r.a r.b U).px t from px_round ek t, show (wkD r.w r.h r.x r.y r.a r.b U).py (t + (n - m)) = (wkD r.w r.h r.x r.y r.a r.b U).py t from px_round el t]
  rcases Nat.lt_trichotomy m n with h | h | h
  · exact (key h hn a1 a2 b1 b2).elim
  · exact h
  · exact (key h hm a2 a1 b2 b1).elim
section
variable {r : RunD} {U : Int} {T : Nat → Nat} {P : Nat}
theorem tcan_a (R : RunT r U T P) {i j : Int} (hb : inBox r.w r.h i j) (ha : r.a ≠ 0) : (∀ t ∈ r.tcan i j, ∃ m : Nat, t = low (m : Int) U) ∧ (∀ m : Nat, low (m : Int) U ∈ r.tcan i j ↔ m ∈ r.ats U i j P) ∧ (r.tcan i j).length ≤ 4 := by
  have ok : okRun r.w r.h r.x r.y r.a r.b := R.ok
  have tn := okTn_a ok ha
  have eP : (Bp.per r.w r.h r.a r.b).1 * U = (Bp.per r.w r.h r.a r.b).2 * (P : Int) := R.e
  obtain ⟨t1, t2⟩ := trn_tick (st := r.x) (gl := i) tn R.u.pos (R.u.da ha) eP hb.1.1 hb.1.2
  obtain ⟨o1, o2, _⟩ := id ok
  have ec : r.tcan i j = (trn r.x r.a r.w i (Bp.per r.w r.h r.a r.b).1 (Bp.per r.w r.h r.a r.b).2).filter fun t => decide (plc r.w r.x r.a t = (i, 1) ∧ plc r.h r.y r.b t = (j, 1)) := by
    unfold RunD.tcan; rw [if_pos ha]
  have m1 : ∀ t ∈ r.tcan i j, ∃ m : Nat, t = low (m : Int) U ∧ m < P := by
    intro t ht
    rw [ec] at ht
    have := (List.mem_filter.mp ht).1
    obtain ⟨k, hk, h2⟩ := List.mem_flatMap.mp this
    obtain ⟨m, hm, rfl⟩ := List.mem_map.mp h2
    obtain ⟨n, n1, n2, _⟩ := t1 k hk m (List.mem_range.mp hm)
    exact ⟨n, n1, n2⟩
  refine ⟨fun t ht => ?_, fun m => ⟨fun h => ?_, fun h => ?_⟩, ?_⟩
  · obtain ⟨m, h, _⟩ := m1 t ht
    exact ⟨m, h⟩
  · obtain ⟨m', e, hm'⟩ := m1 _ h
    have := low_tick_inj R.u.pos e
    subst this
    rw [ec] at h
    have := (List.mem_filter.mp h).2
    exact ats_mem.mpr ⟨hm', (plc_at R.ok R.u _).mp (by simpa using this)⟩
  · obtain ⟨hm, hA⟩ := ats_mem.mp h
    rw [ec]
    refine List.mem_filter.mpr ⟨t2 m hm ((px_spot (by omega) R.u.pos hb.1.1 hb.1.2 m).mp (at2_iff.mp hA).1), ?_⟩
    simpa using (plc_at R.ok R.u _).mpr hA
  · rw [ec]
    unfold trn
    rw [List.filter_flatMap]
    have key := flat_len (fun k => (trn1 r.a r.w (trR r.x r.a r.w k) (trK r.a r.w (Bp.per r.w r.h r.a r.b).1 (Bp.per r.w r.h r.a r.b).2)).filter fun t => decide (plc r.w r.x r.a t = (i, 1) ∧ plc r.h r.y r.b t = (j, 1))) 2 (pm i) (fun k hk => ?_)
    · have := pm_len i
      exact Nat.le_trans key (by omega)
    · unfold trn1
      rw [List.filter_map, List.length_map]
      have tick := t1 k hk
      refine len_two (q1 := fun m => ∃ n : Nat, n < P ∧ (n : Int) * (r.a.natAbs : Nat) = (trR r.x r.a r.w k + 2 * r.w * (m : Int)) * U ∧ Cg.Sol U ⟨r.a, k - r.x, 2 * r.w⟩ n ∧ Cg.Sol U ⟨r.b, j - r.y, 2 * r.h⟩ n) (q2 := fun m => ∃ n : Nat, n < P ∧ (n : Int) * (r.a.natAbs : Nat) = (trR r.x r.a r.w k + 2 * r.w * (m : Int)) * U ∧ Cg.Sol U ⟨r.a, k - r.x, 2 * r.w⟩ n ∧ Cg.Sol U ⟨r.b, -j - r.y, 2 * r.h⟩ n) List.nodup_range (fun m hm hp => ?_) (fun m m' hm hm' => ?_) (fun m m' hm hm' => ?_)
      · obtain ⟨n, n1, n2, n3, n4⟩ := tick m (List.mem_range.mp hm)
        simp only [Function.comp, n1, decide_eq_true_eq] at hp
        have hA := (plc_at R.ok R.u n).mp hp
        obtain ⟨l, hl, hs⟩ := (px_spot (by omega) R.u.pos hb.2.1 hb.2.2 n).mp (at2_iff.mp hA).2
        rcases pm_mem.mp hl with rfl | rfl
        · exact .inl ⟨n, n2, n4, n3, hs⟩
        · exact .inr ⟨n, n2, n4, n3, hs⟩
      all_goals
        rintro ⟨n, a1, a2, a3, a4⟩ ⟨n', b1, b2, b3, b4⟩
        have e := sol_same R a1 b1 a3 b3 (fun _ => a4) (fun _ => b4)
        subst e
        have e2 := a2.symm.trans b2
        have e3 := Int.eq_of_mul_eq_mul_right (by have := R.u.pos; omega) e2
        have e4 : 2 * r.w * (m : Int) = 2 * r.w * (m' : Int) := by omega
        have e5 := Int.eq_of_mul_eq_mul_left (by omega) e4
        omega
theorem tcan_b (R : RunT r U T P) {i j : Int} (hb : inBox r.w r.h i j) (ha : r.a = 0) : (∀ t ∈ r.tcan i j, ∃ m : Nat, t = low (m : Int) U) ∧ (∀ m : Nat, low (m : Int) U ∈ r.tcan i j ↔ m ∈ r.ats U i j P) ∧ (r.tcan i j).length ≤ 4 := by
  have ok : okRun r.w r.h r.x r.y r.a r.b := R.ok
  have hb0 : r.b ≠ 0 := fun z => ok.2.2.2.2.2.2 ⟨ha, z⟩
  have tn := okTn_b ok hb0
  have eP : (Bp.per r.w r.h r.a r.b).1 * U = (Bp.per r.w r.h r.a r.b).2 * (P : Int) := R.e
  obtain ⟨t1, t2⟩ := trn_tick (st := r.y) (gl := j) tn R.u.pos (R.u.db hb0) eP hb.2.1 hb.2.2
  obtain ⟨o1, o2, _⟩ := id ok
  have ec : r.tcan i j = (trn r.y r.b r.h j (Bp.per r.w r.h r.a r.b).1 (Bp.per r.w r.h r.a r.b).2).filter fun t => decide (plc r.w r.x r.a t = (i, 1) ∧ plc r.h r.y r.b t = (j, 1)) := by
    unfold RunD.tcan; rw [if_neg (by simp [ha])]
  have m1 : ∀ t ∈ r.tcan i j, ∃ m : Nat, t = low (m : Int) U ∧ m < P := by
    intro t ht
    rw [ec] at ht
    have := (List.mem_filter.mp ht).1
    obtain ⟨k, hk, h2⟩ := List.mem_flatMap.mp this
    obtain ⟨m, hm, rfl⟩ := List.mem_map.mp h2
    obtain ⟨n, n1, n2, _⟩ := t1 k hk m (List.mem_range.mp hm)
    exact ⟨n, n1, n2⟩
  refine ⟨fun t ht => ?_, fun m => ⟨fun h => ?_, fun h => ?_⟩, ?_⟩
  · obtain ⟨m, h, _⟩ := m1 t ht
    exact ⟨m, h⟩
  · obtain ⟨m', e, hm'⟩ := m1 _ h
    have := low_tick_inj R.u.pos e
    subst this
    rw [ec] at h
    have := (List.mem_filter.mp h).2
    exact ats_mem.mpr ⟨hm', (plc_at R.ok R.u _).mp (by simpa using this)⟩
  · obtain ⟨hm, hA⟩ := ats_mem.mp h
    rw [ec]
    refine List.mem_filter.mpr ⟨t2 m hm ((px_spot (by omega) R.u.pos hb.2.1 hb.2.2 m).mp (at2_iff.mp hA).2), ?_⟩
    simpa using (plc_at R.ok R.u _).mpr hA
  · rw [ec]
    unfold trn
    rw [List.filter_flatMap]
    have key := flat_len (fun k => (trn1 r.b r.h (trR r.y r.b r.h k) (trK r.b r.h (Bp.per r.w r.h r.a r.b).1 (Bp.per r.w r.h r.a r.b).2)).filter fun t => decide (plc r.w r.x r.a t = (i, 1) ∧ plc r.h r.y r.b t = (j, 1))) 2 (pm j) (fun k hk => ?_)
    · have := pm_len j
      exact Nat.le_trans key (by omega)
    · unfold trn1
      rw [List.filter_map, List.length_map]
      have tick := t1 k hk
      refine len_two (q1 := fun m => ∃ n : Nat, n < P ∧ (n : Int) * (r.b.natAbs : Nat) = (trR r.y r.b r.h k + 2 * r.h * (m : Int)) * U ∧ Cg.Sol U ⟨r.b, k - r.y, 2 * r.h⟩ n) (q2 := fun m => False) List.nodup_range (fun m hm hp => ?_) (fun m m' hm hm' => ?_) (fun m m' hm hm' h => h.elim)
      · obtain ⟨n, n1, n2, n3, n4⟩ := tick m (List.mem_range.mp hm)
        exact .inl ⟨n, n2, n4, n3⟩
      · rintro ⟨n, a1, a2, a3⟩ ⟨n', b1, b2, b3⟩
        have zx : ∀ n : Nat, Cg.Sol U ⟨r.a, 0, 2 * r.w⟩ n := fun n => ⟨0, by simp [ha]⟩
        have e := sol_same R a1 b1 (zx n) (zx n') (fun _ => a3) (fun _ => b3)
        subst e
        have e2 := a2.symm.trans b2
        have e3 := Int.eq_of_mul_eq_mul_right (by have := R.u.pos; omega) e2
        have e4 : 2 * r.h * (m : Int) = 2 * r.h * (m' : Int) := by omega
        have e5 := Int.eq_of_mul_eq_mul_left (by omega) e4
        omega
theorem tcan_ticks (R : RunT r U T P) {i j : Int} (hb : inBox r.w r.h i j) : (∀ t ∈ r.tcan i j, ∃ m : Nat, t = low (m : Int) U) ∧ (∀ m : Nat, low (m : Int) U ∈ r.tcan i j ↔ m ∈ r.ats U i j P) ∧ (r.tcan i j).length ≤ 4 := by
  by_cases ha : r.a = 0
  · exact tcan_b R hb ha
  · exact tcan_a R hb ha
theorem range_pw (P : Nat) : (List.range P).Pairwise (· < ·) := List.pairwise_lt_range
theorem tms_eq (R : RunT r U T P) {i j : Int} (hb : inBox r.w r.h i j) : r.tms i j = (r.ats U i j P).map fun t : Nat => low (t : Int) U := by
  obtain ⟨h1, h2, _⟩ := tcan_ticks R hb
  exact asc_ticks R.u.pos h1 ((range_pw P).filter _) h2
theorem low_nn {m : Nat} {U : Int} (hU : 0 < U) : nn (low (m : Int) U) = true := by
  obtain ⟨s1, s2, _⟩ := low_spec (n := (m : Int)) hU
  have : 0 ≤ (low (m : Int) U).1 := by
    rcases Int.lt_or_le (low (m : Int) U).1 0 with z | z
    · have := Int.mul_neg_of_neg_of_pos z hU
      have := Int.mul_nonneg (show (0 : Int) ≤ m by omega) (Int.le_of_lt s1)
      omega
    · exact z
  simp [nn, this, Int.le_of_lt s1]
theorem tcan_den {r : RunD} (ok : r.Ok) (i j : Int) : okTs (r.tcan i j) := by
  have ok' : okRun r.w r.h r.x r.y r.a r.b := ok
  have key : ∀ t ∈ r.tcan i j, 0 < t.2 ∧ t.2 ≤ 6 := by
    intro t ht
    have h := (List.mem_filter.mp ht).1
    split at h
    · exact trn_den (okTn_a ok' (by assumption)) t h
    · rename_i z
      exact trn_den (okTn_b ok' (fun q => ok'.2.2.2.2.2.2 ⟨by simpa using z, q⟩)) t h
  intro t ht
  have := key t ht
  exact ⟨this.1, by omega⟩
end
/-- a unit for a run -/
theorem unit_of (r : RunD) : ∃ U, UOk r U := by
  refine ⟨(if r.a = 0 then 1 else (r.a.natAbs : Nat)) * (if r.b = 0 then 1 else (r.b.natAbs : Nat)), ?_, fun h => ?_, fun h => ?_⟩
  · refine Int.mul_pos ?_ ?_ <;> split <;> omega
  · rw [if_neg h]; exact Int.dvd_mul_of_dvd_left (Int.dvd_natAbs.mpr (Int.dvd_refl _))
  · rw [if_neg h]; exact Int.dvd_mul_of_dvd_right (Int.dvd_natAbs.mpr (Int.dvd_refl _))
theorem okTa_of {r : RunD} (ok : r.Ok) {i j : Int} (hb : inBox r.w r.h i j) : okTa r i j := by
  have ok' : okRun r.w r.h r.x r.y r.a r.b := ok
  obtain ⟨U, u⟩ := unit_of r
  obtain ⟨T, P, R⟩ := runT ok u
  obtain ⟨h1, h2, h3⟩ := tcan_ticks R hb
  refine ⟨?_, tcan_den ok i j, by omega, List.all_eq_true.mpr fun t ht => ?_⟩
  · split
    · exact okTn_a ok' (by assumption)
    · rename_i z
      exact okTn_b ok' (fun q => ok'.2.2.2.2.2.2 ⟨by simpa using z, q⟩)
  · obtain ⟨m, rfl⟩ := h1 t ht
    exact low_nn u.pos
theorem times_at_at {r : RunD} (ok : r.Ok) {i j : Int} (hb : inBox r.w r.h i j) (S : Sto) : G_times_at [r.W, .tup [.int i, .int j]] S = some (.ref S.length, S ++ [.lst ((r.tms i j).map fr)]) := by
  have ok' : okRun r.w r.h r.x r.y r.a r.b := ok
  have ot := okTa_of ok hb
  obtain ⟨w, h, x, y, a, b⟩ := r
  exact if_pos ⟨ok', hb, ot⟩
end Bp

set_option maxHeartbeats 4000000
/-! Sd1: sorted(d), d a dict keyed by pairs of ints (any number of keys). -/
namespace Bp
set_option autoImplicit false
open PySem PySem.Spec PyProof.Rows L2
/-- the pair that a value stands for -/
def pairAt (H : Hp) (v : Value) : Int × Int := match v with
  | .ref b => match H b with
    | some (.tup [.int i, .int j]) => (i, j)
    | _ => (0, 0)
  | _ => (0, 0)
def adr : Value → Addr
  | .ref a => a
  | _ => 0
section
variable {X : Cx}
def rSortDT : List V → Hp → VK → Prop := fun vs H Q => ∃ (a : Addr) (kvs : List (List Key × V)) (ts : List (Int × Int)), vs = [V.ref a] ∧ H a = some (.dT kvs) ∧ kvs.map (·.1) = ts.map (fun t => [Sum.inl t.1, Sum.inl t.2]) ∧
  ∀ (L : List (Addr × (Int × Int))) (p : Addr), (∀ q ∈ L, H q.1 = some (.tup [.int q.2.1, .int q.2.2])) → (L.map (·.2)).Pairwise ltPr → (L.map (·.2)).Perm ts → H p = none → Q (.ref p) (upd H p (.lst (L.map fun q => V.ref q.1)))
theorem kt_at {H : Hp} : ∀ {kvs : List (List Key × V)} {xs : List (List Key × Addr × Value)} {ts : List (Int × Int)}, KT H kvs xs → kvs.map (·.1) = ts.map (fun t => [Sum.inl t.1, Sum.inl t.2]) → xs.map (fun x => pairAt H (.ref x.2.1)) = ts ∧ ∀ x ∈ xs, H x.2.1 = some (.tup [.int (pairAt H (.ref x.2.1)).1, .int (pairAt H (.ref x.2.1)).2])
  | _, _, [], .nil, _ => ⟨rfl, by simp⟩
  | _, _, t :: ts, .cons h r, e => by
    rename_i p q ps qs
    simp only [List.map_cons, List.cons.injEq] at e
    obtain ⟨h1, h2⟩ := kt_at r e.2
    obtain ⟨a1, a2, a3⟩ := h
    rw [e.1] at a2
    have a2' : H q.2.1 = some (.tup [.int t.1, .int t.2]) := a2
    have pt : pairAt H (.ref q.2.1) = t := by simp only [pairAt, a2']
    refine ⟨by rw [List.map_cons, h1, pt], fun x hx => ?_⟩
    rcases List.mem_cons.mp hx with rfl | hx
    · rw [pt]; exact a2'
    · exact h2 x hx
  | _, _, t :: ts, .nil, e => by simp at e
  | _, _, [], .cons h r, e => by simp at e
theorem kt_keys {H : Hp} : ∀ {kvs : List (List Key × V)} {xs : List (List Key × Addr × Value)}, KT H kvs xs → xs.map (·.1) = kvs.map (·.1)
  | _, _, .nil => rfl
  | _, _, .cons h r => by rw [List.map_cons, List.map_cons, kt_keys r, h.1]
theorem refs_map : ∀ {us : List Value}, (∀ u ∈ us, ∃ a, u = Value.ref a) → Vals ((us.map adr).map V.ref) us
  | [], _ => .nil
  | u :: us, h => by
    obtain ⟨a, rfl⟩ := h u (List.mem_cons_self ..)
    exact .cons (show RelV (.ref a) (.ref a) from rfl) (refs_map fun v hv => h v (List.mem_cons_of_mem _ hv))
theorem cr_sortDT (hc : X.calm = true) : CallR X (.builtin "sorted") rSortDT := by
  intro pins s σ H vs us Q I r h
  obtain ⟨a, kvs, ts, rfl, ha, hk, q⟩ := h
  rw [Vals.ref1 r]
  obtain ⟨z, lo, xs, rel, dd⟩ := dt_of I.hok ha
  obtain ⟨k1, k2⟩ := kt_at rel hk
  obtain ⟨es, ep, raw, sz, ent⟩ := dd.raw
  have lx : xs.length = kvs.length := (Paired.length rel).symm
  have nd : ts.Nodup := by
    obtain ⟨_, _, _, _, _, _, _, _, n⟩ := dd
    have e := kt_keys rel
    rw [e, hk] at n
    exact List.Pairwise.of_map _ (fun s t h e => h (by rw [e])) n
  refine Calls.call_function_entry kind_sorted plain_sorted entry_sorted (args_sorted1 _) ?_
  unfold Builtin.«sorted»
  refine wpAny_bind (m := checkCount "sorted" 1 1 _) (wpAny_pure ?_)
  refine wpAny_bind (PySem.W.kdu_collect (A := X.A.in1) (PySem.KdlSrc.rawDict (es := es) (ep := ep) lo) (I.ok.hd hc) raw (by omega) fun h' tk acc kp hacc => ?_)
  have al : acc.toList.length = xs.length := by rw [Array.length_toList, hacc.1, sz]
  have ae : acc.toList = xs.map fun x => Value.ref x.2.1 := by
    apply List.ext_getElem?
    intro i
    by_cases hi : i < xs.length
    · have hi' : i < acc.toList.length := by omega
      obtain ⟨g1, g2⟩ := hacc.2 i acc.toList[i] (by rw [← Array.getElem?_toList]; exact List.getElem?_eq_getElem hi')
      obtain ⟨y, y1, y2, _⟩ := ent i g1
      rw [List.getElem?_eq_getElem hi', g2, y2, List.getElem?_map, y1]
      rfl
    · rw [List.getElem?_eq_none (by omega), List.getElem?_eq_none (by rw [List.length_map]; omega)]
  have I1 : Inv X pins σ H { s with heap := h', toks := tk } := I.kept kp
  refine wpAny_bind (wpAny_newList ?_ (by omega))
  have hoL : (h'.push (seqObj "list" acc.toList.toArray 0)).get? h'.objs.size = some (seqObj "list" acc.toList.toArray 0) := Heap.get?_push_size _ rfl
  show wpAny _ _ _ _ _ { s with heap := h'.push (seqObj "list" acc.toList.toArray 0), toks := tk }
  have isP : ∀ v ∈ acc.toList, Srt.IsPair (h'.push (seqObj "list" acc.toList.toArray 0)) v (pairAt H v).1 (pairAt H v).2 := fun v hv => by
    rw [ae] at hv
    obtain ⟨x, hx, rfl⟩ := List.mem_map.mp hv
    obtain ⟨_, its2, r2, o, ho, hcl, n, hd⟩ := I1.hok _ _ (k2 x hx)
    obtain ⟨u1, u2, rfl, ri, rj⟩ := vals2 r2
    obtain ⟨t1, rfl⟩ := ri
    obtain ⟨t2, rfl⟩ := rj
    exact ⟨_, o, t1, t2, n, rfl, Heap.get?_push_of_some _ ho, hcl, hd⟩
  refine wpAny_bind (wpAny_holding (wpAny_call_entry slot_list_sort ⟨_, hoL, rfl⟩ entry_list_sort
    (SrtO.list_sort_ord (s := { s with heap := h'.push (seqObj "list" acc.toList.toArray 0), toks := tk }) (SrtO.swo_lex (pairAt H)) hoL (by omega) (fun h2 => SrtO.pairs_sortableO (by omega) isP fun o e => ?_) fun out g1 g2 => ⟨_, rfl, ?_⟩) (args_list_sort _)))
  · have e' : some o = some (seqObj "list" acc.toList.toArray 0) := e.symm.trans hoL
    cases e'
    intro c
    exact absurd (Value.type.inj c) (by decide)
  have pmv : out.Perm (xs.map fun x => Value.ref x.2.1) := by rw [← ae]; exact g2.perm
  have isr : ∀ u ∈ out, ∃ a, u = Value.ref a := fun u hu => by
    obtain ⟨x, _, rfl⟩ := List.mem_map.mp (pmv.mem_iff.mp hu)
    exact ⟨_, rfl⟩
  obtain ⟨e', he'⟩ := sortedHeap_at (vs := acc.toList) (out := out.toArray) hoL
  have ll : ((out.map adr).map V.ref).length ≤ sizeLine := by
    rw [List.length_map, List.length_map, pmv.length_eq, List.length_map]; omega
  have el : (out.map adr).map V.ref = (out.map fun v => (adr v, pairAt H v)).map fun q => V.ref q.1 := by rw [List.map_map, List.map_map]; rfl
  have e2 : (out.map fun v => (adr v, pairAt H v)).map (·.2) = out.map (pairAt H) := by rw [List.map_map]; rfl
  have pm2 : (out.map (pairAt H)).Perm ts := by
    have := pmv.map (pairAt H)
    rw [List.map_map] at this
    rw [← k1]
    exact this
  refine wpAny_pure ⟨_, rfl, .ref h'.objs.size, upd H h'.objs.size (.lst ((out.map adr).map V.ref)), I1.laid (t' := tk) (fun b u e => ?_) (Nat.le_refl _)
    (show ObjOk X.prog X.w _ _ _ (.lst ((out.map adr).map V.ref)) from ⟨ll, out, e', refs_map isr, he'⟩), rfl, ?_⟩
  · have hb : b < h'.objs.size := Heap.lt_size e
    rw [sortedHeap_old (Nat.ne_of_lt hb) (by rw [size_push']; exact Nat.lt_succ_of_lt hb)]
    exact Heap.get?_push_of_some _ e
  · rw [el]
    refine q _ _ (fun p hp => ?_) ?_ (by rw [e2]; exact pm2) (I1.hok.fresh (Nat.le_refl _))
    · obtain ⟨v, hv, rfl⟩ := List.mem_map.mp hp
      obtain ⟨x, hx, rfl⟩ := List.mem_map.mp (pmv.mem_iff.mp hv)
      exact k2 x hx
    · rw [e2]
      have nd2 : (out.map (pairAt H)).Nodup := pm2.nodup_iff.mpr nd
      have s1 : (out.map (pairAt H)).Pairwise fun p q => SrtO.lexB q p = false := by
        rw [List.pairwise_map]
        exact g1
      refine (s1.and nd2).imp fun {p q} hpq => ?_
      obtain ⟨h1, h2⟩ := hpq
      rcases pairO.tri p q with c | c | c
      · exact c
      · exact absurd c h2
      · have : SrtO.lexB q p = true := SrtO.lexB_iff.mpr c
        rw [this] at h1; cases h1
end
end Bp

set_option maxHeartbeats 1000000
/-! Ev12: sorted(d), len(d), d.get(k, x), d.setdefault(k, x) of dicts keyed by tuples; dicts keyed by pairs of pairs. -/
namespace Bp
set_option autoImplicit false
open PySem PySem.Spec L2
section
variable {K : PySem.W.Frag}
def keyPr : List Key → Option (Int × Int)
  | [.inl a, .inl b] => some (a, b)
  | _ => none
def mapK : List (List Key) → Option (List (Int × Int))
  | [] => some []
  | k :: ks => (keyPr k).bind fun t => (mapK ks).bind fun ts => some (t :: ts)
theorem mapK_eq : ∀ {ks : List (List Key)} {ts : List (Int × Int)}, mapK ks = some ts → ks = ts.map fun t => [Sum.inl t.1, Sum.inl t.2]
  | [], _, h => by cases h; rfl
  | k :: ks, _, h => by
    obtain ⟨t, h1, h⟩ := bindS h
    obtain ⟨ts, h2, h⟩ := bindS h
    cases h
    rw [List.map_cons, ← mapK_eq h2]
    unfold keyPr at h1
    split at h1
    · cases h1; rfl
    · cases h1
theorem mapK_map : ∀ (ts : List (Int × Int)), mapK (ts.map fun t => [Sum.inl t.1, Sum.inl t.2]) = some ts
  | [] => rfl
  | t :: ts => by
    rw [List.map_cons]
    show (keyPr _).bind _ = _
    simp only [keyPr, Option.bind_some, mapK_map ts]
theorem KReps.keys {κ : Type} {r : List Addr} {H : Hp} : ∀ {kvs : List (κ × W)} {ks : List (κ × V)}, KReps K r H kvs ks → ks.map (·.1) = kvs.map (·.1)
  | _, _, .nil => rfl
  | _, _, .cons a b => by rw [List.map_cons, List.map_cons, KReps.keys b]
def sortDW : List W → Sto → Option (W × Sto)
  | [.ref n], S => match S[n]? with
    | some (.dT kvs) => (mapK (kvs.map (·.1))).bind fun ts => some (.ref S.length, S ++ [.lst ((srtP ts).map frW)])
    | _ => none
  | _, _ => none
theorem reps_at {r : List Addr} {H : Hp} : ∀ {L : List (Addr × (Int × Int))}, (∀ q ∈ L, H q.1 = some (.tup [.int q.2.1, .int q.2.2])) → Reps K r H ((L.map (·.2)).map frW) (L.map fun q => V.ref q.1)
  | [], _ => .nil
  | q :: L, h => .cons (.tup (h q (List.mem_cons_self ..)) (.cons (.int _) (.cons (.int _) .nil))) (reps_at fun p hp => h p (List.mem_cons_of_mem _ hp))
theorem r_sortD : RnW K rSortDT sortDW := by
  intro r S H xs ws w S' Q s rx e k
  unfold sortDW at e
  split at e
  · split at e
    · rename_i n kvs hn
      obtain ⟨ts, e1, e⟩ := bindS e
      cases e
      cases rx with
      | cons ra rb =>
        cases rb
        cases ra with
        | @ref a _ ha =>
          obtain ⟨ks, h1, h2⟩ := s.obj _ _ _ ha hn
          refine ⟨a, ks, ts, rfl, h1, by rw [h2.keys, mapK_eq e1], fun L p hL pw pm hp => ?_⟩
          have e : L.map (·.2) = srtP ts := strict_uniq pairO pw (srtO_pw pairO ts) fun x => by rw [pm.mem_iff, srtO_mem pairO]
          rw [← e] at k
          exact KR.lst k s (reps_at hL) p hp
    · cases e
  · cases e
def lenDW : List W → Sto → Option (W × Sto)
  | [.ref n], S => match S[n]? with
    | some (.dT kvs) => some (.int (kvs.length : Nat), S)
    | _ => none
  | _, _ => none
theorem r_lenD : RnW K rLenT lenDW := by
  intro r S H xs ws w S' Q s rx e k
  unfold lenDW at e
  split at e
  · split at e
    · rename_i n kvs hn
      cases e
      cases rx with
      | cons ra rb =>
        cases rb
        cases ra with
        | @ref a _ ha =>
          obtain ⟨ks, h1, h2⟩ := s.obj _ _ _ ha hn
          refine ⟨a, ks, rfl, h1, ?_⟩
          rw [h2.len]
          exact KR.now k s (.int _)
    · cases e
  · cases e
end
/-! ### d.get(k, x), d.setdefault(k, x) -/
section
variable {X : Cx} {o e f : Expr} {fo fe ff : Fe} {apos cpos : Pos}
def isDW (S : Sto) : W → Option Unit
  | .ref n => match S[n]? with
    | some (.dT _) => some ()
    | some (.dK _) => some ()
    | _ => none
  | _ => none
theorem isDW_ok {K : PySem.W.Frag} {r : List Addr} {S : Sto} {H : Hp} {w : W} {v : V} (s : Sim K r S H) (h : Rep K r H w v) (e : isDW S w = some ()) : ∃ a, v = .ref a ∧ IsD H a := by
  unfold isDW at e
  split at e
  · split at e
    · rename_i n kvs hn
      cases h with
      | ref ha =>
        obtain ⟨ks, h1, _⟩ := s.obj _ _ _ ha hn
        exact ⟨_, rfl, .inr ⟨ks, .inl h1⟩⟩
    · rename_i n kvs hn
      cases h with
      | ref ha =>
        obtain ⟨ks, h1, _⟩ := s.obj _ _ _ ha hn
        exact ⟨_, rfl, .inl ⟨ks, .inl h1⟩⟩
    · cases e
  · cases e
def eGet2 (fo fe ff : Fe) : Fe := fun e S => (fo e S).bind fun p => (isDW p.2 p.1).bind fun _ => (fe e p.2).bind fun q => (ff e q.2).bind fun z => (dGet z.2 p.1 q.1).bind fun ov => some (ov.getD z.1, z.2)
theorem w_get2 (hu : X.A.units + 1 < cLine) (ho : PE X o (tE X.K fo)) (he : PE X e (tE X.K fe)) (hf : PE X f (tE X.K ff)) (m : M2 X o "get" apos e f cpos) : PE X (.Call (.Attribute o "get" apos) [e, f] [] cpos) (tE X.K (eGet2 fo fe ff)) := by
  refine pe_w (pe_dget2 hu ho he hf m) fun σ H Q q => ?_
  obtain ⟨r, e, S, w, S', at_, hf, k⟩ := q
  obtain ⟨p, h1, hf⟩ := bindS hf
  obtain ⟨_, h2, hf⟩ := bindS hf
  obtain ⟨p2, h3, hf⟩ := bindS hf
  obtain ⟨p3, h4, hf⟩ := bindS hf
  obtain ⟨ov, h5, hf⟩ := bindS hf
  cases hf
  refine ⟨r, e, S, p.1, p.2, at_, h1, fun r1 v1 H1 pr1 s1 k1 rep1 => ?_⟩
  obtain ⟨a, rfl, isd⟩ := isDW_ok s1 rep1 h2
  refine ⟨a, rfl, isd, r1, e, p.2, p2.1, p2.2, at_.up pr1 s1 k1, h3, fun r2 v2 H2 pr2 s2 k2 rep2 => ⟨r2, e, p2.2, p3.1, p3.2, at_.up (pr1.trans pr2) s2 (k1.trans k2), h4, fun r3 v3 H3 pr3 s3 k3 rep3 => ?_⟩⟩
  obtain ⟨a', ov', e1, e2, e3⟩ := dGet_ok s3 (rep1.up (pr2.trans pr3) (k2.trans k3)) (rep2.up pr3 k3) h5
  cases e1
  refine ⟨ov', e2, k r3 _ H3 ((pr1.trans pr2).trans pr3) s3 ((k1.trans k2).trans k3) ?_⟩
  rcases e3 with ⟨q1, q2⟩ | ⟨w3, u, q1, q2, q3⟩
  · rw [q1, q2]; exact rep3
  · rw [q1, q2]; exact q3
/-- d.setdefault(y, z), d keyed by tuples -/
def tDSetT (td ty tx : TE) : TE := fun σ H Q => td σ H fun x H1 => ∃ a, x = .ref a ∧ IsD H1 a ∧ ty σ H1 fun y H2 => tx σ H2 fun z H3 => ∃ (kvs : List (List Key × V)) (k : List Key) (b : Addr), H3 a = some (.dT kvs) ∧ y = .ref b ∧ H3 b = some (.tup (k.map kV)) ∧ kvs.length < sizeLine ∧
  (∀ v, valV kvs k = some v → Q v H3) ∧ (valV kvs k = none → Q z (upd H3 a (.dT (putK kvs k z))))
variable {td ty tx : TE}
theorem pe_dsetT (hu : X.A.units + 1 < cLine) (ho : PE X o td) (he : PE X e ty) (hf : PE X f tx) (m : M2 X o "setdefault" apos e f cpos) : PE X (.Call (.Attribute o "setdefault" apos) [e, f] [] cpos) (tDSetT td ty tx) := by
  refine ⟨fun pins s σ H Q I h => ?_⟩
  refine wpAny_Call_method m.base m.few m.line PySem.F.plainAttrs_dict PySem.F.slot_dict_setdefault PySem.F.type_dict_setdefault (thn (ho.run pins s σ H _ I h) fun u s1 ⟨x, H1, I1, rx, a, ex, d, q1⟩ => ?_)
  subst ex
  obtain rfl : u = Value.ref a := rx
  obtain ⟨t1, t2, _⟩ := isD_at I1 d
  refine ⟨t1, t2, ?_⟩
  rw [m.trees]
  refine Calls.callWith_builtin rfl (Calls.evalArgs_plain (Calls.spliced_cons (thn (he.run pins s1 σ H1 _ I1 q1) fun iv s2 ⟨y, H2, I2, ry, q2⟩ => Calls.spliced_cons (thn (hf.run pins s2 σ H2 _ I2 q2) fun fv s3 ⟨z, H3, I3, rz, kvs, k, b, ea, ey, eb, hl, q3, q4⟩ => Calls.spliced_nil ?_))))
  subst ey
  obtain rfl : iv = Value.ref b := ry
  obtain ⟨hz, hd, xs, rel, dd⟩ := dt_of I3.hok ea
  have vl := KT.val rel k
  refine call_setdefault_heap (hsz := by rw [← Paired.length rel]; exact hz) (tupleKind_room_in1 hu) (key_of I3.hok eb) hd dd (fun p hp => ?_) fun hn h' dd' hs => ?_
  · rw [hp] at vl
    cases q0 : valV kvs k with
    | none => rw [q0] at vl; exact (show False from vl).elim
    | some v0 => rw [q0] at vl; exact ⟨v0, H3, I3.tok _, vl, q3 v0 q0⟩
  · rw [hn] at vl
    cases q0 : valV kvs k with
    | some v0 => rw [q0] at vl; exact (show False from vl).elim
    | none =>
      have hl2 : (putK kvs k z).length ≤ sizeLine := by have := length_putK kvs k z; omega
      obtain ⟨q, es, ep, hq, h2, h3, h4, _, h5⟩ := dd'
      refine ⟨z, upd H3 a (.dT (putK kvs k z)), d_write I3 (by rw [ea]; exact True.intro) hs ⟨q, hq⟩ ⟨hl2, hd, _, (rel.put k eb rz).keeps fun c ys ec => ?_, q, es, ep, hq, h2, h3, h4, h5⟩, rz, q4 q0⟩
      rw [upd_ne (ne_of ec ea (fun z => nomatch z))]
      exact ec
def eSetd (fo fe ff : Fe) : Fe := fun e S => (fo e S).bind fun p => (isDW p.2 p.1).bind fun _ => (fe e p.2).bind fun q => (ff e q.2).bind fun z => match p.1, q.1 with
  | .ref n, .tup ws => match z.2[n]? with
    | some (.dT kvs) => (mapO keyOf ws).bind fun ks => if kvs.length < sizeLine then (match valW kvs ks with
      | some v => some (v, z.2)
      | none => some (z.1, z.2.set n (.dT (putW kvs ks z.1)))) else none
    | _ => none
  | _, _ => none
theorem w_setd (hu : X.A.units + 1 < cLine) (ho : PE X o (tE X.K fo)) (he : PE X e (tE X.K fe)) (hf : PE X f (tE X.K ff)) (m : M2 X o "setdefault" apos e f cpos) : PE X (.Call (.Attribute o "setdefault" apos) [e, f] [] cpos) (tE X.K (eSetd fo fe ff)) := by
  refine pe_w (pe_dsetT hu ho he hf m) fun σ H Q q => ?_
  obtain ⟨r, e, S, w, S', at_, hf, k⟩ := q
  obtain ⟨p, h1, hf⟩ := bindS hf
  obtain ⟨_, h2, hf⟩ := bindS hf
  obtain ⟨p2, h3, hf⟩ := bindS hf
  obtain ⟨p3, h4, hf⟩ := bindS hf
  refine ⟨r, e, S, p.1, p.2, at_, h1, fun r1 v1 H1 pr1 s1 k1 rep1 => ?_⟩
  obtain ⟨a, rfl, isd⟩ := isDW_ok s1 rep1 h2
  refine ⟨a, rfl, isd, r1, e, p.2, p2.1, p2.2, at_.up pr1 s1 k1, h3, fun r2 v2 H2 pr2 s2 k2 rep2 => ⟨r2, e, p2.2, p3.1, p3.2, at_.up (pr1.trans pr2) s2 (k1.trans k2), h4, fun r3 v3 H3 pr3 s3 k3 rep3 => ?_⟩⟩
  have pA := (pr1.trans pr2).trans pr3
  have kA := (k1.trans k2).trans k3
  split at hf
  · rename_i n ws en ew
    split at hf
    · rename_i kvs hn
      obtain ⟨kk, h5, hf⟩ := bindS hf
      split at hf
      · rename_i hl
        rw [en] at rep1
        rw [ew] at rep2
        have rp1 := rep1.up (pr2.trans pr3) (k2.trans k3)
        cases rp1 with
        | ref ha =>
          obtain ⟨ks, g1, g2⟩ := s3.obj _ _ _ ha hn
          obtain ⟨b, ys, rfl, hb, hy⟩ := (rep2.up pr3 k3).tupH
          have := keys_rep hy h5
          subst this
          refine ⟨ks, kk, b, g1, rfl, hb, by rw [g2.len]; exact hl, fun v hv => ?_, fun hv => ?_⟩
          · rcases g2.val kk with ⟨q1, q2⟩ | ⟨w', v', q1, q2, q3⟩
            · rw [hv] at q2; cases q2
            · rw [hv] at q2; cases q2
              rw [q1] at hf
              cases hf
              exact k r3 v H3 pA s3 kA q3
          · rcases g2.val kk with ⟨q1, q2⟩ | ⟨w', v', q1, q2, q3⟩
            · rw [q1] at hf
              cases hf
              have m := Kp.mut (K := X.K) (o := .dT (putK ks kk v3)) (s3.mut ha)
              exact k r3 v3 _ pA (s3.set ha ⟨_, upd_same, (g2.put rep3).up Pre.refl m⟩) (kA.trans m) (rep3.up Pre.refl m)
            · rw [hv] at q2; cases q2
      · cases hf
    · cases hf
  · cases hf
end
/-! ### dicts keyed by pairs of pairs of ints -/
section
variable {X : Cx} {pos : Pos} {a b : Expr} {f g : Fe}
theorem nk_hash (p : (Int × Int) × (Int × Int)) (w w' : World) : (nk p).hash w = (nk p).hash w' := by
  simp only [nk, NestedKey.hash, NestedKey.hashes]
theorem nd_of {P : Program} {w : World} {H : Hp} {h : Heap} {a : Addr} {xs : List (((Int × Int) × (Int × Int)) × Addr)} (ok : HOk P w H h) (ha : H a = some (.ext (ndP a xs))) (hk : ∀ x ∈ xs, NdKey H x.1 x.2) : (a == sysModules) = false ∧ xs.length ≤ sizeLine ∧ h.DictOfH (nestedKind P w) a (xs.map fun x => (nk x.1, x.2, Value.bool true)) := by
  obtain ⟨⟨w0, o, es, ep, h1, h2, h3, h4, h5, h6, h7⟩, _⟩ := ok a _ ha
  refine ⟨h6, h7, o, es, ep, h1, h2, h3, ?_, fun y hy => ?_, ?_⟩
  · rw [h4, List.map_map]
    apply List.map_congr_left
    intro x _
    simp only [Function.comp, entryOfKey]
    rw [nk_hash x.1 w0 w]
    rfl
  · obtain ⟨x, hx, rfl⟩ := List.mem_map.mp hy
    obtain ⟨b1, b2, g1, g2, g3⟩ := hk x hx
    obtain ⟨_, its, r, o1, q1, q2, n, q3⟩ := (show ObjOk P w H h _ (.tup _) from ok _ _ g1)
    obtain ⟨_, its2, r2, o2, p1, p2, n2, p3⟩ := (show ObjOk P w H h _ (.tup _) from ok _ _ g2)
    obtain ⟨_, its3, r3, o3, s1, s2, n3, s3⟩ := (show ObjOk P w H h _ (.tup _) from ok _ _ g3)
    obtain ⟨u1, u2, rfl, ri, rj⟩ := vals2 r
    obtain rfl : u1 = Value.ref b1 := ri
    obtain rfl : u2 = Value.ref b2 := rj
    obtain ⟨v1, v2, rfl, ri, rj⟩ := vals2 r2
    obtain ⟨t1, rfl⟩ := ri
    obtain ⟨t2, rfl⟩ := rj
    obtain ⟨v3, v4, rfl, ri, rj⟩ := vals2 r3
    obtain ⟨t3, rfl⟩ := ri
    obtain ⟨t4, rfl⟩ := rj
    refine ⟨.tup q1 q2 q3 ?_, by simp only [nk, NestedKey.depth, NestedKey.depthAll]; decide⟩
    exact .cons (.tup p1 p2 p3 (.cons (.int _ _) (.cons (.int _ _) .nil))) (.cons (.tup s1 s2 s3 (.cons (.int _ _) (.cons (.int _ _) .nil))) .nil)
  · rw [List.map_map]
    have : (fun x : NestedKey × Addr × Value => x.1) ∘ (fun x : ((Int × Int) × (Int × Int)) × Addr => (nk x.1, x.2, Value.bool true)) = nk ∘ (·.1) := rfl
    rw [this, ← List.map_map]
    refine List.Pairwise.map _ (fun p q hpq e => hpq ?_) h5
    obtain ⟨⟨a, b⟩, c, d⟩ := p
    obtain ⟨⟨a', b'⟩, c', d'⟩ := q
    simp only [nk, NestedKey.tup.injEq, List.cons.injEq, NestedKey.num.injEq, and_true] at e
    obtain ⟨⟨rfl, rfl⟩, rfl, rfl⟩ := e
    rfl
theorem nd_new {P : Program} {w : World} {H' : Hp} {h' : Heap} {a : Addr} {xs : List (((Int × Int) × (Int × Int)) × Addr)} (lo : (a == sysModules) = false) (hl : xs.length ≤ sizeLine) (dd : h'.DictOfH (nestedKind P w) a (xs.map fun x => (nk x.1, x.2, Value.bool true))) : ObjOk P w H' h' a (.ext (ndP a xs)) := by
  obtain ⟨o, es, ep, h1, h2, h3, h4, _, h5⟩ := dd
  refine ⟨⟨w, o, es, ep, h1, h2, h3, ?_, ?_, lo, hl⟩, ⟨o, h1⟩, fun g1 g2 ⟨w0, o0, es0, ep0, q1, q2⟩ kp => ⟨w0, o0, es0, ep0, kp _ q1, q2⟩⟩
  · rw [h4, List.map_map]
    rfl
  · rw [List.map_map] at h5
    have e : (fun x : NestedKey × Addr × Value => x.1) ∘ (fun x : ((Int × Int) × (Int × Int)) × Addr => (nk x.1, x.2, Value.bool true)) = nk ∘ (·.1) := rfl
    rw [e, ← List.map_map] at h5
    exact List.Pairwise.of_map nk (fun p q h e => h (by rw [e])) h5
def eNewN : Fe := fun _ S => some (.ref S.length, S ++ [.nd []])
theorem w_newN : PE X (.Dict [] [] pos) (tE X.K eNewN) := by
  have h : PE X (.Dict [] [] pos) (fun σ H Q => ∀ p, H p = none → Q (.ref p) (upd H p (.ext (ndP p [])))) := ⟨fun pins s σ H Q I h => by
    have lo : (s.heap.objs.size == sysModules) = false := (dt_empty (P := X.prog) (w := X.w) (H := H) s.heap I.big).2.1
    exact wpAny_Dict_empty ⟨.ref s.heap.objs.size, _, I.laid (a := s.heap.objs.size) (o := .ext (ndP s.heap.objs.size [])) (t' := s.toks) (fun _ _ q => Heap.get?_push_of_some _ q) (Nat.le_refl _) (nd_new lo (Nat.zero_le _) (Heap.DictOfH.new s.heap)), rfl, h _ (I.hok.fresh (Nat.le_refl _))⟩⟩
  refine pe_w h fun σ H Q q => ?_
  obtain ⟨r, e, S, w, S', at_, hf, k⟩ := q
  cases hf
  intro p hp
  exact k (r ++ [p]) _ _ Pre.app (at_.sim.new hp ⟨[], upd_same, rfl, by simp⟩) (Kp.new hp) (.ref (Pre.last at_.sim))
def ppOf : W → Option ((Int × Int) × (Int × Int))
  | .tup [.tup [.int a, .int b], .tup [.int c, .int d]] => some ((a, b), (c, d))
  | _ => none
/-- a key put among the others -/
def putN (ks : List ((Int × Int) × (Int × Int))) (p : (Int × Int) × (Int × Int)) : List ((Int × Int) × (Int × Int)) := if p ∈ ks then ks else ks ++ [p]
def setNW (o i v : W) (S : Sto) : Option Sto := match o, v with
  | .ref n, .bl true => match S[n]? with
    | some (.nd ks) => (ppOf i).bind fun p => if ks.length < sizeLine then some (S.set n (.nd (putN ks p))) else none
    | _ => none
  | _, _ => none
def putX (xs : List (((Int × Int) × (Int × Int)) × Addr)) (p : (Int × Int) × (Int × Int)) (b : Addr) : List (((Int × Int) × (Int × Int)) × Addr) := if p ∈ xs.map (·.1) then xs else xs ++ [(p, b)]
def rSetN : TSet := fun o i v H Q => ∃ a b xs p, o = .ref a ∧ i = .ref b ∧ v = .bl true ∧ H a = some (.ext (ndP a xs)) ∧ (∀ x ∈ xs, NdKey H x.1 x.2) ∧ NdKey H p b ∧ xs.length < sizeLine ∧ Q (upd H a (.ext (ndP a (putX xs p b))))
theorem nk_inj {p q : (Int × Int) × (Int × Int)} (e : nk p = nk q) : p = q := by
  obtain ⟨⟨a, b⟩, c, d⟩ := p
  obtain ⟨⟨a', b'⟩, c', d'⟩ := q
  simp only [nk, NestedKey.tup.injEq, List.cons.injEq, NestedKey.num.injEq, and_true] at e
  obtain ⟨⟨rfl, rfl⟩, rfl, rfl⟩ := e
  rfl
theorem nd_at (xs : List (((Int × Int) × (Int × Int)) × Addr)) (p : (Int × Int) × (Int × Int)) : (atKey (xs.map fun x => (nk x.1, x.2, Value.bool true)) (nk p)).isSome = decide (p ∈ xs.map (·.1)) := by
  induction xs with
  | nil => rfl
  | cons x xs ih =>
    unfold atKey at ih ⊢
    rw [List.map_cons, List.map_cons]
    by_cases e : x.1 = p
    · rw [List.find?_cons_of_pos (by simp [e])]
      simp [e]
    · have e' : ¬ nk x.1 = nk p := fun z => e (nk_inj z)
      rw [List.find?_cons_of_neg (by simpa using e'), ih]
      have : ¬ p = x.1 := fun z => e z.symm
      simp [this]
theorem nd_stored (xs : List (((Int × Int) × (Int × Int)) × Addr)) (p : (Int × Int) × (Int × Int)) (b : Addr) : storedH (xs.map fun x => (nk x.1, x.2, Value.bool true)) (nk p) b (.bool true) = (putX xs p b).map fun x => (nk x.1, x.2, Value.bool true) := by
  unfold storedH putX
  rw [nd_at]
  by_cases e : p ∈ xs.map (·.1)
  · rw [if_pos (by simpa using e), if_pos e, List.map_map]
    apply List.map_congr_left
    intro x _
    simp only [Function.comp, putAt]
    split <;> rfl
  · rw [if_neg (by simpa using e), if_neg e, List.map_append]
    rfl
theorem NdKey.is {P : Program} {w : World} {H : Hp} {h : Heap} {p : (Int × Int) × (Int × Int)} {b : Addr} (ok : HOk P w H h) (k : NdKey H p b) : (nestedKind P w).is h (nk p) b := by
  obtain ⟨b1, b2, g1, g2, g3⟩ := k
  obtain ⟨_, its, r, o1, q1, q2, n, q3⟩ := (show ObjOk P w H h _ (.tup _) from ok _ _ g1)
  obtain ⟨_, its2, r2, o2, p1, p2, n2, p3⟩ := (show ObjOk P w H h _ (.tup _) from ok _ _ g2)
  obtain ⟨_, its3, r3, o3, s1, s2, n3, s3⟩ := (show ObjOk P w H h _ (.tup _) from ok _ _ g3)
  obtain ⟨u1, u2, rfl, ri, rj⟩ := vals2 r
  obtain rfl : u1 = Value.ref b1 := ri
  obtain rfl : u2 = Value.ref b2 := rj
  obtain ⟨v1, v2, rfl, ri, rj⟩ := vals2 r2
  obtain ⟨t1, rfl⟩ := ri
  obtain ⟨t2, rfl⟩ := rj
  obtain ⟨v3, v4, rfl, ri, rj⟩ := vals2 r3
  obtain ⟨t3, rfl⟩ := ri
  obtain ⟨t4, rfl⟩ := rj
  refine ⟨.tup q1 q2 q3 ?_, by simp only [nk, NestedKey.depth, NestedKey.depthAll]; decide⟩
  exact .cons (.tup p1 p2 p3 (.cons (.int _ _) (.cons (.int _ _) .nil))) (.cons (.tup s1 s2 s3 (.cons (.int _ _) (.cons (.int _ _) .nil))) .nil)
theorem set_nd (hu : X.A.units + 65 < cLine) : PSet X rSetN := by
  intro pins s σ H o i v ov iv u Q I ro ri rv h
  obtain ⟨a, b, xs, p, rfl, rfl, rfl, ha, hk, hb, hl, q⟩ := h
  obtain rfl : ov = Value.ref a := ro
  obtain rfl : iv = Value.ref b := ri
  obtain rfl : u = Value.bool true := rv
  obtain ⟨lo, hz, dd⟩ := nd_of I.hok ha hk
  refine wpAny_setItem_heap (knd := nestedKind X.prog X.w) (hsz := by rw [List.length_map]; exact hz) (show X.A.in1.units + 8 < cLine by have : X.A.in1.units = X.A.units + 1 := rfl; omega) (hb.is I.hok) dd fun h' dd' hs => ?_
  rw [nd_stored] at dd'
  have pl : (putX xs p b).length ≤ sizeLine := by
    unfold putX
    split
    · exact hz
    · simp only [List.length_append, List.length_cons, List.length_nil]; omega
  have he : ∃ q, h'.get? a = some q := let ⟨q, _, _, hq, _⟩ := dd'; ⟨q, hq⟩
  exact ⟨_, d_write I (by rw [ha]; exact True.intro) hs he (nd_new lo pl dd'), q⟩
theorem pp_rep {K : PySem.W.Frag} {r : List Addr} {H : Hp} {w : W} {v : V} {p : (Int × Int) × (Int × Int)} (h : Rep K r H w v) (e : ppOf w = some p) : ∃ b, v = .ref b ∧ NdKey H p b := by
  unfold ppOf at e
  split at e
  · cases e
    obtain ⟨b, ys, rfl, hb, hy⟩ := h.tupH
    cases hy with
    | cons r1 r2 =>
      cases r2 with
      | cons r2 r3 =>
        cases r3
        obtain ⟨b1, z1, rfl, hb1, hz1⟩ := r1.tupH
        obtain ⟨b2, z2, rfl, hb2, hz2⟩ := r2.tupH
        cases hz1 with
        | cons c1 c2 =>
          cases c1
          cases c2 with
          | cons c1 c2 =>
            cases c1
            cases c2
            cases hz2 with
            | cons d1 d2 =>
              cases d1
              cases d2 with
              | cons d1 d2 =>
                cases d1
                cases d2
                exact ⟨b, rfl, b1, b2, hb, hb1, hb2⟩
  · cases e
theorem r_setN {K : PySem.W.Frag} : RsW K rSetN setNW := by
  intro r S H x y z wx wy wz S' Q s rx ry rz e k
  unfold setNW at e
  split at e
  · rename_i n
    split at e
    · rename_i ks hn
      obtain ⟨p, e1, e⟩ := bindS e
      split at e
      · rename_i hl
        cases e
        cases rx with
        | @ref a _ ha =>
          cases rz
          obtain ⟨xs, h1, h2, h3⟩ := s.obj _ _ _ ha hn
          obtain ⟨b, rfl, hb⟩ := pp_rep ry e1
          have lx : xs.length = ks.length := by rw [← h2, List.length_map]
          have m := Kp.mut (K := K) (o := .ext (ndP a (putX xs p b))) (s.mut ha)
          refine ⟨a, b, xs, p, rfl, rfl, rfl, h1, h3, hb, by omega, k r _ Pre.refl (s.set ha ⟨_, upd_same, ?_, fun x hx => ?_⟩) m⟩
          · unfold putX putN
            rw [h2]
            split
            · exact h2
            · rw [List.map_append, h2]; rfl
          · unfold putX at hx
            split at hx
            · exact (h3 x hx).up m
            · rcases List.mem_append.mp hx with hx | hx
              · exact (h3 x hx).up m
              · rw [List.mem_singleton.mp hx]; exact hb.up m
      · cases e
    · cases e
  · cases e
def lenNW : List W → Sto → Option (W × Sto)
  | [.ref n], S => match S[n]? with
    | some (.nd ks) => some (.int (ks.length : Nat), S)
    | _ => none
  | _, _ => none
def rLenN : List V → Hp → VK → Prop := fun vs H Q => ∃ a xs, vs = [V.ref a] ∧ H a = some (.ext (ndP a xs)) ∧ (∀ x ∈ xs, NdKey H x.1 x.2) ∧ Q (.int ((xs.length : Nat) : Int)) H
theorem call_lenN : CallR X (.builtin "len") rLenN := by
  intro pins s σ H vs us Q I r h
  obtain ⟨a, xs, rfl, ha, hk, q⟩ := h
  rw [Vals.ref1 r]
  obtain ⟨lo, hz, dd⟩ := nd_of I.hok ha hk
  refine call_len_dictH lo dd (by rw [List.length_map]; rw [sizeLine_eq] at hz; omega) ?_
  rw [List.length_map]
  exact ⟨.int ((xs.length : Nat) : Int), H, I.tok _, ⟨_, rfl⟩, q⟩
theorem r_lenN {K : PySem.W.Frag} : RnW K rLenN lenNW := by
  intro r S H xs ws w S' Q s rx e k
  unfold lenNW at e
  split at e
  · split at e
    · rename_i n kvs hn
      cases e
      cases rx with
      | cons ra rb =>
        cases rb
        cases ra with
        | @ref a _ ha =>
          obtain ⟨ys, h1, h2, h3⟩ := s.obj _ _ _ ha hn
          refine ⟨a, ys, rfl, h1, h3, ?_⟩
          rw [show ys.length = kvs.length by rw [← h2, List.length_map]]
          exact KR.now k s (.int _)
    · cases e
  · cases e
end
end Bp

/-! Pg12: visited. -/
namespace Bp
set_option autoImplicit false
open PySem L2
/-- visited(run); slots 0:run 1:number 2:unit 3:whole 4:found 5:across 6:along -/
noncomputable def b_visited : Fs := sSeq (sDrop (eCall G_need_run (aCons (eVar 0) (aNil)))) (sSeq (sPar3 2 3 4 (aCons (eCall G_common_of (aCons (eOp ixW (eVar 0) (eC (.int 4))) (aCons (eOp ixW (eVar 0) (eC (.int 5))) (aNil)))) (aCons (eCall G_period_of (aCons (eVar 0) (aNil))) (aCons (eNewT) (aNil))))) (sSeq (sFor (iRange1 (aCons (eOp fdivW (eOp mulW (eOp ixW (eVar 3) (eC (.int 0))) (eVar 2)) (eOp ixW (eVar 3) (eC (.int 1)))) (aNil))) (gN 1) (sSeq (sAsg (eCall G_place_at (aCons (eVar 0) (aCons (eTup (aCons (eVar 1) (aCons (eVar 2) (aNil)))) (aNil)))) (gTupW 2 (gsCons (gN 5) (gsCons (gN 6) (gsNil))))) (sAsg (eC (.bl true)) (gSubW (eVar 4) (eTup (aCons (eOp ixW (eVar 5) (eC (.int 0))) (aCons (eOp ixW (eVar 6) (eC (.int 0))) (aNil)))) setDW)))) (sRet (eCall sortDW (aCons (eVar 4) (aNil))))))
/-- the common part of both speeds -/
def RunD.g (r : RunD) : Int := (Int.gcd r.a r.b : Nat)
/-- the whole place after n parts of time, by that unit -/
def RunD.vpl (r : RunD) (n : Nat) : Int × Int := (foldI (r.x + r.a / r.g * (n : Int)) r.w, foldI (r.y + r.b / r.g * (n : Int)) r.h)
def RunD.vN (r : RunD) : Nat := ((Bp.per r.w r.h r.a r.b).1 * r.g / (Bp.per r.w r.h r.a r.b).2).toNat
def RunD.vis (r : RunD) : List (Int × Int) := srtP ((List.range r.vN).map r.vpl)
def G_visited : Fn
  | [.tup [.int w, .int h, .int x, .int y, .int a, .int b]], S => if okRun w h x y a b then some (.ref S.length, S ++ [.lst ((RunD.vis ⟨w, h, x, y, a, b⟩).map fr)]) else none
  | _, _ => none
/-- keys of pairs, all values True -/
def kvP (ts : List (Int × Int)) : List (List Key × W) := ts.map fun t => ([.inl t.1, .inl t.2], .bl true)
def putP (ts : List (Int × Int)) (t : Int × Int) : List (Int × Int) := if t ∈ ts then ts else ts ++ [t]
theorem putW_kvP (ts : List (Int × Int)) (t : Int × Int) : putW (kvP ts) [.inl t.1, .inl t.2] (.bl true) = kvP (putP ts t) := by
  have inj : ∀ s : Int × Int, ([Sum.inl s.1, Sum.inl s.2] : List Key) = [Sum.inl t.1, Sum.inl t.2] ↔ s = t := fun s => by
    constructor
    · intro e
      simp only [List.cons.injEq, Sum.inl.injEq, and_true] at e
      exact Prod.ext e.1 e.2
    · rintro rfl; rfl
  have any : ((kvP ts).any fun kv => decide (kv.1 = [Sum.inl t.1, Sum.inl t.2])) = decide (t ∈ ts) := by
    unfold kvP
    induction ts with
    | nil => rfl
    | cons s ts ih =>
      rw [List.map_cons, List.any_cons, ih]
      by_cases e : s = t
      · simp [e]
      · have e' : ¬ t = s := fun z => e z.symm
        have : ¬ ([Sum.inl s.1, Sum.inl s.2] : List Key) = [Sum.inl t.1, Sum.inl t.2] := fun z => e ((inj s).mp z)
        simp only [this, decide_false, Bool.false_or, List.mem_cons, e', false_or]
  unfold putW putP
  rw [any]
  by_cases e : t ∈ ts
  · rw [if_pos (by simpa using e), if_pos e]
    unfold kvP
    rw [List.map_map]
    apply List.map_congr_left
    intro s _
    simp only [Function.comp]
    split <;> rfl
  · rw [if_neg (by simpa using e), if_neg e]
    unfold kvP
    rw [List.map_append]
    rfl
theorem kvP_len (ts : List (Int × Int)) : (kvP ts).length = ts.length := by simp [kvP]
theorem putP_len (ts : List (Int × Int)) (t : Int × Int) : (putP ts t).length ≤ ts.length + 1 := by
  unfold putP; split
  · omega
  · simp
theorem putP_mem (ts : List (Int × Int)) (t s : Int × Int) : s ∈ putP ts t ↔ s = t ∨ s ∈ ts := by
  unfold putP
  split
  · rename_i h
    constructor
    · exact .inr
    · rintro (rfl | h')
      · exact h
      · exact h'
  · simp only [List.mem_append, List.mem_singleton]
    constructor
    · rintro (h | h) <;> simp [h]
    · rintro (h | h) <;> simp [h]
theorem g_pos {r : RunD} (ok : r.Ok) : 0 < r.g ∧ r.g ≤ 6 ∧ r.g ∣ r.a ∧ r.g ∣ r.b := by
  obtain ⟨h1, h2, h3, h4, h5, h6, h7⟩ : okRun r.w r.h r.x r.y r.a r.b := ok
  have p : 0 < Int.gcd r.a r.b := Nat.pos_of_ne_zero fun z => h7 (Int.gcd_eq_zero_iff.mp z)
  refine ⟨by unfold RunD.g; omega, ?_, Int.gcd_dvd_left .., Int.gcd_dvd_right ..⟩
  unfold RunD.g
  by_cases ha : r.a = 0
  · have : Int.gcd r.a r.b ≤ r.b.natAbs := Nat.gcd_le_right _ (by omega)
    omega
  · have : Int.gcd r.a r.b ≤ r.a.natAbs := Nat.gcd_le_left _ (by omega)
    omega
theorem plc_g {w x a g : Int} (hw : 0 < w) (hg : 0 < g) (hd : g ∣ a) (n : Nat) : plc w x a ((n : Int), g) = (foldI (x + a / g * (n : Int)) w, 1) := by
  unfold plc
  simp only
  obtain ⟨c, rfl⟩ := hd
  rw [Int.mul_ediv_cancel_left _ (by omega), show x * g + g * c * (n : Int) = g * (x + c * (n : Int)) by grind, Int.mul_comm w g, foldI_scale hg]
  exact (low_is hg).mpr (by rw [Int.mul_comm])
def vsI : Fs := (sSeq (sAsg (eCall G_place_at (aCons (eVar 0) (aCons (eTup (aCons (eVar 1) (aCons (eVar 2) (aNil)))) (aNil)))) (gTupW 2 (gsCons (gN 5) (gsCons (gN 6) (gsNil))))) (sAsg (eC (.bl true)) (gSubW (eVar 4) (eTup (aCons (eOp ixW (eVar 5) (eC (.int 0))) (aCons (eOp ixW (eVar 6) (eC (.int 0))) (aNil)))) setDW)))
theorem vs_loop (r : RunD) (ok : r.Ok) (S : Sto) (W3 : W) (chk : Sto → Prop) (hk : ∀ S, chk S) : ∀ (ns : List Nat) (ts : List (Int × Int)) (e1 e5 e6 : Option W), ts.length + ns.length < 100000 → ∃ ts' e1' e5' e6', forF (gN 1) vsI chk (ns.map fun n => W.int (n : Nat)) [some r.W, e1, some (.int r.g), some W3, some (.ref S.length), e5, e6] (S ++ [.dT (kvP ts)]) = some (.next [some r.W, e1', some (.int r.g), some W3, some (.ref S.length), e5', e6'], S ++ [.dT (kvP ts')]) ∧ ∀ t, t ∈ ts' ↔ t ∈ ts ∨ ∃ n ∈ ns, t = r.vpl n
  | [], ts, e1, e5, e6, _ => ⟨ts, e1, e5, e6, by rw [List.map_nil, forF_nil, if_pos (hk _)], by simp⟩
  | n :: ns, ts, e1, e5, e6, hl => by
    simp only [List.length_cons] at hl
    have pl := putP_len ts (r.vpl n)
    obtain ⟨ts', f1, f5, f6, h1, h2⟩ := vs_loop r ok S W3 chk hk ns (putP ts (r.vpl n)) (some (.int (n : Nat))) (some (fr ((r.vpl n).1, 1))) (some (fr ((r.vpl n).2, 1))) (by omega)
    refine ⟨ts', f1, f5, f6, ?_, fun t => ?_⟩
    · rw [List.map_cons, forF_cons, if_pos (hk _)]
      have g : gN 1 (.int (n : Nat)) [some r.W, e1, some (.int r.g), some W3, some (.ref S.length), e5, e6] (S ++ [.dT (kvP ts)]) = some ([some r.W, some (.int (n : Nat)), some (.int r.g), some W3, some (.ref S.length), e5, e6], S ++ [.dT (kvP ts)]) := rfl
      rw [g]
      simp only [Option.bind_some]
      have bd : vsI [some r.W, some (.int (n : Nat)), some (.int r.g), some W3, some (.ref S.length), e5, e6] (S ++ [.dT (kvP ts)]) = some (.next [some r.W, some (.int (n : Nat)), some (.int r.g), some W3, some (.ref S.length), some (fr ((r.vpl n).1, 1)), some (fr ((r.vpl n).2, 1))], S ++ [.dT (kvP (putP ts (r.vpl n)))]) := by
        obtain ⟨g1, g2, g3, g4⟩ := g_pos ok
        have ok' : okRun r.w r.h r.x r.y r.a r.b := ok
        have bx : okBox r.w r.h r.x r.y r.a r.b := okRun.box ok'
        obtain ⟨h1, h2, _⟩ := ok'
        have b2 : r.g.natAbs < big := big_lt (by omega)
        have PA : ∀ S, G_place_at [r.W, .tup [.int (n : Nat), .int r.g]] S = some (.tup [fr ((r.vpl n).1, 1), fr ((r.vpl n).2, 1)], S) := fun S => by
          simp only [G_place_at, RunD.W, bx, g1, b2, and_self, if_true, plc_g (show 0 < r.w by omega) g1 g3, plc_g (show 0 < r.h by omega) g1 g4, RunD.vpl]
        have lz : (kvP ts).length < sizeLine := by rw [kvP_len]; exact Nat.lt_trans (show ts.length < 100000 by omega) (by decide)
        rw [← putW_kvP]
        generalize kvP ts = kv at *
        unfold vsI
        clear h1 h2 g1 g2 g3 g4 bx
        simp only [fnB, en, List.map_cons, List.map_nil, List.length_cons, List.length_nil, List.replicate_succ, List.replicate_zero, List.cons_append, List.nil_append, List.append_nil, List.getElem?_cons_zero, List.getElem?_cons_succ, List.set_cons_zero, List.set_cons_succ,  Nat.zero_add, Nat.reduceAdd, Nat.reduceSub, Nat.sub_self, Nat.reduceEqDiff,  eVar, eC, eOp, eUn, aNil, aCons, eTup, eLst, eCall, eIf, eAnd, eOr, eNot, tVal, tAndW, tOrW, tNotW, eChain, sNext, sBrk, sCnt, sNever, sSeq, sRet, sRetN, sDrop, sIf, sAsg, sPar, sPar3, gN, gsNil, gsCons, gTupW, Option.bind_some, Option.bind_none,  s0, s1, s2, s3, s4, s6, subW, ltW, leW, gtW, geW, iop0, iop, modW, fdivW, powW, addW, mulW, negW, isi_int_int, isi_int_bool, isi_bl_int, isi_bl_bool, isi_non_int, isi_str_int, isi_tup_int, isi_tup_tup, eq_int, ne_int, len_p, len_6, len_l1, decide_true, decide_false, Int.reduceEq, Int.reduceNeg, absW, minW, ix_p0, ix_p1, ix_r0, ix_r1, ix_r2, ix_r3, ix_r4, ix_r5, if_true, if_false, ite_true, ite_false, Bool.not_true, Bool.not_false, Bool.false_eq_true, reduceIte, ↓reduceIte, gSubW, setDW, get_last, set_last, mapO, keyOf, ne_eq, not_false_eq_true, and_self, and_false, false_and, true_and, and_true, *]
      rw [bd]
      exact h1
    · rw [h2, putP_mem]
      constructor
      · rintro ((h | h) | ⟨m, h, e⟩)
        · exact .inr ⟨n, List.mem_cons_self .., h⟩
        · exact .inl h
        · exact .inr ⟨m, List.mem_cons_of_mem _ h, e⟩
      · rintro (h | ⟨m, h, e⟩)
        · exact .inl (.inr h)
        · rcases List.mem_cons.mp h with rfl | h
          · exact .inl (.inl e)
          · exact .inr ⟨m, h, e⟩
theorem vN_bd {r : RunD} (ok : r.Ok) : 0 ≤ (Bp.per r.w r.h r.a r.b).1 * r.g / (Bp.per r.w r.h r.a r.b).2 ∧ (Bp.per r.w r.h r.a r.b).1 * r.g / (Bp.per r.w r.h r.a r.b).2 ≤ 3456 := by
  have ok' : okRun r.w r.h r.x r.y r.a r.b := ok
  obtain ⟨p1, p2, _, _⟩ := per_mul ok'
  obtain ⟨b1, b2⟩ := per_le ok'
  obtain ⟨g1, g2, _⟩ := g_pos ok
  have m : (Bp.per r.w r.h r.a r.b).1 * r.g ≤ 576 * 6 := Int.mul_le_mul b1 g2 (by omega) (by omega)
  have m0 : 0 ≤ (Bp.per r.w r.h r.a r.b).1 * r.g := Int.mul_nonneg (by omega) (by omega)
  exact ⟨Int.ediv_nonneg m0 (by omega), Int.le_trans (Int.ediv_le_self _ m0) (by omega)⟩
theorem t_visited : Tells 7 b_visited G_visited := by
  intro ws S r hh
  unfold G_visited at hh
  split at hh
  · split at hh
    · rename_i w h x y a b k1
      cases hh
      have ok : RunD.Ok ⟨w, h, x, y, a, b⟩ := k1
      have N1 : ∀ S, G_need_run [.tup [.int w, .int h, .int x, .int y, .int a, .int b]] S = some (.non, S) := fun S => by simp only [G_need_run, k1, if_true]
      have PE : ∀ S, G_period_of [.tup [.int w, .int h, .int x, .int y, .int a, .int b]] S = some (fr (per w h a b), S) := fun S => by simp only [G_period_of, k1, if_true]
      obtain ⟨g1, g2, g3, g4⟩ := g_pos ok
      obtain ⟨p1, p2, _, _⟩ := per_mul k1
      obtain ⟨b1, b2⟩ := per_le k1
      obtain ⟨v1, v2⟩ := vN_bd ok
      simp only at v1 v2
      have CO : ∀ S, G_common_of [.int a, .int b] S = some (.int (RunD.g ⟨w, h, x, y, a, b⟩), S) := fun S => by
        have : b.natAbs < big := big_lt (by have := k1.2.2.2.2.2.1; omega)
        simp only [G_common_of, this, if_true]
        rfl
      generalize hg : RunD.g ⟨w, h, x, y, a, b⟩ = g at *
      obtain ⟨ts, e1, e5, e6, hl, hm⟩ := vs_loop ⟨w, h, x, y, a, b⟩ ok S (fr (per w h a b)) (fun _ => True) (fun _ => trivial) (List.range (RunD.vN ⟨w, h, x, y, a, b⟩)) [] none none none (by
        rw [List.length_range, List.length_nil]
        unfold RunD.vN
        simp only [hg]
        omega)
      rw [hg] at hl
      have es : RunD.vis ⟨w, h, x, y, a, b⟩ = srtP ts := by
        unfold RunD.vis
        refine strict_uniq pairO (srtO_pw pairO _) (srtO_pw pairO _) fun t => ?_
        rw [srtO_mem pairO, srtO_mem pairO, hm, List.mem_map]
        constructor
        · rintro ⟨n, hn, e⟩
          exact .inr ⟨n, hn, e.symm⟩
        · rintro (h | ⟨n, hn, e⟩)
          · cases h
          · exact ⟨n, hn, e.symm⟩
      rw [es]
      refine ⟨(.ref (S ++ [O.dT (kvP ts)]).length, S ++ [.dT (kvP ts)] ++ [.lst ((srtP ts).map fr)]), fnB_ret ?_, ?_⟩
      · have e : b_visited = sSeq (sDrop (eCall G_need_run (aCons (eVar 0) (aNil)))) (sSeq (sPar3 2 3 4 (aCons (eCall G_common_of (aCons (eOp ixW (eVar 0) (eC (.int 4))) (aCons (eOp ixW (eVar 0) (eC (.int 5))) (aNil)))) (aCons (eCall G_period_of (aCons (eVar 0) (aNil))) (aCons (eNewT) (aNil))))) (sSeq (sFor (iRange1 (aCons (eOp fdivW (eOp mulW (eOp ixW (eVar 3) (eC (.int 0))) (eVar 2)) (eOp ixW (eVar 3) (eC (.int 1)))) (aNil))) (gN 1) vsI) (sRet (eCall sortDW (aCons (eVar 4) (aNil)))))) := rfl
        rw [e]
        refine' seq_trans (e' := en 7 [.tup [.int w, .int h, .int x, .int y, .int a, .int b]]) (S' := S) _ _
        · clear hl hm es e k1 ok CO PE hg
          simp only [fnB, en, List.map_cons, List.map_nil, List.length_cons, List.length_nil, List.replicate_succ, List.replicate_zero, List.cons_append, List.nil_append, List.append_nil, List.getElem?_cons_zero, List.getElem?_cons_succ, List.set_cons_zero, List.set_cons_succ,  Nat.zero_add, Nat.reduceAdd, Nat.reduceSub, Nat.sub_self, Nat.reduceEqDiff,  eVar, eC, eOp, eUn, aNil, aCons, eTup, eLst, eCall, eIf, eAnd, eOr, eNot, tVal, tAndW, tOrW, tNotW, eChain, sNext, sBrk, sCnt, sNever, sSeq, sRet, sRetN, sDrop, sIf, sAsg, sPar, sPar3, gN, gsNil, gsCons, gTupW, Option.bind_some, Option.bind_none,  s0, s1, s2, s3, s4, s6, subW, ltW, leW, gtW, geW, iop0, iop, modW, fdivW, powW, addW, mulW, negW, isi_int_int, isi_int_bool, isi_bl_int, isi_bl_bool, isi_non_int, isi_str_int, isi_tup_int, isi_tup_tup, eq_int, ne_int, len_p, len_6, len_l1, decide_true, decide_false, Int.reduceEq, Int.reduceNeg, absW, minW, ix_p0, ix_p1, ix_r0, ix_r1, ix_r2, ix_r3, ix_r4, ix_r5, if_true, if_false, ite_true, ite_false, Bool.not_true, Bool.not_false, Bool.false_eq_true, reduceIte, ↓reduceIte, s3, ne_eq, not_false_eq_true, and_self, and_false, false_and, true_and, and_true, *]
        refine' seq_trans (e' := [some (.tup [.int w, .int h, .int x, .int y, .int a, .int b]), none, some (.int g), some (fr (per w h a b)), some (.ref S.length), none, none]) (S' := S ++ [.dT (kvP [])]) _ _
        · clear hl hm es e k1 ok N1 hg
          simp only [en, List.map_cons, List.map_nil, List.length_cons, List.length_nil, List.replicate_succ, List.replicate_zero, List.cons_append, List.nil_append, Nat.zero_add, Nat.reduceAdd, Nat.reduceSub, sPar3, eCall, eOp, eC, eNewT, aCons, aNil, eVar, List.getElem?_cons_zero, List.getElem?_cons_succ, Option.bind_some, ix_r4, ix_r5, CO, PE, List.set_cons_zero, List.set_cons_succ, kvP]
        refine' seq_trans (e' := [some (.tup [.int w, .int h, .int x, .int y, .int a, .int b]), e1, some (.int g), some (fr (per w h a b)), some (.ref S.length), e5, e6]) (S' := S ++ [.dT (kvP ts)]) _ _
        · have om : okMul (per w h a b).1 g := .inl (by omega)
          have od : okDiv (per w h a b).2 := okDiv_of (by omega) (big_lt (by omega))
          have fd : Int.fdiv ((per w h a b).1 * g) (per w h a b).2 = (per w h a b).1 * g / (per w h a b).2 := Int.fdiv_eq_ediv_of_nonneg _ (by omega)
          have it : iRange1 (aCons (eOp fdivW (eOp mulW (eOp ixW (eVar 3) (eC (.int 0))) (eVar 2)) (eOp ixW (eVar 3) (eC (.int 1)))) (aNil)) [some (.tup [.int w, .int h, .int x, .int y, .int a, .int b]), none, some (.int g), some (fr (per w h a b)), some (.ref S.length), none, none] (S ++ [.dT (kvP [])]) = some (⟨intsW 0 (RunD.vN ⟨w, h, x, y, a, b⟩), fun _ => True⟩, S ++ [.dT (kvP [])]) := by
            have := range1_of (fa := aCons (eOp fdivW (eOp mulW (eOp ixW (eVar 3) (eC (.int 0))) (eVar 2)) (eOp ixW (eVar 3) (eC (.int 1)))) aNil) (e := [some (.tup [.int w, .int h, .int x, .int y, .int a, .int b]), none, some (.int g), some (fr (per w h a b)), some (.ref S.length), none, none]) (S := S ++ [.dT (kvP [])]) (S' := S ++ [.dT (kvP [])]) (j := (per w h a b).1 * g / (per w h a b).2) (by
              clear hl hm es e k1 ok N1 hg CO PE
              simp only [fnB, en, List.map_cons, List.map_nil, List.length_cons, List.length_nil, List.replicate_succ, List.replicate_zero, List.cons_append, List.nil_append, List.append_nil, List.getElem?_cons_zero, List.getElem?_cons_succ, List.set_cons_zero, List.set_cons_succ,  Nat.zero_add, Nat.reduceAdd, Nat.reduceSub, Nat.sub_self, Nat.reduceEqDiff,  eVar, eC, eOp, eUn, aNil, aCons, eTup, eLst, eCall, eIf, eAnd, eOr, eNot, tVal, tAndW, tOrW, tNotW, eChain, sNext, sBrk, sCnt, sNever, sSeq, sRet, sRetN, sDrop, sIf, sAsg, sPar, sPar3, gN, gsNil, gsCons, gTupW, Option.bind_some, Option.bind_none,  s0, s1, s2, s3, s4, s6, subW, ltW, leW, gtW, geW, iop0, iop, modW, fdivW, powW, addW, mulW, negW, isi_int_int, isi_int_bool, isi_bl_int, isi_bl_bool, isi_non_int, isi_str_int, isi_tup_int, isi_tup_tup, eq_int, ne_int, len_p, len_6, len_l1, decide_true, decide_false, Int.reduceEq, Int.reduceNeg, absW, minW, ix_p0, ix_p1, ix_r0, ix_r1, ix_r2, ix_r3, ix_r4, ix_r5, if_true, if_false, ite_true, ite_false, Bool.not_true, Bool.not_false, Bool.false_eq_true, reduceIte, ↓reduceIte, ne_eq, not_false_eq_true, and_self, and_false, false_and, true_and, and_true, *]) (by omega)
            rw [this]
            unfold RunD.vN
            rw [hg]
          rw [intsW_nat] at it
          simp only [sFor, it, Option.bind_some]
          exact hl
        have SD : sortDW [.ref S.length] (S ++ [.dT (kvP ts)]) = some (.ref (S ++ [O.dT (kvP ts)]).length, S ++ [.dT (kvP ts)] ++ [.lst ((srtP ts).map fr)]) := by
          have mk : mapK ((kvP ts).map (·.1)) = some ts := by
            unfold kvP
            rw [List.map_map]
            exact mapK_map ts
          simp only [sortDW, get_last, mk, Option.bind_some]
        simp only [sRet, eCall, aCons, aNil, eVar, List.getElem?_cons_zero, List.getElem?_cons_succ, Option.bind_some, SD]
      · rw [List.append_assoc]
        exact .lst _ _ _ (by simp) (by rw [← List.append_assoc]; exact get_last) (belows_fr _ _)
    · cases hh
  · cases hh
theorem l_visited : ∀ ws S r, G_visited ws S = some r → ws.length = 1 := by
  intro ws S r h
  unfold G_visited at h
  split at h <;> first | rfl | cases h
theorem visited_at {r : RunD} (ok : r.Ok) (S : Sto) : G_visited [r.W] S = some (.ref S.length, S ++ [.lst ((r.vis).map fr)]) := by
  have ok' : okRun r.w r.h r.x r.y r.a r.b := ok
  simp only [G_visited, RunD.W, ok', if_true]
end Bp

/-! Pg13: common_part, row_of, is_inside. -/
namespace Bp
set_option autoImplicit false
open PySem L2
/-- common_part(one, two); slots 0:one 1:two -/
noncomputable def b_common_part : Fs := sRet (eCall G_lowest (aCons (eCall G_common_of (aCons (eOp mulW (eOp ixW (eVar 0) (eC (.int 0))) (eOp ixW (eVar 1) (eC (.int 1)))) (aCons (eOp mulW (eOp ixW (eVar 1) (eC (.int 0))) (eOp ixW (eVar 0) (eC (.int 1)))) (aNil)))) (aCons (eOp mulW (eOp ixW (eVar 0) (eC (.int 1))) (eOp ixW (eVar 1) (eC (.int 1)))) (aNil))))
def cpt (p q : Int × Int) : Int × Int := low (Int.gcd (p.1 * q.2) (q.1 * p.2) : Nat) (p.2 * q.2)
def okCp (p q : Int × Int) : Prop := p.1.natAbs ≤ 1000 ∧ q.1.natAbs ≤ 1000 ∧ (0 < p.2 ∧ p.2 ≤ 1000) ∧ 0 < q.2 ∧ q.2 ≤ 1000
instance (p q : Int × Int) : Decidable (okCp p q) := inferInstanceAs (Decidable (_ ∧ _))
def G_common_part : Fn
  | [.tup [.int a, .int b], .tup [.int c, .int d]], S => if okCp (a, b) (c, d) then some (fr (cpt (a, b) (c, d)), S) else none
  | _, _ => none
theorem t_common_part : Tells 2 b_common_part G_common_part := by
  intro ws S r hh
  refine ⟨r, ?_, .same _⟩
  unfold b_common_part
  unfold G_common_part at hh
  split at hh
  · split at hh
    · rename_i a b c d hk
      cases hh
      obtain ⟨k1, k2, ⟨k3, k4⟩, k5, k6⟩ := hk
      simp only at k1 k2 k3 k4 k5 k6
      have m1 : okMul a d := .inl (by omega)
      have m2 : okMul c b := .inl (by omega)
      have m3 : okMul b d := .inl (by omega)
      have z : ¬ b * d = 0 := fun e => by rcases Int.mul_eq_zero.mp e with e | e <;> omega
      have bb : (b * d).natAbs ≤ 1000 * 1000 := by rw [Int.natAbs_mul]; exact Nat.mul_le_mul (by omega) (by omega)
      have cc : (c * b).natAbs ≤ 1000 * 1000 := by rw [Int.natAbs_mul]; exact Nat.mul_le_mul (by omega) (by omega)
      have bg : (b * d).natAbs < big := big_lt (by omega)
      have cg : (c * b).natAbs < big := big_lt (by omega)
      clear k1 k2 k3 k4 k5 k6 bb cc
      simp only [fnB, en, List.map_cons, List.map_nil, List.length_cons, List.length_nil, List.replicate_succ, List.replicate_zero, List.cons_append, List.nil_append, List.append_nil, List.getElem?_cons_zero, List.getElem?_cons_succ, List.set_cons_zero, List.set_cons_succ,  Nat.zero_add, Nat.reduceAdd, Nat.reduceSub, Nat.sub_self, Nat.reduceEqDiff,  eVar, eC, eOp, eUn, aNil, aCons, eTup, eLst, eCall, eIf, eAnd, eOr, eNot, tVal, tAndW, tOrW, tNotW, eChain, sNext, sBrk, sCnt, sNever, sSeq, sRet, sRetN, sDrop, sIf, sAsg, sPar, sPar3, gN, gsNil, gsCons, gTupW, Option.bind_some, Option.bind_none,  s0, s1, s2, s3, s4, s6, subW, ltW, leW, gtW, geW, iop0, iop, modW, fdivW, powW, addW, mulW, negW, isi_int_int, isi_int_bool, isi_bl_int, isi_bl_bool, isi_non_int, isi_str_int, isi_tup_int, isi_tup_tup, eq_int, ne_int, len_p, len_6, len_l1, decide_true, decide_false, Int.reduceEq, Int.reduceNeg, absW, minW, ix_p0, ix_p1, ix_r0, ix_r1, ix_r2, ix_r3, ix_r4, ix_r5, if_true, if_false, ite_true, ite_false, Bool.not_true, Bool.not_false, Bool.false_eq_true, reduceIte, ↓reduceIte, G_lowest, G_common_of, ne_eq, not_false_eq_true, and_self, and_false, false_and, true_and, and_true, *]
      rfl
    · cases hh
  · cases hh
theorem l_common_part : ∀ ws S r, G_common_part ws S = some r → ws.length = 2 := by
  intro ws S r h
  unfold G_common_part at h
  split at h <;> first | rfl | cases h
theorem common_part_at {p q : Int × Int} (h : okCp p q) (S : Sto) : G_common_part [fr p, fr q] S = some (fr (cpt p q), S) := by
  simp only [G_common_part, h, if_true]
/-! ### row_of -/
/-- row_of(start, step, whole); slots 0:start 1:step 2:whole 3:unit 4:time 5:found -/
noncomputable def b_row_of : Fs := sSeq (sAsg (eOp mulW (eOp ixW (eVar 0) (eC (.int 1))) (eOp ixW (eVar 1) (eC (.int 1)))) (gN 3)) (sSeq (sAsg (eCall G_lowest (aCons (eOp modW (eOp mulW (eOp ixW (eVar 0) (eC (.int 0))) (eOp ixW (eVar 1) (eC (.int 1)))) (eOp mulW (eOp ixW (eVar 1) (eC (.int 0))) (eOp ixW (eVar 0) (eC (.int 1))))) (aCons (eVar 3) (aNil)))) (gN 4)) (sSeq (sAsg (eLst (aNil)) (gN 5)) (sSeq (sWhile (tVal (eCall G_is_less (aCons (eVar 4) (aCons (eVar 2) (aNil))))) (sSeq (sDrop (eMethL appendW (eVar 5) (aCons (eVar 4) (aNil)))) (sAsg (eCall G_plus (aCons (eVar 4) (aCons (eVar 1) (aNil)))) (gN 4)))) (sRet (eVar 5)))))
def rwV (s t : Int × Int) : Int := (s.1 * t.2) % (t.1 * s.2)
def rwK (s t W : Int × Int) : Nat := (W.1 * (s.2 * t.2) / (W.2 * (t.1 * s.2))).toNat
def rowK (s t : Int × Int) (v : Int) (k : Nat) : List (Int × Int) := (List.range k).map fun i : Nat => low (v + t.1 * s.2 * (i : Int)) (s.2 * t.2)
def rowL (s t W : Int × Int) : List (Int × Int) := rowK s t (rwV s t) (rwK s t W)
def okRow (s t W : Int × Int) : Prop := s.1.natAbs ≤ 1000 ∧ (0 < s.2 ∧ s.2 ≤ 1000) ∧ (0 < t.1 ∧ t.1 ≤ 1000) ∧ (0 < t.2 ∧ t.2 ≤ 1000) ∧ (0 < W.2 ∧ W.2 ≤ 1000) ∧ W.1 * (s.2 * t.2) = W.2 * (t.1 * s.2) * (rwK s t W : Nat) ∧ rwK s t W ≤ 100000
instance (s t W : Int × Int) : Decidable (okRow s t W) := inferInstanceAs (Decidable (_ ∧ _))
def G_row_of : Fn
  | [.tup [.int a, .int b], .tup [.int c, .int d], .tup [.int P, .int Q]], S => if okRow (a, b) (c, d) (P, Q) then some (.ref S.length, S ++ [.lst ((rowL (a, b) (c, d) (P, Q)).map fr)]) else none
  | _, _ => none
def rwC : Ft := (tVal (eCall G_is_less (aCons (eVar 4) (aCons (eVar 2) (aNil)))))
def rwB : Fs := (sSeq (sDrop (eMethL appendW (eVar 5) (aCons (eVar 4) (aNil)))) (sAsg (eCall G_plus (aCons (eVar 4) (aCons (eVar 1) (aNil)))) (gN 4)))
def rwE (s t W : Int × Int) (n : Nat) (e4 : Option Bp.W) : En := [some (fr s), some (fr t), some (fr W), some (.int (s.2 * t.2)), e4, some (.ref n)]
theorem rw_loop (s t W : Int × Int) (ok : okRow s t W) (S : Sto) : ∀ (j : Nat) (v : Int) (L : List (Int × Int)), t.1 * s.2 * (rwK s t W : Nat) ≤ v + t.1 * s.2 * (j : Int) → v + t.1 * s.2 * (j : Int) < t.1 * s.2 * (rwK s t W : Nat) + t.1 * s.2 → L.length + j < 200000 → ∃ e4, whileF rwC rwB (j + 1) (rwE s t W S.length (some (fr (low v (s.2 * t.2))))) (S ++ [.lst (L.map fr)]) = some (.next (rwE s t W S.length e4), S ++ [.lst ((L ++ rowK s t v j).map fr)]) := by
  obtain ⟨h1, h2, h3, h4, h5, h6, h7⟩ := ok
  have u0 : 0 < s.2 * t.2 := Int.mul_pos h2.1 h4.1
  have ub : s.2 * t.2 ≤ 1000 * 1000 := Int.mul_le_mul h2.2 h4.2 (by omega) (by omega)
  have m0 : 0 < t.1 * s.2 := Int.mul_pos h3.1 h2.1
  have hlt : ∀ v : Int, less (low v (s.2 * t.2)) W ↔ v < t.1 * s.2 * (rwK s t W : Nat) := fun v => lt_low u0 h5.1 (by rw [h6]; grind)
  have den : ∀ v : Int, 0 < (low v (s.2 * t.2)).2 ∧ (low v (s.2 * t.2)).2 ≤ 1000000 := fun v => ⟨(low_spec u0).1, Int.le_trans (lowD_le u0) (by omega)⟩
  have LS : ∀ (v : Int) S, G_is_less [fr (low v (s.2 * t.2)), fr W] S = some (.bl (decide (less (low v (s.2 * t.2)) W)), S) := fun v => g_less (by have := den v; omega) (by omega)
  intro j
  induction j with
  | zero =>
    intro v L a1 a2 a3
    refine ⟨some (fr (low v (s.2 * t.2))), ?_⟩
    rw [whileF_succ]
    have c : rwC (rwE s t W S.length (some (fr (low v (s.2 * t.2))))) (S ++ [.lst (L.map fr)]) = some (false, S ++ [.lst (L.map fr)]) := by
      have q : ¬ less (low v (s.2 * t.2)) W := by rw [hlt]; simp only [Int.natCast_zero, Int.mul_zero] at a1; omega
      have LS' := LS v (S ++ [.lst (L.map fr)])
      rw [decide_eq_false q] at LS'
      unfold rwC rwE
      generalize S ++ [O.lst (L.map fr)] = S' at *
      clear LS hlt a1 a2 q h6 u0 ub m0 den
      simp only [fnB, en, List.map_cons, List.map_nil, List.length_cons, List.length_nil, List.replicate_succ, List.replicate_zero, List.cons_append, List.nil_append, List.append_nil, List.getElem?_cons_zero, List.getElem?_cons_succ, List.set_cons_zero, List.set_cons_succ,  Nat.zero_add, Nat.reduceAdd, Nat.reduceSub, Nat.sub_self, Nat.reduceEqDiff,  eVar, eC, eOp, eUn, aNil, aCons, eTup, eLst, eCall, eIf, eAnd, eOr, eNot, tVal, tAndW, tOrW, tNotW, eChain, sNext, sBrk, sCnt, sNever, sSeq, sRet, sRetN, sDrop, sIf, sAsg, sPar, sPar3, gN, gsNil, gsCons, gTupW, Option.bind_some, Option.bind_none,  s0, s1, s2, s3, s4, s6, subW, ltW, leW, gtW, geW, iop0, iop, modW, fdivW, powW, addW, mulW, negW, isi_int_int, isi_int_bool, isi_bl_int, isi_bl_bool, isi_non_int, isi_str_int, isi_tup_int, isi_tup_tup, eq_int, ne_int, len_p, len_6, len_l1, decide_true, decide_false, Int.reduceEq, Int.reduceNeg, absW, minW, ix_p0, ix_p1, ix_r0, ix_r1, ix_r2, ix_r3, ix_r4, ix_r5, if_true, if_false, ite_true, ite_false, Bool.not_true, Bool.not_false, Bool.false_eq_true, reduceIte, ↓reduceIte, eMethL, lstOf, get_last, set_last, appendW, ne_eq, not_false_eq_true, and_self, and_false, false_and, true_and, and_true, *]
    rw [c]
    simp only [Option.bind_some, Bool.false_eq_true, if_false]
    have : rowK s t v 0 = [] := rfl
    rw [this, List.append_nil]
  | succ j ih =>
    intro v L a1 a2 a3
    have ev : v + t.1 * s.2 * ((j + 1 : Nat) : Int) = v + t.1 * s.2 + t.1 * s.2 * (j : Int) := by rw [Int.natCast_add, Int.mul_add]; simp; omega
    rw [ev] at a1 a2
    obtain ⟨e4, hI⟩ := ih (v + t.1 * s.2) (L ++ [low v (s.2 * t.2)]) a1 a2 (by simp only [List.length_append, List.length_cons, List.length_nil]; omega)
    refine ⟨e4, ?_⟩
    rw [whileF_succ]
    have lt : v < t.1 * s.2 * (rwK s t W : Nat) := by
      have : 0 ≤ t.1 * s.2 * (j : Int) := Int.mul_nonneg (by omega) (by omega)
      omega
    have c : rwC (rwE s t W S.length (some (fr (low v (s.2 * t.2))))) (S ++ [.lst (L.map fr)]) = some (true, S ++ [.lst (L.map fr)]) := by
      have q : less (low v (s.2 * t.2)) W := (hlt v).mpr lt
      have LS' := LS v (S ++ [.lst (L.map fr)])
      rw [decide_eq_true q] at LS'
      unfold rwC rwE
      generalize S ++ [O.lst (L.map fr)] = S' at *
      clear LS hlt a1 a2 q h6 hI ih u0 ub m0 den
      simp only [fnB, en, List.map_cons, List.map_nil, List.length_cons, List.length_nil, List.replicate_succ, List.replicate_zero, List.cons_append, List.nil_append, List.append_nil, List.getElem?_cons_zero, List.getElem?_cons_succ, List.set_cons_zero, List.set_cons_succ,  Nat.zero_add, Nat.reduceAdd, Nat.reduceSub, Nat.sub_self, Nat.reduceEqDiff,  eVar, eC, eOp, eUn, aNil, aCons, eTup, eLst, eCall, eIf, eAnd, eOr, eNot, tVal, tAndW, tOrW, tNotW, eChain, sNext, sBrk, sCnt, sNever, sSeq, sRet, sRetN, sDrop, sIf, sAsg, sPar, sPar3, gN, gsNil, gsCons, gTupW, Option.bind_some, Option.bind_none,  s0, s1, s2, s3, s4, s6, subW, ltW, leW, gtW, geW, iop0, iop, modW, fdivW, powW, addW, mulW, negW, isi_int_int, isi_int_bool, isi_bl_int, isi_bl_bool, isi_non_int, isi_str_int, isi_tup_int, isi_tup_tup, eq_int, ne_int, len_p, len_6, len_l1, decide_true, decide_false, Int.reduceEq, Int.reduceNeg, absW, minW, ix_p0, ix_p1, ix_r0, ix_r1, ix_r2, ix_r3, ix_r4, ix_r5, if_true, if_false, ite_true, ite_false, Bool.not_true, Bool.not_false, Bool.false_eq_true, reduceIte, ↓reduceIte, eMethL, lstOf, get_last, set_last, appendW, ne_eq, not_false_eq_true, and_self, and_false, false_and, true_and, and_true, *]
    rw [c]
    simp only [Option.bind_some, if_true]
    have bd : rwB (rwE s t W S.length (some (fr (low v (s.2 * t.2))))) (S ++ [.lst (L.map fr)]) = some (.next (rwE s t W S.length (some (fr (low (v + t.1 * s.2) (s.2 * t.2))))), S ++ [.lst ((L ++ [low v (s.2 * t.2)]).map fr)]) := by
      have pe : pls (low v (s.2 * t.2)) t = low (v + t.1 * s.2) (s.2 * t.2) := low_add u0 h4.1 (by grind)
      have PL : ∀ S, G_plus [fr (low v (s.2 * t.2)), fr t] S = some (fr (low (v + t.1 * s.2) (s.2 * t.2)), S) := fun S => by
        rw [plus_at (den v).1 h4.1 (den v).2 (by omega), pe]
      have lz : (L.map fr).length < sizeLine := by rw [List.length_map]; exact Nat.lt_trans (show L.length < 200000 by omega) (by decide)
      rw [List.map_append, List.map_cons, List.map_nil]
      generalize L.map fr = L' at *
      unfold rwB rwE
      clear LS hlt a1 a2 h6 hI ih pe c u0 ub m0 den
      simp only [fnB, en, List.map_cons, List.map_nil, List.length_cons, List.length_nil, List.replicate_succ, List.replicate_zero, List.cons_append, List.nil_append, List.append_nil, List.getElem?_cons_zero, List.getElem?_cons_succ, List.set_cons_zero, List.set_cons_succ,  Nat.zero_add, Nat.reduceAdd, Nat.reduceSub, Nat.sub_self, Nat.reduceEqDiff,  eVar, eC, eOp, eUn, aNil, aCons, eTup, eLst, eCall, eIf, eAnd, eOr, eNot, tVal, tAndW, tOrW, tNotW, eChain, sNext, sBrk, sCnt, sNever, sSeq, sRet, sRetN, sDrop, sIf, sAsg, sPar, sPar3, gN, gsNil, gsCons, gTupW, Option.bind_some, Option.bind_none,  s0, s1, s2, s3, s4, s6, subW, ltW, leW, gtW, geW, iop0, iop, modW, fdivW, powW, addW, mulW, negW, isi_int_int, isi_int_bool, isi_bl_int, isi_bl_bool, isi_non_int, isi_str_int, isi_tup_int, isi_tup_tup, eq_int, ne_int, len_p, len_6, len_l1, decide_true, decide_false, Int.reduceEq, Int.reduceNeg, absW, minW, ix_p0, ix_p1, ix_r0, ix_r1, ix_r2, ix_r3, ix_r4, ix_r5, if_true, if_false, ite_true, ite_false, Bool.not_true, Bool.not_false, Bool.false_eq_true, reduceIte, ↓reduceIte, eMethL, lstOf, get_last, set_last, appendW, ne_eq, not_false_eq_true, and_self, and_false, false_and, true_and, and_true, *]
    rw [bd]
    simp only [Option.bind_some]
    rw [hI]
    have : L ++ [low v (s.2 * t.2)] ++ rowK s t (v + t.1 * s.2) j = L ++ rowK s t v (j + 1) := by
      rw [List.append_assoc]
      congr 1
      unfold rowK
      rw [List.range_succ_eq_map, List.map_cons, List.map_map]
      simp only [List.singleton_append, Int.natCast_zero, Int.mul_zero, Int.add_zero]
      congr 1
      apply List.map_congr_left
      intro m _
      simp only [Function.comp]
      rw [show v + t.1 * s.2 + t.1 * s.2 * (m : Int) = v + t.1 * s.2 * ((m + 1 : Nat) : Int) by rw [Int.natCast_add, Int.mul_add]; simp; omega]
    rw [this]
theorem t_row_of : Tells 6 b_row_of G_row_of := by
  intro ws S r hh
  unfold G_row_of at hh
  split at hh
  · split at hh
    · rename_i a b c d P Q ok
      cases hh
      obtain ⟨h1, h2, h3, h4, h5, h6, h7⟩ := id ok
      simp only at h1 h2 h3 h4 h5 h6
      have m0 : 0 < c * b := Int.mul_pos h3.1 h2.1
      have u0 : 0 < b * d := Int.mul_pos h2.1 h4.1
      have ub : b * d ≤ 1000 * 1000 := Int.mul_le_mul h2.2 h4.2 (by omega) (by omega)
      have r0 : 0 ≤ rwV (a, b) (c, d) := Int.emod_nonneg _ (by show c * b ≠ 0; omega)
      have r1 : rwV (a, b) (c, d) < c * b := Int.emod_lt_of_pos _ m0
      obtain ⟨e4, hw⟩ := rw_loop (a, b) (c, d) (P, Q) ok S (rwK (a, b) (c, d) (P, Q)) (rwV (a, b) (c, d)) [] (by simp only; omega) (by simp only; omega) (by simp only [List.length_nil]; omega)
      have hw2 := sWhile_of hw (show rwK (a, b) (c, d) (P, Q) + 1 ≤ FU from Nat.le_trans (show rwK (a, b) (c, d) (P, Q) + 1 ≤ 2 ^ 20 by omega) (by unfold FU; exact Nat.pow_le_pow_right (by decide) (by decide)))
      rw [List.nil_append] at hw2
      refine ⟨(.ref S.length, S ++ [.lst ((rowL (a, b) (c, d) (P, Q)).map fr)]), fnB_ret ?_, .lst _ _ _ (Nat.le_refl _) get_last (belows_fr _ _)⟩
      have e : b_row_of = sSeq (sAsg (eOp mulW (eOp ixW (eVar 0) (eC (.int 1))) (eOp ixW (eVar 1) (eC (.int 1)))) (gN 3)) (sSeq (sAsg (eCall G_lowest (aCons (eOp modW (eOp mulW (eOp ixW (eVar 0) (eC (.int 0))) (eOp ixW (eVar 1) (eC (.int 1)))) (eOp mulW (eOp ixW (eVar 1) (eC (.int 0))) (eOp ixW (eVar 0) (eC (.int 1))))) (aCons (eVar 3) (aNil)))) (gN 4)) (sSeq (sAsg (eLst (aNil)) (gN 5)) (sSeq (sWhile rwC rwB) (sRet (eVar 5))))) := rfl
      rw [e]
      have o1 : okMul b d := .inl (by omega)
      have o2 : okMul a d := .inl (by omega)
      have o3 : okMul c b := .inl (by omega)
      have nz : ¬ c * b = 0 := by omega
      have fm : Int.fmod (a * d) (c * b) = rwV (a, b) (c, d) := Int.fmod_eq_emod_of_nonneg _ (by omega)
      refine' seq_trans (e' := [some (fr (a, b)), some (fr (c, d)), some (fr (P, Q)), some (.int (b * d)), none, none]) (S' := S) _ _
      · clear hw hw2 ok h6 e fm
        simp only [fnB, en, List.map_cons, List.map_nil, List.length_cons, List.length_nil, List.replicate_succ, List.replicate_zero, List.cons_append, List.nil_append, List.append_nil, List.getElem?_cons_zero, List.getElem?_cons_succ, List.set_cons_zero, List.set_cons_succ,  Nat.zero_add, Nat.reduceAdd, Nat.reduceSub, Nat.sub_self, Nat.reduceEqDiff,  eVar, eC, eOp, eUn, aNil, aCons, eTup, eLst, eCall, eIf, eAnd, eOr, eNot, tVal, tAndW, tOrW, tNotW, eChain, sNext, sBrk, sCnt, sNever, sSeq, sRet, sRetN, sDrop, sIf, sAsg, sPar, sPar3, gN, gsNil, gsCons, gTupW, Option.bind_some, Option.bind_none,  s0, s1, s2, s3, s4, s6, subW, ltW, leW, gtW, geW, iop0, iop, modW, fdivW, powW, addW, mulW, negW, isi_int_int, isi_int_bool, isi_bl_int, isi_bl_bool, isi_non_int, isi_str_int, isi_tup_int, isi_tup_tup, eq_int, ne_int, len_p, len_6, len_l1, decide_true, decide_false, Int.reduceEq, Int.reduceNeg, absW, minW, ix_p0, ix_p1, ix_r0, ix_r1, ix_r2, ix_r3, ix_r4, ix_r5, if_true, if_false, ite_true, ite_false, Bool.not_true, Bool.not_false, Bool.false_eq_true, reduceIte, ↓reduceIte, eMethL, lstOf, get_last, set_last, appendW, ne_eq, not_false_eq_true, and_self, and_false, false_and, true_and, and_true, *]
      refine' seq_trans (e' := [some (fr (a, b)), some (fr (c, d)), some (fr (P, Q)), some (.int (b * d)), some (fr (low (rwV (a, b) (c, d)) (b * d))), none]) (S' := S) _ _
      · have LW : ∀ S, G_lowest [.int (rwV (a, b) (c, d)), .int (b * d)] S = some (fr (low (rwV (a, b) (c, d)) (b * d)), S) := fun S => by
          have a1 : ¬ b * d = 0 := by omega
          have a2 : (b * d).natAbs < big := big_lt (by omega)
          simp only [G_lowest, ne_eq, a1, not_false_eq_true, a2, and_self, if_true]
        clear hw hw2 ok h6 e
        simp only [fnB, en, List.map_cons, List.map_nil, List.length_cons, List.length_nil, List.replicate_succ, List.replicate_zero, List.cons_append, List.nil_append, List.append_nil, List.getElem?_cons_zero, List.getElem?_cons_succ, List.set_cons_zero, List.set_cons_succ,  Nat.zero_add, Nat.reduceAdd, Nat.reduceSub, Nat.sub_self, Nat.reduceEqDiff,  eVar, eC, eOp, eUn, aNil, aCons, eTup, eLst, eCall, eIf, eAnd, eOr, eNot, tVal, tAndW, tOrW, tNotW, eChain, sNext, sBrk, sCnt, sNever, sSeq, sRet, sRetN, sDrop, sIf, sAsg, sPar, sPar3, gN, gsNil, gsCons, gTupW, Option.bind_some, Option.bind_none,  s0, s1, s2, s3, s4, s6, subW, ltW, leW, gtW, geW, iop0, iop, modW, fdivW, powW, addW, mulW, negW, isi_int_int, isi_int_bool, isi_bl_int, isi_bl_bool, isi_non_int, isi_str_int, isi_tup_int, isi_tup_tup, eq_int, ne_int, len_p, len_6, len_l1, decide_true, decide_false, Int.reduceEq, Int.reduceNeg, absW, minW, ix_p0, ix_p1, ix_r0, ix_r1, ix_r2, ix_r3, ix_r4, ix_r5, if_true, if_false, ite_true, ite_false, Bool.not_true, Bool.not_false, Bool.false_eq_true, reduceIte, ↓reduceIte, eMethL, lstOf, get_last, set_last, appendW, ne_eq, not_false_eq_true, and_self, and_false, false_and, true_and, and_true, *]
      refine' seq_trans (e' := rwE (a, b) (c, d) (P, Q) S.length (some (fr (low (rwV (a, b) (c, d)) (b * d))))) (S' := S ++ [.lst []]) rfl _
      refine' seq_trans (e' := rwE (a, b) (c, d) (P, Q) S.length e4) (S' := S ++ [.lst ((rowL (a, b) (c, d) (P, Q)).map fr)]) _ rfl
      exact hw2
    · cases hh
  · cases hh
theorem l_row_of : ∀ ws S r, G_row_of ws S = some r → ws.length = 3 := by
  intro ws S r h
  unfold G_row_of at h
  split at h <;> first | rfl | cases h
theorem row_of_at {s t W : Int × Int} (h : okRow s t W) (S : Sto) : G_row_of [fr s, fr t, fr W] S = some (.ref S.length, S ++ [.lst ((rowL s t W).map fr)]) := by
  simp only [G_row_of, h, if_true]
end Bp

/-! Pg14: is_inside, crossings. -/
namespace Bp
set_option autoImplicit false
open PySem L2
/-- is_inside(run, spot); slots 0:run 1:spot 2:part 3:side -/
noncomputable def b_is_inside : Fs := sRet (eCall allW (aCons (eLc (iZipW (aCons (eVar 1) (aCons (eSlice (eVar 0) (oNone) (oSome (eC (.int 2)))) (aNil)))) (gTupW 2 (gsCons (gN 2) (gsCons (gN 3) gsNil))) (tYesW) (eChain ltW ltW (eC (.int 0)) (eOp ixW (eVar 2) (eC (.int 0))) (eOp mulW (eVar 3) (eOp ixW (eVar 2) (eC (.int 1))))) [2, 3]) (aNil)))
def insB (m : Int) (p : Int × Int) : Bool := decide (0 < p.1 ∧ p.1 < m * p.2)
def G_is_inside : Fn
  | [.tup [.int w, .int h, .int x, .int y, .int a, .int b], .tup [.tup [.int p, .int q], .tup [.int u, .int v]]], S => if okRun w h x y a b then some (.bl (insB w (p, q) && insB h (u, v)), S) else none
  | _, _ => none
theorem t_is_inside : Tells 4 b_is_inside G_is_inside := by
  intro ws S r hh
  unfold G_is_inside at hh
  split at hh
  · split at hh
    · rename_i w h x y a b p q u v k1
      cases hh
      obtain ⟨h1, h2, _⟩ := id k1
      have it : iZipW (aCons (eVar 1) (aCons (eSlice (eVar 0) (oNone) (oSome (eC (.int 2)))) (aNil))) [some (.tup [.int w, .int h, .int x, .int y, .int a, .int b]), some (.tup [fr (p, q), fr (u, v)]), none, none] S = some (⟨([((p, q), w), ((u, v), h)] : List ((Int × Int) × Int)).map (fun z => W.tup [fr z.1, .int z.2]), fun _ => True⟩, S) := by
        clear k1 h1 h2
        simp only [fnB, en, List.map_cons, List.map_nil, List.length_cons, List.length_nil, List.replicate_succ, List.replicate_zero, List.cons_append, List.nil_append, List.append_nil, List.getElem?_cons_zero, List.getElem?_cons_succ, List.set_cons_zero, List.set_cons_succ,  Nat.zero_add, Nat.reduceAdd, Nat.reduceSub, Nat.sub_self, Nat.reduceEqDiff,  eVar, eC, eOp, eUn, aNil, aCons, eTup, eLst, eCall, eIf, eAnd, eOr, eNot, tVal, tAndW, tOrW, tNotW, eChain, sNext, sBrk, sCnt, sNever, sSeq, sRet, sRetN, sDrop, sIf, sAsg, sPar, sPar3, gN, gsNil, gsCons, gTupW, Option.bind_some, Option.bind_none,  s0, s1, s2, s3, s4, s6, subW, ltW, leW, gtW, geW, iop0, iop, modW, fdivW, powW, addW, mulW, negW, isi_int_int, isi_int_bool, isi_bl_int, isi_bl_bool, isi_non_int, isi_str_int, isi_tup_int, isi_tup_tup, eq_int, ne_int, len_p, len_6, len_l1, decide_true, decide_false, Int.reduceEq, Int.reduceNeg, absW, minW, ix_p0, ix_p1, ix_r0, ix_r1, ix_r2, ix_r3, ix_r4, ix_r5, if_true, if_false, ite_true, ite_false, Bool.not_true, Bool.not_false, Bool.false_eq_true, reduceIte, ↓reduceIte, iZipW, eSlice, oSome, oNone, slice_r2, zipL, ne_eq, not_false_eq_true, and_self, and_false, false_and, true_and, and_true, *]
      have lc := elc_pure (g := gTupW 2 (gsCons (gN 2) (gsCons (gN 3) gsNil))) (t := tYesW) (f := eChain ltW ltW (eC (.int 0)) (eOp ixW (eVar 2) (eC (.int 0))) (eOp mulW (eVar 3) (eOp ixW (eVar 2) (eC (.int 1))))) (vs := [2, 3]) (fun z : (Int × Int) × Int => W.tup [fr z.1, .int z.2]) (fun z => [some (.tup [.int w, .int h, .int x, .int y, .int a, .int b]), some (.tup [fr (p, q), fr (u, v)]), some (fr z.1), some (.int z.2)]) (fun _ => true) (fun z => W.bl (insB z.2 z.1)) [((p, q), w), ((u, v), h)] it (fun _ => trivial) (fun _ _ _ => rfl) (fun _ _ _ => rfl) (fun z hz _ S => by
        have hm : okMul z.2 z.1.2 := .inl (by
          simp only [List.mem_cons, List.not_mem_nil, or_false] at hz
          rcases hz with rfl | rfl <;> simp only <;> omega)
        unfold insB
        simp only [eChain, eC, eOp, eVar, List.getElem?_cons_zero, List.getElem?_cons_succ, Option.bind_some, ix_p0, ix_p1, mulW, hm, if_true, ltW, iop0]
        by_cases c : 0 < z.1.1
        · simp only [c, decide_true, true_and]
        · simp only [c, decide_false, false_and]) (show 2 < sizeLine by decide)
      refine ⟨(.bl (insB w (p, q) && insB h (u, v)), S ++ [.lst [.bl (insB w (p, q)), .bl (insB h (u, v))]]), fnB_ret ?_, .val _ _ rfl⟩
      have al : allW [.ref S.length] (S ++ [.lst [.bl (insB w (p, q)), .bl (insB h (u, v))]]) = some (.bl (insB w (p, q) && insB h (u, v)), S ++ [.lst [.bl (insB w (p, q)), .bl (insB h (u, v))]]) := by
        simp only [allW, lstOf, get_last, bsOf, Option.bind_some, List.all_cons, List.all_nil, id, Bool.and_true]
      have lc' : eLc (iZipW (aCons (eVar 1) (aCons (eSlice (eVar 0) (oNone) (oSome (eC (.int 2)))) (aNil)))) (gTupW 2 (gsCons (gN 2) (gsCons (gN 3) gsNil))) (tYesW) (eChain ltW ltW (eC (.int 0)) (eOp ixW (eVar 2) (eC (.int 0))) (eOp mulW (eVar 3) (eOp ixW (eVar 2) (eC (.int 1))))) [2, 3] (en 4 [.tup [.int w, .int h, .int x, .int y, .int a, .int b], .tup [.tup [.int p, .int q], .tup [.int u, .int v]]]) S = some (.ref S.length, S ++ [.lst [.bl (insB w (p, q)), .bl (insB h (u, v))]]) := lc
      unfold b_is_inside
      simp only [sRet, eCall, aCons, aNil, lc', Option.bind_some]
      rw [al]
      rfl
    · cases hh
  · cases hh
theorem l_is_inside : ∀ ws S r, G_is_inside ws S = some r → ws.length = 2 := by
  intro ws S r h
  unfold G_is_inside at h
  split at h <;> first | rfl | cases h
theorem is_inside_at {r : RunD} (ok : r.Ok) (p q : Int × Int) (S : Sto) : G_is_inside [r.W, .tup [fr p, fr q]] S = some (.bl (insB r.w p && insB r.h q), S) := by
  have ok' : okRun r.w r.h r.x r.y r.a r.b := ok
  simp only [G_is_inside, RunD.W, ok', if_true]
/-! ### crossings -/
/-- crossings(run); slots 0:run 1:start 2:w 3:h 4:x 5:y 6:a 7:b 8:step 9:whole 10:found 11:time 12:spot -/
noncomputable def b_crossings : Fs := sSeq (sDrop (eCall G_need_run (aCons (eVar 0) (aNil)))) (sSeq (sAsg (eVar 0) (gTupW 6 (gsCons (gN 2) (gsCons (gN 3) (gsCons (gN 4) (gsCons (gN 5) (gsCons (gN 6) (gsCons (gN 7) (gsNil))))))))) (sSeq (sIf (tOrW (tVal (eOp eqW (eVar 6) (eC (.int 0)))) (tVal (eOp eqW (eVar 7) (eC (.int 0))))) (sRet (eC (.int 0))) (sNext)) (sSeq (sPar3 8 9 10 (aCons (eCall G_common_part (aCons (eCall G_lowest (aCons (eVar 2) (aCons (eCall absW (aCons (eVar 6) (aNil))) (aNil)))) (aCons (eCall G_lowest (aCons (eVar 3) (aCons (eCall absW (aCons (eVar 7) (aNil))) (aNil)))) (aNil)))) (aCons (eCall G_period_of (aCons (eVar 0) (aNil))) (aCons (eNewN) (aNil))))) (sSeq (sFor (iSeq (eTup (aCons (eCall G_lowest (aCons (eUn negW (eVar 4)) (aCons (eVar 6) (aNil)))) (aCons (eCall G_lowest (aCons (eUn negW (eVar 5)) (aCons (eVar 7) (aNil)))) (aNil))))) (gN 1) (sFor (iSeq (eCall G_row_of (aCons (eVar 1) (aCons (eVar 8) (aCons (eVar 9) (aNil)))))) (gN 11) (sSeq (sAsg (eCall G_place_at (aCons (eVar 0) (aCons (eVar 11) (aNil)))) (gN 12)) (sIf (tVal (eCall G_is_inside (aCons (eVar 0) (aCons (eVar 12) (aNil))))) (sAsg (eC (.bl true)) (gSubW (eVar 10) (eVar 12) setNW)) (sNext))))) (sRet (eCall lenNW (aCons (eVar 10) (aNil))))))))
def RunD.pp (r : RunD) (t : Int × Int) : (Int × Int) × (Int × Int) := (plc r.w r.x r.a t, plc r.h r.y r.b t)
def RunD.inn (r : RunD) (t : Int × Int) : Bool := insB r.w (plc r.w r.x r.a t) && insB r.h (plc r.h r.y r.b t)
/-- the inner places at some times, each one once -/
def RunD.crF (r : RunD) : List (Int × Int) → List ((Int × Int) × (Int × Int)) → List ((Int × Int) × (Int × Int))
  | [], ks => ks
  | t :: ts, ks => r.crF ts (if r.inn t = true then putN ks (r.pp t) else ks)
def RunD.stp (r : RunD) : Int × Int := cpt (low r.w (r.a.natAbs : Nat)) (low r.h (r.b.natAbs : Nat))
def RunD.sts (r : RunD) : List (Int × Int) := [low (-r.x) r.a, low (-r.y) r.b]
def RunD.crT (r : RunD) : List (Int × Int) := r.sts.flatMap fun s => rowL s r.stp (Bp.per r.w r.h r.a r.b)
def RunD.ncr (r : RunD) : Nat := if r.a = 0 ∨ r.b = 0 then 0 else (r.crF r.crT []).length
def okCr (r : RunD) : Prop := r.a = 0 ∨ r.b = 0 ∨ (okCp (low r.w (r.a.natAbs : Nat)) (low r.h (r.b.natAbs : Nat)) ∧ ∀ s ∈ r.sts, okRow s r.stp (Bp.per r.w r.h r.a r.b))
instance (r : RunD) : Decidable (okCr r) := inferInstanceAs (Decidable (_ ∨ _))
def G_crossings : Fn
  | [.tup [.int w, .int h, .int x, .int y, .int a, .int b]], S => if okRun w h x y a b ∧ okCr ⟨w, h, x, y, a, b⟩ then some (.int (RunD.ncr ⟨w, h, x, y, a, b⟩ : Nat), S) else none
  | _, _ => none
def crI : Fs := (sSeq (sAsg (eCall G_place_at (aCons (eVar 0) (aCons (eVar 11) (aNil)))) (gN 12)) (sIf (tVal (eCall G_is_inside (aCons (eVar 0) (aCons (eVar 12) (aNil))))) (sAsg (eC (.bl true)) (gSubW (eVar 10) (eVar 12) setNW)) (sNext)))
def crE (r : RunD) (n : Nat) (e1 e11 e12 : Option W) : En := [some r.W, e1, some (.int r.w), some (.int r.h), some (.int r.x), some (.int r.y), some (.int r.a), some (.int r.b), some (fr r.stp), some (fr (Bp.per r.w r.h r.a r.b)), some (.ref n), e11, e12]
theorem putN_len (ks : List ((Int × Int) × (Int × Int))) (p : (Int × Int) × (Int × Int)) : (putN ks p).length ≤ ks.length + 1 := by
  unfold putN; split
  · omega
  · simp
theorem cr_in (r : RunD) (ok : r.Ok) (S Z : Sto) (e1 : Option W) (chk : Sto → Prop) (hk : ∀ ks, chk (S ++ .nd ks :: Z)) : ∀ (ts : List (Int × Int)) (ks : List ((Int × Int) × (Int × Int))) (e11 e12 : Option W), (∀ t ∈ ts, 0 < t.2 ∧ t.2 ≤ 1000000) → ks.length + ts.length < 1000000 → ∃ e11' e12', forF (gN 11) crI chk (ts.map fr) (crE r S.length e1 e11 e12) (S ++ .nd ks :: Z) = some (.next (crE r S.length e1 e11' e12'), S ++ .nd (r.crF ts ks) :: Z) ∧ (r.crF ts ks).length ≤ ks.length + ts.length
  | [], ks, e11, e12, _, _ => ⟨e11, e12, by rw [List.map_nil, forF_nil, if_pos (hk _)]; rfl, Nat.le_refl _⟩
  | t :: ts, ks, e11, e12, hd, hl => by
    simp only [List.length_cons] at hl
    have pl := putN_len ks (r.pp t)
    have pl' : (if r.inn t = true then putN ks (r.pp t) else ks).length ≤ ks.length + 1 := by split <;> omega
    obtain ⟨f11, f12, h1, h2⟩ := cr_in r ok S Z e1 chk hk ts (if r.inn t = true then putN ks (r.pp t) else ks) (some (fr t)) (some (.tup [fr (r.pp t).1, fr (r.pp t).2])) (fun s hs => hd s (List.mem_cons_of_mem _ hs)) (by omega)
    refine ⟨f11, f12, ?_, by rw [List.length_cons]; show (r.crF ts _).length ≤ _; omega⟩
    rw [List.map_cons, forF_cons, if_pos (hk _)]
    have g : gN 11 (fr t) (crE r S.length e1 e11 e12) (S ++ .nd ks :: Z) = some (crE r S.length e1 (some (fr t)) e12, S ++ .nd ks :: Z) := rfl
    rw [g]
    simp only [Option.bind_some]
    have bd : crI (crE r S.length e1 (some (fr t)) e12) (S ++ .nd ks :: Z) = some (.next (crE r S.length e1 (some (fr t)) (some (.tup [fr (r.pp t).1, fr (r.pp t).2]))), S ++ .nd (if r.inn t = true then putN ks (r.pp t) else ks) :: Z) := by
      have ok' : okRun r.w r.h r.x r.y r.a r.b := ok
      have bx : okBox r.w r.h r.x r.y r.a r.b := okRun.box ok'
      have d := hd t (List.mem_cons_self ..)
      have d1 := d.1
      have b2 : t.2.natAbs < big := big_lt (by omega)
      have PA : ∀ S, G_place_at [r.W, fr t] S = some (.tup [fr (r.pp t).1, fr (r.pp t).2], S) := fun S => by
        simp only [G_place_at, RunD.W, bx, d1, b2, and_self, if_true, RunD.pp]
      have IN : ∀ S, G_is_inside [r.W, .tup [fr (r.pp t).1, fr (r.pp t).2]] S = some (.bl (r.inn t), S) := fun S => is_inside_at ok _ _ S
      have lz : ks.length < sizeLine := Nat.lt_trans (show ks.length < 1000000 by omega) (by decide)
      have ep : ∀ q : (Int × Int) × (Int × Int), ppOf (.tup [.tup [.int q.1.1, .int q.1.2], .tup [.int q.2.1, .int q.2.2]]) = some q := fun q => rfl
      generalize r.pp t = q at *
      unfold crI crE
      clear h1 h2 hl hd ok' bx d d1 b2 pl pl' g
      cases e : r.inn t with
      | true =>
        rw [e] at IN
        simp only [if_true]
        simp only [fnB, en, List.map_cons, List.map_nil, List.length_cons, List.length_nil, List.replicate_succ, List.replicate_zero, List.cons_append, List.nil_append, List.append_nil, List.getElem?_cons_zero, List.getElem?_cons_succ, List.set_cons_zero, List.set_cons_succ,  Nat.zero_add, Nat.reduceAdd, Nat.reduceSub, Nat.sub_self, Nat.reduceEqDiff,  eVar, eC, eOp, eUn, aNil, aCons, eTup, eLst, eCall, eIf, eAnd, eOr, eNot, tVal, tAndW, tOrW, tNotW, eChain, sNext, sBrk, sCnt, sNever, sSeq, sRet, sRetN, sDrop, sIf, sAsg, sPar, sPar3, gN, gsNil, gsCons, gTupW, Option.bind_some, Option.bind_none,  s0, s1, s2, s3, s4, s6, subW, ltW, leW, gtW, geW, iop0, iop, modW, fdivW, powW, addW, mulW, negW, isi_int_int, isi_int_bool, isi_bl_int, isi_bl_bool, isi_non_int, isi_str_int, isi_tup_int, isi_tup_tup, eq_int, ne_int, len_p, len_6, len_l1, decide_true, decide_false, Int.reduceEq, Int.reduceNeg, absW, minW, ix_p0, ix_p1, ix_r0, ix_r1, ix_r2, ix_r3, ix_r4, ix_r5, if_true, if_false, ite_true, ite_false, Bool.not_true, Bool.not_false, Bool.false_eq_true, reduceIte, ↓reduceIte, gSubW, setNW, get_mid, set_mid, ppOf, ne_eq, not_false_eq_true, and_self, and_false, false_and, true_and, and_true, *]
      | false =>
        rw [e] at IN
        simp only [Bool.false_eq_true, if_false]
        simp only [fnB, en, List.map_cons, List.map_nil, List.length_cons, List.length_nil, List.replicate_succ, List.replicate_zero, List.cons_append, List.nil_append, List.append_nil, List.getElem?_cons_zero, List.getElem?_cons_succ, List.set_cons_zero, List.set_cons_succ,  Nat.zero_add, Nat.reduceAdd, Nat.reduceSub, Nat.sub_self, Nat.reduceEqDiff,  eVar, eC, eOp, eUn, aNil, aCons, eTup, eLst, eCall, eIf, eAnd, eOr, eNot, tVal, tAndW, tOrW, tNotW, eChain, sNext, sBrk, sCnt, sNever, sSeq, sRet, sRetN, sDrop, sIf, sAsg, sPar, sPar3, gN, gsNil, gsCons, gTupW, Option.bind_some, Option.bind_none,  s0, s1, s2, s3, s4, s6, subW, ltW, leW, gtW, geW, iop0, iop, modW, fdivW, powW, addW, mulW, negW, isi_int_int, isi_int_bool, isi_bl_int, isi_bl_bool, isi_non_int, isi_str_int, isi_tup_int, isi_tup_tup, eq_int, ne_int, len_p, len_6, len_l1, decide_true, decide_false, Int.reduceEq, Int.reduceNeg, absW, minW, ix_p0, ix_p1, ix_r0, ix_r1, ix_r2, ix_r3, ix_r4, ix_r5, if_true, if_false, ite_true, ite_false, Bool.not_true, Bool.not_false, Bool.false_eq_true, reduceIte, ↓reduceIte, gSubW, setNW, get_mid, set_mid, ppOf, ne_eq, not_false_eq_true, and_self, and_false, false_and, true_and, and_true, *]
    rw [bd]
    exact h1
theorem rowL_den {s t W : Int × Int} (ok : okRow s t W) : ∀ u ∈ rowL s t W, 0 < u.2 ∧ u.2 ≤ 1000000 := by
  obtain ⟨h1, h2, h3, h4, h5, h6, h7⟩ := ok
  intro u hu
  obtain ⟨m, _, rfl⟩ := List.mem_map.mp hu
  have u0 : 0 < s.2 * t.2 := Int.mul_pos h2.1 h4.1
  have ub : s.2 * t.2 ≤ 1000 * 1000 := Int.mul_le_mul h2.2 h4.2 (by omega) (by omega)
  exact ⟨(low_spec u0).1, Int.le_trans (lowD_le u0) (by omega)⟩
theorem rowL_len (s t W : Int × Int) : (rowL s t W).length = rwK s t W := by simp [rowL, rowK]
noncomputable def crL : Fs := (sFor (iSeq (eCall G_row_of (aCons (eVar 1) (aCons (eVar 8) (aCons (eVar 9) (aNil)))))) (gN 11) crI)
theorem crF_app (r : RunD) : ∀ (ts us : List (Int × Int)) (ks : List ((Int × Int) × (Int × Int))), r.crF (ts ++ us) ks = r.crF us (r.crF ts ks)
  | [], _, _ => rfl
  | t :: ts, us, ks => crF_app r ts us _
theorem cr_out (r : RunD) (ok : r.Ok) (S : Sto) (chk : Sto → Prop) (hk : ∀ S, chk S) : ∀ (ss : List (Int × Int)) (Z : Sto) (ks : List ((Int × Int) × (Int × Int))) (e1 e11 e12 : Option W), (∀ s ∈ ss, okRow s r.stp (Bp.per r.w r.h r.a r.b)) → ks.length + 100000 * ss.length < 1000000 → ∃ e1' e11' e12' Y, forF (gN 1) crL chk (ss.map fr) (crE r S.length e1 e11 e12) (S ++ .nd ks :: Z) = some (.next (crE r S.length e1' e11' e12'), S ++ .nd (r.crF (ss.flatMap fun s => rowL s r.stp (Bp.per r.w r.h r.a r.b)) ks) :: (Z ++ Y))
  | [], Z, ks, e1, e11, e12, _, _ => ⟨e1, e11, e12, [], by rw [List.map_nil, forF_nil, if_pos (hk _), List.append_nil]; rfl⟩
  | s :: ss, Z, ks, e1, e11, e12, ho, hl => by
    simp only [List.length_cons] at hl
    have o1 := ho s (List.mem_cons_self ..)
    have RO := row_of_at o1 (S ++ .nd ks :: Z)
    have ln := rowL_len s r.stp (Bp.per r.w r.h r.a r.b)
    have lb := o1.2.2.2.2.2.2
    have it := iSeq_ref (f := eCall G_row_of (aCons (eVar 1) (aCons (eVar 8) (aCons (eVar 9) (aNil))))) (e := crE r S.length (some (fr s)) e11 e12) (S := S ++ .nd ks :: Z) (S' := S ++ .nd ks :: (Z ++ [.lst ((rowL s r.stp (Bp.per r.w r.h r.a r.b)).map fr)])) (n := (S ++ .nd ks :: Z).length) (xs := (rowL s r.stp (Bp.per r.w r.h r.a r.b)).map fr) (by
      simp only [eCall, aCons, aNil, eVar, crE, List.getElem?_cons_zero, List.getElem?_cons_succ, Option.bind_some]
      rw [RO]
      simp only [List.append_assoc, List.cons_append]) (by
      rw [show S ++ O.nd ks :: (Z ++ [O.lst ((rowL s r.stp (Bp.per r.w r.h r.a r.b)).map fr)]) = (S ++ .nd ks :: Z) ++ [O.lst ((rowL s r.stp (Bp.per r.w r.h r.a r.b)).map fr)] by simp]
      exact get_last)
    obtain ⟨f11, f12, p1, p2⟩ := cr_in r ok S (Z ++ [.lst ((rowL s r.stp (Bp.per r.w r.h r.a r.b)).map fr)]) (some (fr s)) (fun S' => S'[(S ++ .nd ks :: Z).length]? = some (.lst ((rowL s r.stp (Bp.per r.w r.h r.a r.b)).map fr))) (fun ks' => by
      rw [show S ++ O.nd ks' :: (Z ++ [O.lst ((rowL s r.stp (Bp.per r.w r.h r.a r.b)).map fr)]) = (S ++ .nd ks' :: Z) ++ [O.lst ((rowL s r.stp (Bp.per r.w r.h r.a r.b)).map fr)] by simp, show (S ++ O.nd ks :: Z).length = (S ++ O.nd ks' :: Z).length by simp]
      exact get_last) (rowL s r.stp (Bp.per r.w r.h r.a r.b)) ks e11 e12 (rowL_den o1) (by omega)
    obtain ⟨g1, g11, g12, Y, p3⟩ := cr_out r ok S chk hk ss (Z ++ [.lst ((rowL s r.stp (Bp.per r.w r.h r.a r.b)).map fr)]) (r.crF (rowL s r.stp (Bp.per r.w r.h r.a r.b)) ks) (some (fr s)) f11 f12 (fun t ht => ho t (List.mem_cons_of_mem _ ht)) (by omega)
    refine ⟨g1, g11, g12, .lst ((rowL s r.stp (Bp.per r.w r.h r.a r.b)).map fr) :: Y, ?_⟩
    rw [List.map_cons, forF_cons, if_pos (hk _)]
    have g : gN 1 (fr s) (crE r S.length e1 e11 e12) (S ++ .nd ks :: Z) = some (crE r S.length (some (fr s)) e11 e12, S ++ .nd ks :: Z) := rfl
    rw [g]
    simp only [Option.bind_some]
    have bd : crL (crE r S.length (some (fr s)) e11 e12) (S ++ .nd ks :: Z) = some (.next (crE r S.length (some (fr s)) f11 f12), S ++ .nd (r.crF (rowL s r.stp (Bp.per r.w r.h r.a r.b)) ks) :: (Z ++ [.lst ((rowL s r.stp (Bp.per r.w r.h r.a r.b)).map fr)])) := by
      unfold crL sFor
      rw [it]
      simp only [Option.bind_some]
      exact p1
    rw [bd]
    simp only [Option.bind_some]
    rw [p3, List.flatMap_cons, crF_app, List.append_assoc]
    rfl
theorem t_crossings : Tells 13 b_crossings G_crossings := by
  intro ws S r hh
  unfold G_crossings at hh
  split at hh
  · split at hh
    · rename_i w h x y a b hb
      cases hh
      obtain ⟨k1, k2⟩ := hb
      have ok : RunD.Ok ⟨w, h, x, y, a, b⟩ := k1
      have N1 : ∀ S, G_need_run [.tup [.int w, .int h, .int x, .int y, .int a, .int b]] S = some (.non, S) := fun S => by simp only [G_need_run, k1, if_true]
      have PE : ∀ S, G_period_of [.tup [.int w, .int h, .int x, .int y, .int a, .int b]] S = some (fr (per w h a b), S) := fun S => by simp only [G_period_of, k1, if_true]
      obtain ⟨h1, h2, h3, h4, h5, h6, h7⟩ := id k1
      have e : b_crossings = sSeq (sDrop (eCall G_need_run (aCons (eVar 0) (aNil)))) (sSeq (sAsg (eVar 0) (gTupW 6 (gsCons (gN 2) (gsCons (gN 3) (gsCons (gN 4) (gsCons (gN 5) (gsCons (gN 6) (gsCons (gN 7) (gsNil))))))))) (sSeq (sIf (tOrW (tVal (eOp eqW (eVar 6) (eC (.int 0)))) (tVal (eOp eqW (eVar 7) (eC (.int 0))))) (sRet (eC (.int 0))) (sNext)) (sSeq (sPar3 8 9 10 (aCons (eCall G_common_part (aCons (eCall G_lowest (aCons (eVar 2) (aCons (eCall absW (aCons (eVar 6) (aNil))) (aNil)))) (aCons (eCall G_lowest (aCons (eVar 3) (aCons (eCall absW (aCons (eVar 7) (aNil))) (aNil)))) (aNil)))) (aCons (eCall G_period_of (aCons (eVar 0) (aNil))) (aCons (eNewN) (aNil))))) (sSeq (sFor (iSeq (eTup (aCons (eCall G_lowest (aCons (eUn negW (eVar 4)) (aCons (eVar 6) (aNil)))) (aCons (eCall G_lowest (aCons (eUn negW (eVar 5)) (aCons (eVar 7) (aNil)))) (aNil))))) (gN 1) crL) (sRet (eCall lenNW (aCons (eVar 10) (aNil)))))))) := rfl
      have st1 : ∀ t : Fs, sSeq (sDrop (eCall G_need_run (aCons (eVar 0) (aNil)))) (sSeq (sAsg (eVar 0) (gTupW 6 (gsCons (gN 2) (gsCons (gN 3) (gsCons (gN 4) (gsCons (gN 5) (gsCons (gN 6) (gsCons (gN 7) (gsNil))))))))) t) (en 13 [.tup [.int w, .int h, .int x, .int y, .int a, .int b]]) S = t [some (.tup [.int w, .int h, .int x, .int y, .int a, .int b]), none, some (.int w), some (.int h), some (.int x), some (.int y), some (.int a), some (.int b), none, none, none, none, none] S := by
        intro t
        refine' seq_trans (e' := en 13 [.tup [.int w, .int h, .int x, .int y, .int a, .int b]]) (S' := S) _ _
        · clear e k1 ok k2 PE
          simp only [fnB, en, List.map_cons, List.map_nil, List.length_cons, List.length_nil, List.replicate_succ, List.replicate_zero, List.cons_append, List.nil_append, List.append_nil, List.getElem?_cons_zero, List.getElem?_cons_succ, List.set_cons_zero, List.set_cons_succ,  Nat.zero_add, Nat.reduceAdd, Nat.reduceSub, Nat.sub_self, Nat.reduceEqDiff,  eVar, eC, eOp, eUn, aNil, aCons, eTup, eLst, eCall, eIf, eAnd, eOr, eNot, tVal, tAndW, tOrW, tNotW, eChain, sNext, sBrk, sCnt, sNever, sSeq, sRet, sRetN, sDrop, sIf, sAsg, sPar, sPar3, gN, gsNil, gsCons, gTupW, Option.bind_some, Option.bind_none,  s0, s1, s2, s3, s4, s6, subW, ltW, leW, gtW, geW, iop0, iop, modW, fdivW, powW, addW, mulW, negW, isi_int_int, isi_int_bool, isi_bl_int, isi_bl_bool, isi_non_int, isi_str_int, isi_tup_int, isi_tup_tup, eq_int, ne_int, len_p, len_6, len_l1, decide_true, decide_false, Int.reduceEq, Int.reduceNeg, absW, minW, ix_p0, ix_p1, ix_r0, ix_r1, ix_r2, ix_r3, ix_r4, ix_r5, if_true, if_false, ite_true, ite_false, Bool.not_true, Bool.not_false, Bool.false_eq_true, reduceIte, ↓reduceIte, s6, ne_eq, not_false_eq_true, and_self, and_false, false_and, true_and, and_true, *]
        refine' seq_trans (e' := [some (.tup [.int w, .int h, .int x, .int y, .int a, .int b]), none, some (.int w), some (.int h), some (.int x), some (.int y), some (.int a), some (.int b), none, none, none, none, none]) (S' := S) _ rfl
        clear e k1 ok k2 PE N1
        simp only [fnB, en, List.map_cons, List.map_nil, List.length_cons, List.length_nil, List.replicate_succ, List.replicate_zero, List.cons_append, List.nil_append, List.append_nil, List.getElem?_cons_zero, List.getElem?_cons_succ, List.set_cons_zero, List.set_cons_succ,  Nat.zero_add, Nat.reduceAdd, Nat.reduceSub, Nat.sub_self, Nat.reduceEqDiff,  eVar, eC, eOp, eUn, aNil, aCons, eTup, eLst, eCall, eIf, eAnd, eOr, eNot, tVal, tAndW, tOrW, tNotW, eChain, sNext, sBrk, sCnt, sNever, sSeq, sRet, sRetN, sDrop, sIf, sAsg, sPar, sPar3, gN, gsNil, gsCons, gTupW, Option.bind_some, Option.bind_none,  s0, s1, s2, s3, s4, s6, subW, ltW, leW, gtW, geW, iop0, iop, modW, fdivW, powW, addW, mulW, negW, isi_int_int, isi_int_bool, isi_bl_int, isi_bl_bool, isi_non_int, isi_str_int, isi_tup_int, isi_tup_tup, eq_int, ne_int, len_p, len_6, len_l1, decide_true, decide_false, Int.reduceEq, Int.reduceNeg, absW, minW, ix_p0, ix_p1, ix_r0, ix_r1, ix_r2, ix_r3, ix_r4, ix_r5, if_true, if_false, ite_true, ite_false, Bool.not_true, Bool.not_false, Bool.false_eq_true, reduceIte, ↓reduceIte, s6, ne_eq, not_false_eq_true, and_self, and_false, false_and, true_and, and_true, *]
      by_cases hz : a = 0 ∨ b = 0
      · refine ⟨(.int 0, S), fnB_ret ?_, ?_⟩
        · rw [e, st1]
          have st2 : (sIf (tOrW (tVal (eOp eqW (eVar 6) (eC (.int 0)))) (tVal (eOp eqW (eVar 7) (eC (.int 0))))) (sRet (eC (.int 0))) (sNext)) [some (.tup [.int w, .int h, .int x, .int y, .int a, .int b]), none, some (.int w), some (.int h), some (.int x), some (.int y), some (.int a), some (.int b), none, none, none, none, none] S = some (.ret (.int 0), S) := by
            clear e k1 ok k2 PE N1 st1
            by_cases ha : a = 0
            · clear hz
              simp only [fnB, en, List.map_cons, List.map_nil, List.length_cons, List.length_nil, List.replicate_succ, List.replicate_zero, List.cons_append, List.nil_append, List.append_nil, List.getElem?_cons_zero, List.getElem?_cons_succ, List.set_cons_zero, List.set_cons_succ,  Nat.zero_add, Nat.reduceAdd, Nat.reduceSub, Nat.sub_self, Nat.reduceEqDiff,  eVar, eC, eOp, eUn, aNil, aCons, eTup, eLst, eCall, eIf, eAnd, eOr, eNot, tVal, tAndW, tOrW, tNotW, eChain, sNext, sBrk, sCnt, sNever, sSeq, sRet, sRetN, sDrop, sIf, sAsg, sPar, sPar3, gN, gsNil, gsCons, gTupW, Option.bind_some, Option.bind_none,  s0, s1, s2, s3, s4, s6, subW, ltW, leW, gtW, geW, iop0, iop, modW, fdivW, powW, addW, mulW, negW, isi_int_int, isi_int_bool, isi_bl_int, isi_bl_bool, isi_non_int, isi_str_int, isi_tup_int, isi_tup_tup, eq_int, ne_int, len_p, len_6, len_l1, decide_true, decide_false, Int.reduceEq, Int.reduceNeg, absW, minW, ix_p0, ix_p1, ix_r0, ix_r1, ix_r2, ix_r3, ix_r4, ix_r5, if_true, if_false, ite_true, ite_false, Bool.not_true, Bool.not_false, Bool.false_eq_true, reduceIte, ↓reduceIte, s6, ne_eq, not_false_eq_true, and_self, and_false, false_and, true_and, and_true, *]
            · have hb : b = 0 := hz.resolve_left ha
              clear hz
              simp only [fnB, en, List.map_cons, List.map_nil, List.length_cons, List.length_nil, List.replicate_succ, List.replicate_zero, List.cons_append, List.nil_append, List.append_nil, List.getElem?_cons_zero, List.getElem?_cons_succ, List.set_cons_zero, List.set_cons_succ,  Nat.zero_add, Nat.reduceAdd, Nat.reduceSub, Nat.sub_self, Nat.reduceEqDiff,  eVar, eC, eOp, eUn, aNil, aCons, eTup, eLst, eCall, eIf, eAnd, eOr, eNot, tVal, tAndW, tOrW, tNotW, eChain, sNext, sBrk, sCnt, sNever, sSeq, sRet, sRetN, sDrop, sIf, sAsg, sPar, sPar3, gN, gsNil, gsCons, gTupW, Option.bind_some, Option.bind_none,  s0, s1, s2, s3, s4, s6, subW, ltW, leW, gtW, geW, iop0, iop, modW, fdivW, powW, addW, mulW, negW, isi_int_int, isi_int_bool, isi_bl_int, isi_bl_bool, isi_non_int, isi_str_int, isi_tup_int, isi_tup_tup, eq_int, ne_int, len_p, len_6, len_l1, decide_true, decide_false, Int.reduceEq, Int.reduceNeg, absW, minW, ix_p0, ix_p1, ix_r0, ix_r1, ix_r2, ix_r3, ix_r4, ix_r5, if_true, if_false, ite_true, ite_false, Bool.not_true, Bool.not_false, Bool.false_eq_true, reduceIte, ↓reduceIte, s6, ne_eq, not_false_eq_true, and_self, and_false, false_and, true_and, and_true, *]
          simp only [sSeq, st2, Option.bind_some]
        · have : RunD.ncr ⟨w, h, x, y, a, b⟩ = 0 := by unfold RunD.ncr; rw [if_pos hz]
          rw [this]
          exact .same _
      · have ha : ¬ a = 0 := fun z => hz (.inl z)
        have hb : ¬ b = 0 := fun z => hz (.inr z)
        have k3 : okCp (low w (a.natAbs : Nat)) (low h (b.natAbs : Nat)) ∧ ∀ s ∈ RunD.sts ⟨w, h, x, y, a, b⟩, okRow s (RunD.stp ⟨w, h, x, y, a, b⟩) (per w h a b) := by
          rcases k2 with z | z | z
          · exact absurd z ha
          · exact absurd z hb
          · exact z
        obtain ⟨f1, f11, f12, Y, hl⟩ := cr_out ⟨w, h, x, y, a, b⟩ ok S (fun _ => True) (fun _ => trivial) (RunD.sts ⟨w, h, x, y, a, b⟩) [] [] none none none k3.2 (by show 0 + 100000 * 2 < 1000000; decide)
        rw [List.nil_append] at hl
        have nc : RunD.ncr ⟨w, h, x, y, a, b⟩ = (RunD.crF ⟨w, h, x, y, a, b⟩ (RunD.crT ⟨w, h, x, y, a, b⟩) []).length := by unfold RunD.ncr; rw [if_neg hz]
        rw [nc]
        refine ⟨(.int ((RunD.crF ⟨w, h, x, y, a, b⟩ (RunD.crT ⟨w, h, x, y, a, b⟩) []).length : Nat), S ++ .nd (RunD.crF ⟨w, h, x, y, a, b⟩ (RunD.crT ⟨w, h, x, y, a, b⟩) []) :: Y), fnB_ret ?_, .val _ _ rfl⟩
        rw [e, st1]
        have LW : ∀ (n d : Int) (hd : ¬ d = 0) (hs : d.natAbs ≤ 6) S, G_lowest [.int n, .int d] S = some (fr (low n d), S) := fun n d hd hs S => by
          have a2 : d.natAbs < big := big_lt (by omega)
          simp only [G_lowest, ne_eq, hd, not_false_eq_true, a2, and_self, if_true]
        have L1 := LW w (a.natAbs : Nat) (by omega) (by omega)
        have L2 := LW h (b.natAbs : Nat) (by omega) (by omega)
        have L3 := LW (-x) a ha (by omega)
        have L4 := LW (-y) b hb (by omega)
        have CP := common_part_at k3.1
        refine' seq_trans (e' := [some (.tup [.int w, .int h, .int x, .int y, .int a, .int b]), none, some (.int w), some (.int h), some (.int x), some (.int y), some (.int a), some (.int b), none, none, none, none, none]) (S' := S) _ _
        · clear e k1 ok k2 k3 PE N1 st1 hl nc LW L1 L2 L3 L4 CP hz
          simp only [fnB, en, List.map_cons, List.map_nil, List.length_cons, List.length_nil, List.replicate_succ, List.replicate_zero, List.cons_append, List.nil_append, List.append_nil, List.getElem?_cons_zero, List.getElem?_cons_succ, List.set_cons_zero, List.set_cons_succ,  Nat.zero_add, Nat.reduceAdd, Nat.reduceSub, Nat.sub_self, Nat.reduceEqDiff,  eVar, eC, eOp, eUn, aNil, aCons, eTup, eLst, eCall, eIf, eAnd, eOr, eNot, tVal, tAndW, tOrW, tNotW, eChain, sNext, sBrk, sCnt, sNever, sSeq, sRet, sRetN, sDrop, sIf, sAsg, sPar, sPar3, gN, gsNil, gsCons, gTupW, Option.bind_some, Option.bind_none,  s0, s1, s2, s3, s4, s6, subW, ltW, leW, gtW, geW, iop0, iop, modW, fdivW, powW, addW, mulW, negW, isi_int_int, isi_int_bool, isi_bl_int, isi_bl_bool, isi_non_int, isi_str_int, isi_tup_int, isi_tup_tup, eq_int, ne_int, len_p, len_6, len_l1, decide_true, decide_false, Int.reduceEq, Int.reduceNeg, absW, minW, ix_p0, ix_p1, ix_r0, ix_r1, ix_r2, ix_r3, ix_r4, ix_r5, if_true, if_false, ite_true, ite_false, Bool.not_true, Bool.not_false, Bool.false_eq_true, reduceIte, ↓reduceIte, s6, ne_eq, not_false_eq_true, and_self, and_false, false_and, true_and, and_true, *]
        refine' seq_trans (e' := crE ⟨w, h, x, y, a, b⟩ S.length none none none) (S' := S ++ [.nd []]) _ _
        · clear e k1 ok k2 k3 N1 st1 hl nc LW L3 L4 hz
          unfold crE
          simp only [abs_if, sPar3, eCall, eNewN, aCons, aNil, eVar, absW, List.getElem?_cons_zero, List.getElem?_cons_succ, Option.bind_some, L1, L2, CP, PE, List.set_cons_zero, List.set_cons_succ]
          rfl
        refine' seq_trans (e' := crE ⟨w, h, x, y, a, b⟩ S.length f1 f11 f12) (S' := S ++ .nd (RunD.crF ⟨w, h, x, y, a, b⟩ (RunD.crT ⟨w, h, x, y, a, b⟩) []) :: Y) _ _
        · have it : iSeq (eTup (aCons (eCall G_lowest (aCons (eUn negW (eVar 4)) (aCons (eVar 6) (aNil)))) (aCons (eCall G_lowest (aCons (eUn negW (eVar 5)) (aCons (eVar 7) (aNil)))) (aNil)))) (crE ⟨w, h, x, y, a, b⟩ S.length none none none) (S ++ [.nd []]) = some (⟨(RunD.sts ⟨w, h, x, y, a, b⟩).map fr, fun _ => True⟩, S ++ [.nd []]) := by
            unfold iSeq crE
            have l2 : (2 : Nat) ≤ sizeLine := s2
            simp only [eTup, eCall, eUn, negW, aCons, aNil, eVar, List.getElem?_cons_zero, List.getElem?_cons_succ, Option.bind_some, L3, L4, List.length_cons, List.length_nil, Nat.zero_add, Nat.reduceAdd, l2, if_true]
            rfl
          simp only [sFor, it, Option.bind_some]
          exact hl
        simp only [sRet, eCall, aCons, aNil, eVar, crE, List.getElem?_cons_zero, List.getElem?_cons_succ, Option.bind_some, lenNW, get_mid]
    · cases hh
  · cases hh
theorem l_crossings : ∀ ws S r, G_crossings ws S = some r → ws.length = 1 := by
  intro ws S r h
  unfold G_crossings at h
  split at h <;> first | rfl | cases h
end Bp

/-! Lw7: how the laws begin: a run, its unit, its period, its walk. -/
namespace Bp
set_option autoImplicit false
open PySem L2
theorem open_run (ns : List Int) (at_ lf : Int) (ha : 0 ≤ at_) (A B : Nat) (hA : 0 < A ∧ A ≤ 12) (hB : 0 < B ∧ B ≤ 6) (Y : Sto) : ∃ (r : RunD) (a' l' : Int), r.Ok ∧ r.w ≤ A ∧ r.h ≤ A ∧ r.a.natAbs ≤ B ∧ r.b.natAbs ≤ B ∧ 0 ≤ a' ∧ G__law_run [.fz (ns.map W.int), .ref 0, .int (A : Nat), .int (B : Nat)] (tn at_ lf :: Y) = some (r.W, tn a' l' :: Y) := by
  obtain ⟨w, h, x, y, a, b, a', l', b1, b2, b3, b4, b5, b6, b7, b8, q⟩ := run0 ns at_ lf (A : Nat) (B : Nat) Y (by omega) (by omega) (by omega) (by omega) ha
  exact ⟨⟨w, h, x, y, a, b⟩, a', l', RunD.mkOk ⟨by omega, by omega, b3, b4, ⟨by omega, by omega⟩, ⟨by omega, by omega⟩, b7⟩, by show w ≤ _; omega, by show h ≤ _; omega, by show a.natAbs ≤ B; omega, by show b.natAbs ≤ B; omega, b8, q⟩
theorem open_unit {r : RunD} (ok : r.Ok) {B : Nat} (hB : 0 < B) (ha : r.a.natAbs ≤ B) (hb : r.b.natAbs ≤ B) : ∃ U, UOk r U ∧ U ≤ (B : Int) * B ∧ ∀ S, G__law_unit [.tup [.int r.a, .int r.b]] S = some (.int U, S) := by
  obtain ⟨h1, h2, h3, h4, h5, h6, h7⟩ : okRun r.w r.h r.x r.y r.a r.b := ok
  obtain ⟨U1, U2, da, db⟩ := unit_facts (a := r.a) (b := r.b) (A := (B : Int)) (by omega) (by omega) (by omega)
  exact ⟨_, ⟨U1, da, db⟩, U2, fun S => unit_tup2 r.a r.b S (by omega) (by omega)⟩
section
variable {r : RunD} {U : Int} {T : Nat → Nat} {P : Nat}
theorem RunT.Pb (R : RunT r U T P) : (P : Int) ≤ 576 * U := by
  have ok : okRun r.w r.h r.x r.y r.a r.b := R.ok
  obtain ⟨b1, b2⟩ := per_le ok
  have b1' : r.per.1 ≤ 576 := b1
  have h1 : r.per.1 * U ≤ 576 * U := Int.mul_le_mul_of_nonneg_right b1' (by have := R.u.pos; omega)
  have h2 : 1 * (P : Int) ≤ r.per.2 * (P : Int) := Int.mul_le_mul_of_nonneg_right (by have := R.p2; omega) (by omega)
  have := R.e
  omega
theorem RunT.fd (R : RunT r U T P) : (r.per.1 * U).fdiv r.per.2 = (P : Nat) := by
  rw [Int.fdiv_eq_ediv_of_nonneg _ (by have := R.p2; omega), R.e]
  exact Int.mul_ediv_cancel_left _ (by have := R.p2; omega)
theorem per_small (ok : r.Ok) : 0 < r.per.1 ∧ r.per.1 ≤ 576 ∧ 0 < r.per.2 ∧ r.per.2 ≤ 6 := by
  have ok' : okRun r.w r.h r.x r.y r.a r.b := ok
  obtain ⟨b1, b2⟩ := per_le ok'
  obtain ⟨p1, p2, _⟩ := per_mul ok'
  exact ⟨p1, b1, p2, b2⟩
theorem walk_in (ok : r.Ok) (u : UOk r U) (m : Nat) (hm : m < 10000000) (S : Sto) : G__law_walk [r.W, .int U, .int (m : Nat)] S = some (.tup [.ref S.length, .ref (S.length + 1), .ref (S.length + 2)], S ++ [.lst (((List.range (m + 1)).map (r.wk U).sp).map fr), .lst ((r.wk U).ways m), .lst ((r.wk U).walls m)]) := by
  obtain ⟨h1, h2, h3, h4, h5, h6, h7⟩ : okRun r.w r.h r.x r.y r.a r.b := ok
  have wk : wkOk r.w r.h r.x r.y r.a r.b U (m : Nat) := ⟨⟨by omega, by omega⟩, ⟨by omega, by omega⟩, h3, h4, u.da, u.db, u.pos, by omega, by omega⟩
  simp only [G__law_walk, RunD.W, wk, if_true, Int.toNat_natCast, WalkD.spots_fr]
  rfl
end
theorem slice_run4 (r : RunD) (S : Sto) : sliceW r.W (some 4) none S = some (.tup [.int r.a, .int r.b], S) := rfl
theorem period_at' {r : RunD} (ok : r.Ok) (S : Sto) : G_period [r.W] S = some (.tup [.int r.per.1, .int r.per.2], S) := period_at ok S
end Bp

/-! Mt16: visited places, the first corner, told in parts of time. -/
namespace Bp
set_option autoImplicit false
open PySem L2
section
variable {r : RunD} {U : Int} {T : Nat → Nat} {P : Nat}
theorem g_unit (ok : r.Ok) (u : UOk r U) : ∃ c, 0 < c ∧ U = r.g * c := by
  obtain ⟨g1, g2, g3, g4⟩ := g_pos ok
  have ok' : okRun r.w r.h r.x r.y r.a r.b := ok
  have d : r.g ∣ U := by
    by_cases ha : r.a = 0
    · exact Int.dvd_trans g4 (u.db fun z => ok'.2.2.2.2.2.2 ⟨ha, z⟩)
    · exact Int.dvd_trans g3 (u.da ha)
  obtain ⟨c, hc⟩ := d
  exact ⟨c, Int.pos_of_mul_pos_right (a := r.g) (by rw [← hc]; exact u.pos) g1, hc⟩
/-- a turn has vN such parts -/
theorem vN_eq (R : RunT r U T P) {c : Int} (c0 : 0 < c) (hc : U = r.g * c) : (P : Int) = (r.vN : Nat) * c := by
  obtain ⟨g1, g2, g3, g4⟩ := g_pos R.ok
  have ok' : okRun r.w r.h r.x r.y r.a r.b := R.ok
  obtain ⟨p1, p2, ⟨k, e1⟩, ⟨l, e2⟩⟩ := per_mul ok'
  have d : (Bp.per r.w r.h r.a r.b).2 ∣ r.g * (Bp.per r.w r.h r.a r.b).1 := by
    have d1 : (Bp.per r.w r.h r.a r.b).2 ∣ (Bp.per r.w r.h r.a r.b).1 * r.a := ⟨2 * r.w * k, by rw [Int.mul_comm, e1]; grind⟩
    have d2 : (Bp.per r.w r.h r.a r.b).2 ∣ (Bp.per r.w r.h r.a r.b).1 * r.b := ⟨2 * r.h * l, by rw [Int.mul_comm, e2]; grind⟩
    have := gcd_of_dvd d1 d2
    rw [Int.mul_comm]
    exact this
  obtain ⟨n, hn⟩ := d
  have ev : (Bp.per r.w r.h r.a r.b).1 * r.g / (Bp.per r.w r.h r.a r.b).2 = n := by
    rw [Int.mul_comm, hn]
    exact Int.mul_ediv_cancel_left _ (by omega)
  have n0 : 0 ≤ n := by rw [← ev]; exact (vN_bd R.ok).1
  have en : ((r.vN : Nat) : Int) = n := by
    unfold RunD.vN
    rw [ev]
    omega
  have e : (Bp.per r.w r.h r.a r.b).1 * U = (Bp.per r.w r.h r.a r.b).2 * (P : Int) := R.e
  apply Int.eq_of_mul_eq_mul_left (a := (Bp.per r.w r.h r.a r.b).2) (by omega)
  rw [← e, hc, en, show (Bp.per r.w r.h r.a r.b).1 * (r.g * c) = (r.g * (Bp.per r.w r.h r.a r.b).1) * c by grind, hn]
  grind
theorem px_vpl {w x a g c : Int} (hw : 0 < w) (g0 : 0 < g) (c0 : 0 < c) (hd : g ∣ a) (n : Nat) {t : Nat} (ht : (t : Int) = (n : Int) * c) : px (x * (g * c)) (w * (g * c)) a t = foldI (x + a / g * (n : Int)) w * (g * c) := by
  obtain ⟨a', rfl⟩ := hd
  unfold px
  rw [ht, Int.mul_ediv_cancel_left _ (by omega), show x * (g * c) + g * a' * ((n : Int) * c) = (g * c) * (x + a' * (n : Int)) by grind, Int.mul_comm w, foldI_scale (Int.mul_pos g0 c0), Int.mul_comm]
/-- the whole places of a turn -/
theorem vis_mem (R : RunT r U T P) (s : Int × Int) : s ∈ r.vis ↔ ∃ t, t < P ∧ At2 r U s.1 s.2 t := by
  obtain ⟨g1, g2, g3, g4⟩ := g_pos R.ok
  obtain ⟨c, c0, hc⟩ := g_unit R.ok R.u
  have hN := vN_eq R c0 hc
  obtain ⟨h1, h2, _⟩ : okRun r.w r.h r.x r.y r.a r.b := R.ok
  have pv : ∀ (n t : Nat), (t : Int) = (n : Int) * c → At2 r U (r.vpl n).1 (r.vpl n).2 t := fun n t ht => by
    rw [at2_iff, hc]
    exact ⟨px_vpl (by omega) g1 c0 g3 n ht, px_vpl (by omega) g1 c0 g4 n ht⟩
  unfold RunD.vis
  rw [srtO_mem pairO, List.mem_map]
  constructor
  · rintro ⟨n, hn, rfl⟩
    have hn' := List.mem_range.mp hn
    have ct : ((((n : Int) * c).toNat : Nat) : Int) = (n : Int) * c := by
      have := Int.mul_nonneg (show (0 : Int) ≤ n by omega) (Int.le_of_lt c0)
      omega
    refine ⟨((n : Int) * c).toNat, ?_, pv n _ ct⟩
    have : (n : Int) * c < (r.vN : Nat) * c := Int.mul_lt_mul_of_pos_right (by omega) c0
    omega
  · rintro ⟨t, ht, hA⟩
    have hb : ∀ {w x a i : Int}, 0 < w → px (x * U) (w * U) a t = i * U → U ∣ a * (t : Int) := by
      intro w x a i hw h
      unfold px at h
      have b := foldI_bounds (z := x * U + a * (t : Int)) (m := w * U) (Int.mul_pos hw R.u.pos)
      rw [h] at b
      have i0 : 0 ≤ i := by
        rcases Int.lt_or_le i 0 with z | z
        · have := Int.mul_neg_of_neg_of_pos z R.u.pos; omega
        · exact z
      have i1 : i ≤ w := by
        rcases Int.lt_or_le w i with z | z
        · have := Int.mul_lt_mul_of_pos_right z R.u.pos; omega
        · exact z
      obtain ⟨k, _, q, hq⟩ := (px_spot hw R.u.pos i0 i1 t).mp h
      simp only at hq
      exact ⟨2 * w * q + (k - x), by rw [show a * (t : Int) = 2 * w * U * q + (k - x) * U by omega]; grind⟩
    obtain ⟨q1, q2⟩ := at2_iff.mp hA
    have d1 := hb (show 0 < r.w by omega) q1
    have d2 := hb (show 0 < r.h by omega) q2
    have dg : U ∣ (t : Int) * r.g := gcd_of_dvd (by rw [Int.mul_comm]; exact d1) (by rw [Int.mul_comm]; exact d2)
    have dc : c ∣ (t : Int) := by
      obtain ⟨z, hz⟩ := dg
      refine ⟨z, Int.eq_of_mul_eq_mul_left (a := r.g) (by omega) ?_⟩
      rw [Int.mul_comm, hz, hc]; grind
    obtain ⟨n, hn⟩ := dc
    have n0 : 0 ≤ n := by
      rcases Int.lt_or_le n 0 with z | z
      · have := Int.mul_neg_of_pos_of_neg c0 z; omega
      · exact z
    have cn : ((n.toNat : Nat) : Int) = n := by omega
    refine ⟨n.toNat, List.mem_range.mpr ?_, ?_⟩
    · have : n * c < (r.vN : Nat) * c := by rw [← hN, Int.mul_comm, ← hn]; omega
      have := Int.lt_of_mul_lt_mul_right this (Int.le_of_lt c0)
      omega
    · have := pv n.toNat t (by rw [cn, hn, Int.mul_comm])
      rw [at2_iff] at this
      obtain ⟨z1, z2⟩ := this
      rw [q1] at z1
      rw [q2] at z2
      have U0 := R.u.pos
      exact Prod.ext (Int.eq_of_mul_eq_mul_right (by omega) z1).symm (Int.eq_of_mul_eq_mul_right (by omega) z2).symm
/-! ### the first corner -/
/-- the first one of some places -/
def IsCor (r : RunD) (U : Int) (ss : List (Int × Int)) (res : Option ((Int × Int) × (Int × Int))) : Prop :=
  (res = none ∧ ∀ s ∈ ss, ∀ t, ¬ At2 r U s.1 s.2 t) ∨ ∃ (t : Nat) (s : Int × Int), res = some (low (t : Int) U, s) ∧ s ∈ ss ∧ At2 r U s.1 s.2 t ∧ ∀ s' ∈ ss, ∀ t', At2 r U s'.1 s'.2 t' → t ≤ t'
theorem At2.uniq (hU : 0 < U) {s s' : Int × Int} {t : Nat} (h : At2 r U s.1 s.2 t) (h' : At2 r U s'.1 s'.2 t) : s = s' := by
  unfold At2 at h h'
  rw [h] at h'
  simp only [Prod.mk.injEq] at h'
  exact Prod.ext (Int.eq_of_mul_eq_mul_right (by omega) h'.1) (Int.eq_of_mul_eq_mul_right (by omega) h'.2)
theorem IsCor.uniq (hU : 0 < U) {ss : List (Int × Int)} {x y : Option ((Int × Int) × (Int × Int))} (h : IsCor r U ss x) (h' : IsCor r U ss y) : x = y := by
  rcases h with ⟨rfl, h⟩ | ⟨t, s, rfl, h1, h2, h3⟩ <;> rcases h' with ⟨rfl, g⟩ | ⟨t', s', rfl, g1, g2, g3⟩
  · rfl
  · exact absurd g2 (h _ g1 _)
  · exact absurd h2 (g _ h1 _)
  · have e : t = t' := Nat.le_antisymm (h3 _ g1 _ g2) (g3 _ h1 _ h2)
    subst e
    rw [At2.uniq hU h2 g2]
theorem fcor_is (ok : r.Ok) (u : UOk r U) : ∀ (ss qs : List (Int × Int)) (b : Option ((Int × Int) × (Int × Int))), (∀ s ∈ ss, inBox r.w r.h s.1 s.2) → IsCor r U qs b → IsCor r U (qs ++ ss) (r.fcor ss b)
  | [], qs, b, _, h => by rw [List.append_nil]; exact h
  | s :: ss, qs, b, hb, h => by
    rw [show qs ++ s :: ss = (qs ++ [s]) ++ ss by simp]
    refine fcor_is ok u ss (qs ++ [s]) _ (fun q hq => hb q (List.mem_cons_of_mem _ hq)) ?_
    have ff := fat_first ok u (hb s (List.mem_cons_self ..))
    have mem : ∀ {q : Int × Int}, q ∈ qs ++ [s] ↔ q ∈ qs ∨ q = s := by simp
    rcases ff with ⟨e, f1⟩ | ⟨t, e, f1, f2⟩
    · rw [e]
      simp only
      rcases h with ⟨rfl, h⟩ | ⟨t', s', rfl, h1, h2, h3⟩
      · refine .inl ⟨rfl, fun q hq t => ?_⟩
        rcases mem.mp hq with hq | rfl
        · exact h q hq t
        · exact f1 t
      · refine .inr ⟨t', s', rfl, mem.mpr (.inl h1), h2, fun q hq t => ?_⟩
        rcases mem.mp hq with hq | rfl
        · exact h3 q hq t
        · exact fun z => absurd z (f1 t)
    · rw [e]
      rcases h with ⟨rfl, h⟩ | ⟨t', s', rfl, h1, h2, h3⟩
      · refine .inr ⟨t, s, rfl, mem.mpr (.inr rfl), f1, fun q hq v hv => ?_⟩
        rcases mem.mp hq with hq | rfl
        · exact absurd hv (h q hq v)
        · exact f2 v hv
      · simp only
        by_cases lt : t < t'
        · rw [if_pos ((less_low u.pos).mpr (by omega))]
          refine .inr ⟨t, s, rfl, mem.mpr (.inr rfl), f1, fun q hq v hv => ?_⟩
          rcases mem.mp hq with hq | rfl
          · have := h3 q hq v hv; omega
          · exact f2 v hv
        · rw [if_neg fun z => lt (by have := (less_low u.pos).mp z; omega)]
          refine .inr ⟨t', s', rfl, mem.mpr (.inl h1), h2, fun q hq v hv => ?_⟩
          rcases mem.mp hq with hq | rfl
          · exact h3 q hq v hv
          · have := f2 v hv; omega
theorem corner_is (ok : r.Ok) (u : UOk r U) : IsCor r U r.cors r.corner := by
  obtain ⟨h1, h2, _⟩ : okRun r.w r.h r.x r.y r.a r.b := id ok
  have := fcor_is ok u r.cors [] none (by
    intro s hs
    simp only [RunD.cors, List.mem_cons, List.not_mem_nil, or_false] at hs
    unfold inBox
    rcases hs with rfl | rfl | rfl | rfl <;> simp only <;> omega) (.inl ⟨rfl, by simp⟩)
  rwa [List.nil_append] at this
end
end Bp

/-! Mt17: crossings, told in parts of time. -/
namespace Bp
set_option autoImplicit false
open PySem L2
/-! ### fractions by a unit -/
theorem low_unit {n d U c : Int} (hU : 0 < U) (hc : U = d * c) : low n d = low (n * c) U := by
  have d0 : d ≠ 0 := fun z => by rw [z, Int.zero_mul] at hc; omega
  rcases Int.lt_or_lt_of_ne d0 with h | h
  · rw [low_neg h]
    refine low_eq (by omega) hU ?_
    rw [hc]; grind
  · refine low_eq h hU ?_
    rw [hc]; grind
/-- both speeds run: the ticks from wall to wall, and when the ball would be at the walls 0 -/
structure Cr (r : RunD) (U : Int) (A B sx sy : Int) : Prop where
  a0 : r.a ≠ 0
  b0 : r.b ≠ 0
  U0 : 0 < U
  A0 : 0 < A
  B0 : 0 < B
  eA : r.w * U = A * (r.a.natAbs : Nat)
  eB : r.h * U = B * (r.b.natAbs : Nat)
  ex : r.x * U = -(r.a * sx)
  ey : r.y * U = -(r.b * sy)
  lx : low (-r.x) r.a = low sx U
  ly : low (-r.y) r.b = low sy U
theorem cr_of {r : RunD} (ok : r.Ok) {U : Int} (u : UOk r U) (a0 : r.a ≠ 0) (b0 : r.b ≠ 0) : ∃ A B sx sy, Cr r U A B sx sy := by
  obtain ⟨h1, h2, _⟩ : okRun r.w r.h r.x r.y r.a r.b := id ok
  have U0 := u.pos
  have key : ∀ {w a : Int}, 0 < w → a ≠ 0 → a ∣ U → ∃ A, 0 < A ∧ w * U = A * (a.natAbs : Nat) := by
    intro w a hw ha hd
    obtain ⟨c, hc⟩ := Int.natAbs_dvd.mpr hd
    have c0 : 0 < c := Int.pos_of_mul_pos_right (a := ((a.natAbs : Nat) : Int)) (by rw [← hc]; exact U0) (by omega)
    exact ⟨w * c, Int.mul_pos hw c0, by rw [hc]; grind⟩
  obtain ⟨A, A0, eA⟩ := key (w := r.w) (by omega) a0 (u.da a0)
  obtain ⟨B, B0, eB⟩ := key (w := r.h) (by omega) b0 (u.db b0)
  obtain ⟨c, hc⟩ := u.da a0
  obtain ⟨d, hd⟩ := u.db b0
  exact ⟨A, B, -r.x * c, -r.y * d, a0, b0, U0, A0, B0, eA, eB, by rw [hc]; grind, by rw [hd]; grind, low_unit U0 hc, low_unit U0 hd⟩
section
variable {r : RunD} {U A B sx sy : Int}
abbrev gd (A B : Int) : Int := (Int.gcd A B : Nat)
theorem gd_pos (h : 0 < A) : 0 < gd A B := by
  have : 0 < Int.gcd A B := Nat.pos_of_ne_zero fun z => by have := (Int.gcd_eq_zero_iff.mp z).1; omega
  unfold gd; omega
theorem Cr.step (C : Cr r U A B sx sy) (ok : r.Ok) : r.stp = low (gd A B) U := by
  obtain ⟨h1, h2, _⟩ : okRun r.w r.h r.x r.y r.a r.b := id ok
  have a1 : (0 : Int) < (r.a.natAbs : Nat) := by have := C.a0; omega
  have b1 : (0 : Int) < (r.b.natAbs : Nat) := by have := C.b0; omega
  obtain ⟨s1, s2, _⟩ := low_spec (n := r.w) a1
  obtain ⟨t1, t2, _⟩ := low_spec (n := r.h) b1
  unfold RunD.stp cpt
  generalize low r.w (r.a.natAbs : Nat) = p at *
  generalize low r.h (r.b.natAbs : Nat) = q at *
  have e1 : p.1 * U = A * p.2 := by
    apply Int.eq_of_mul_eq_mul_right (a := ((r.a.natAbs : Nat) : Int)) (by omega)
    rw [show p.1 * U * ((r.a.natAbs : Nat) : Int) = (p.1 * ((r.a.natAbs : Nat) : Int)) * U by grind, ← s2, show r.w * p.2 * U = (r.w * U) * p.2 by grind, C.eA]; grind
  have e2 : q.1 * U = B * q.2 := by
    apply Int.eq_of_mul_eq_mul_right (a := ((r.b.natAbs : Nat) : Int)) (by omega)
    rw [show q.1 * U * ((r.b.natAbs : Nat) : Int) = (q.1 * ((r.b.natAbs : Nat) : Int)) * U by grind, ← t2, show r.h * q.2 * U = (r.h * U) * q.2 by grind, C.eB]; grind
  have m0 : 0 < p.2 * q.2 := Int.mul_pos s1 t1
  refine low_eq m0 C.U0 ?_
  have g1 : ((Int.gcd (p.1 * q.2) (q.1 * p.2) : Nat) : Int) * U = ((Int.gcd (U * (p.1 * q.2)) (U * (q.1 * p.2)) : Nat) : Int) := by
    rw [Int.gcd_mul_left, Int.natCast_mul, Int.mul_comm]
    have : ((U.natAbs : Nat) : Int) = U := by have := C.U0; omega
    rw [this]
  have g2 : ((Int.gcd ((p.2 * q.2) * A) ((p.2 * q.2) * B) : Nat) : Int) = gd A B * (p.2 * q.2) := by
    rw [Int.gcd_mul_left, Int.natCast_mul, Int.mul_comm]
    have : (((p.2 * q.2).natAbs : Nat) : Int) = p.2 * q.2 := by omega
    rw [this]
  rw [g1, ← g2, show U * (p.1 * q.2) = p.2 * q.2 * A by rw [show U * (p.1 * q.2) = (p.1 * U) * q.2 by grind, e1]; grind, show U * (q.1 * p.2) = p.2 * q.2 * B by rw [show U * (q.1 * p.2) = (q.1 * U) * p.2 by grind, e2]; grind]
/-- one row of times, in ticks -/
theorem row_ticks {s t W : Int × Int} {U S G : Int} {P K : Nat} (hU : 0 < U) (G0 : 0 < G) (hs : s = low S U) (ht : t = low G U) (w2 : 0 < W.2) (hW : W.1 * U = W.2 * (P : Int)) (hP : (P : Int) = G * (K : Int)) :
    W.1 * (s.2 * t.2) = W.2 * (t.1 * s.2) * (rwK s t W : Nat) ∧ rwK s t W = K ∧ rowL s t W = (List.range K).map fun i : Nat => low (S % G + G * (i : Int)) U := by
  obtain ⟨s1, s2, _⟩ := low_spec (n := S) hU
  obtain ⟨t1, t2, _⟩ := low_spec (n := G) hU
  rw [← hs] at s1 s2
  rw [← ht] at t1 t2
  have tp : 0 < t.1 := by rw [ht]; exact low_pos' G0 hU
  have m0 : 0 < s.2 * t.2 := Int.mul_pos s1 t1
  have k0 : 0 < t.1 * s.2 := Int.mul_pos tp s1
  have eq : W.1 * (s.2 * t.2) = W.2 * (t.1 * s.2) * (K : Int) := by
    apply Int.eq_of_mul_eq_mul_right (a := U) (by omega)
    rw [show W.1 * (s.2 * t.2) * U = (W.1 * U) * (s.2 * t.2) by grind, hW, hP, show W.2 * (t.1 * s.2) * (K : Int) * U = W.2 * ((t.1 * U) * s.2) * (K : Int) by grind, ← t2]; grind
  have eK : rwK s t W = K := by
    unfold rwK
    rw [eq, Int.mul_ediv_cancel_left _ (by have := Int.mul_pos w2 k0; omega)]
    omega
  refine ⟨by rw [eK]; exact eq, eK, ?_⟩
  unfold rowL rowK
  rw [eK]
  apply List.map_congr_left
  intro i _
  refine low_eq m0 hU ?_
  have v : rwV s t * U = s.2 * t.2 * (S % G) := by
    unfold rwV
    have e1 : s.1 * t.2 * U = s.2 * t.2 * S := by rw [show s.1 * t.2 * U = (s.1 * U) * t.2 by grind, ← s2]; grind
    have e2 : t.1 * s.2 * U = s.2 * t.2 * G := by rw [show t.1 * s.2 * U = (t.1 * U) * s.2 by grind, ← t2]; grind
    rw [← Int.mul_emod_mul_of_pos _ _ m0, ← e1, ← e2, Int.mul_comm _ U, Int.mul_comm _ U, Int.mul_comm _ U, Int.mul_emod_mul_of_pos _ _ hU]
  rw [Int.add_mul, v, show t.1 * s.2 * (i : Int) * U = ((t.1 * U) * s.2) * (i : Int) by grind, ← t2]; grind
end
end Bp

/-! Pg5: round_of, parting. -/
namespace Bp
set_option autoImplicit false
open PySem L2
namespace RunD
def most1 (r : RunD) (s v : Int) : Int := ((2 * r.per.1 * (v.natAbs : Nat)).fdiv r.per.2).fdiv s
def most (r : RunD) : Int := r.most1 r.w r.a + r.most1 r.h r.b
def inTurn (r : RunD) (p : (Int × Int) × Str) : Bool := decide (p.1.1 * r.per.2 ≤ r.per.1 * p.1.2)
/-- the hits of a turn -/
def rnd (r : RunD) : Nat := ((r.hts r.most.toNat).filter r.inTurn).length
theorem most1_le {r : RunD} (ok : r.Ok) {s v : Int} (hs : 0 < s) (hv : v.natAbs ≤ 6) : 0 ≤ r.most1 s v ∧ r.most1 s v ≤ 6912 := by
  obtain ⟨p1, p2⟩ := per_le (show okRun r.w r.h r.x r.y r.a r.b from ok)
  obtain ⟨q1, q2, _, _⟩ := per_mul (show okRun r.w r.h r.x r.y r.a r.b from ok)
  have p1' : r.per.1 ≤ 576 := p1
  have q1' : 0 < r.per.1 := q1
  have q2' : 0 < r.per.2 := q2
  have m0 : 0 ≤ 2 * r.per.1 * ((v.natAbs : Nat) : Int) := Int.mul_nonneg (by omega) (by omega)
  have m1 : 2 * r.per.1 * ((v.natAbs : Nat) : Int) ≤ 1152 * 6 := Int.mul_le_mul (by omega) (by omega) (by omega) (by decide)
  unfold most1
  rw [Int.fdiv_eq_ediv_of_nonneg _ (by omega), Int.fdiv_eq_ediv_of_nonneg _ (by omega)]
  have d0 := Int.ediv_nonneg m0 (Int.le_of_lt q2')
  have d1 := Int.ediv_le_self r.per.2 m0
  generalize 2 * r.per.1 * ((v.natAbs : Nat) : Int) / r.per.2 = D at *
  have e0 := Int.ediv_nonneg d0 (Int.le_of_lt hs)
  have e1 := Int.ediv_le_self s d0
  omega
theorem most_le {r : RunD} (ok : r.Ok) : 0 ≤ r.most ∧ r.most ≤ 13824 := by
  have ok' : okRun r.w r.h r.x r.y r.a r.b := ok
  obtain ⟨h1, h2, h3, h4, h5, h6, h7⟩ := ok'
  have a1 := most1_le ok (s := r.w) (v := r.a) (by omega) (by omega)
  have a2 := most1_le ok (s := r.h) (v := r.b) (by omega) (by omega)
  unfold most
  omega
theorem rnd_le {r : RunD} (ok : r.Ok) : r.rnd ≤ 13824 := by
  have := most_le ok
  have l := List.length_filter_le r.inTurn (r.hts r.most.toNat)
  rw [hts_len] at l
  unfold rnd
  omega
end RunD
theorem hits_of_at {r : RunD} (ok : r.Ok) (n : Int) (h0 : 0 ≤ n) (h : n < 1000000) (S : Sto) : G_hits_of [r.W, .int n] S = some (.ref S.length, S ++ [.lst ((r.hts n.toNat).map hitK.w)]) := by
  have ok' : okRun r.w r.h r.x r.y r.a r.b := ok
  simp only [G_hits_of, ok', h0, h, and_self, if_true, RunD.hits_hts]
theorem period_of_at {r : RunD} (ok : r.Ok) (S : Sto) : G_period_of [r.W] S = some (fr r.per, S) := by
  have ok' : okRun r.w r.h r.x r.y r.a r.b := ok
  simp only [G_period_of, ok', if_true]
  rfl
/-- round_of(run); slots 0:run 1:most 2:times 3:whole 4:time 5:walls 6:side 7:speed -/
noncomputable def b_round_of : Fs := sSeq (sAsg (eTup (aCons (eCall G_period_of (aCons (eVar 0) (aNil))) (aCons (eC (.int 0)) (aNil)))) (gTupW 2 (gsCons (gN 3) (gsCons (gN 1) (gsNil))))) (sSeq (sAsg (eCall sumW (aCons (eLc (iZipW (aCons (eSlice (eVar 0) (oNone) (oSome (eC (.int 2)))) (aCons (eSlice (eVar 0) (oSome (eC (.int 4))) (oNone)) (aNil)))) (gTupW 2 (gsCons (gN 6) (gsCons (gN 7) gsNil))) (tYesW) (eOp fdivW (eOp fdivW (eOp mulW (eOp mulW (eC (.int 2)) (eOp ixW (eVar 3) (eC (.int 0)))) (eCall absW (aCons (eVar 7) (aNil)))) (eOp ixW (eVar 3) (eC (.int 1)))) (eVar 6)) [6, 7]) (aNil))) (gN 1)) (sSeq (sAsg (eLc (iSeq (eCall G_hits_of (aCons (eVar 0) (aCons (eVar 1) (aNil))))) (gTupW 2 (gsCons (gN 4) (gsCons (gN 5) gsNil))) (tVal (eOp leW (eOp mulW (eOp ixW (eVar 4) (eC (.int 0))) (eOp ixW (eVar 3) (eC (.int 1)))) (eOp mulW (eOp ixW (eVar 3) (eC (.int 0))) (eOp ixW (eVar 4) (eC (.int 1)))))) (eVar 4) [4, 5]) (gN 2)) (sRet (eCall lenW (aCons (eVar 2) (aNil))))))
def G_round_of : Fn
  | [.tup [.int w, .int h, .int x, .int y, .int a, .int b]], S => if okRun w h x y a b then some (.int ((RunD.mk w h x y a b).rnd : Nat), S) else none
  | _, _ => none
theorem sum2 (i j : Int) : [i, j].sum = i + j := by simp
theorem hit_den {r : RunD} (ok : r.Ok) (i : Nat) : 0 < (r.hit i).1.2 ∧ (r.hit i).1.2 ≤ 6 := RunD.tm_den ok (i + 1)
theorem t_round_of : Tells 8 b_round_of G_round_of := by
  intro ws S r hh
  unfold b_round_of
  unfold G_round_of at hh
  split at hh
  · split at hh
    · rename_i w h x y a b hb
      cases hh
      have ok : RunD.Ok ⟨w, h, x, y, a, b⟩ := hb
      have rW : runW w h x y a b = RunD.W ⟨w, h, x, y, a, b⟩ := rfl
      generalize hr : (⟨w, h, x, y, a, b⟩ : RunD) = r at *
      obtain ⟨q1, q2, _, _⟩ := per_mul hb
      obtain ⟨u1, u2⟩ := per_le hb
      have pe : per w h a b = r.per := by rw [← hr]; rfl
      rw [pe] at q1 q2 u1 u2
      have mo : r.most = r.most1 w a + r.most1 h b := by rw [← hr]; rfl
      obtain ⟨M0, M1⟩ := RunD.most_le ok
      have HO := fun S => hits_of_at ok r.most M0 (by omega) S
      have PO := fun S => period_of_at ok S
      have sl1 : ∀ S, sliceW r.W none (some 2) S = some (.tup [.int w, .int h], S) := fun S => by rw [← hr]; rfl
      have sl2 : ∀ S, sliceW r.W (some 4) none S = some (.tup [.int a, .int b], S) := fun S => by rw [← hr]; rfl
      have k1 : okMul 2 r.per.1 := .inl (by decide)
      obtain ⟨h1, h2, h3, h4, h5, h6, h7⟩ := id hb
      have k2 : okMul (2 * r.per.1) ((a.natAbs : Nat) : Int) := .inr (.inl (by omega))
      have k3 : okMul (2 * r.per.1) ((b.natAbs : Nat) : Int) := .inr (.inl (by omega))
      have d1 : okDiv r.per.2 := okDiv_of (by omega) (big_lt (by omega))
      have d2 : okDiv w := okDiv_of (by omega) (big_lt (by omega))
      have d3 : okDiv h := okDiv_of (by omega) (big_lt (by omega))
      have e1 : ((2 * r.per.1 * ((a.natAbs : Nat) : Int)).fdiv r.per.2).fdiv w = r.most1 w a := rfl
      have e2 : ((2 * r.per.1 * ((b.natAbs : Nat) : Int)).fdiv r.per.2).fdiv h = r.most1 h b := rfl
      have e3 : r.most1 w a + r.most1 h b = r.most := mo.symm
      let L1 : O := .lst [.int (r.most1 w a), .int (r.most1 h b)]
      let L2 : O := .lst ((r.hts r.most.toNat).map hitK.w)
      let L3 : O := .lst (((r.hts r.most.toNat).filter r.inTurn).map fun p => fr p.1)
      have st1 : (sAsg (eTup (aCons (eCall G_period_of (aCons (eVar 0) (aNil))) (aCons (eC (.int 0)) (aNil)))) (gTupW 2 (gsCons (gN 3) (gsCons (gN 1) (gsNil))))) (en 8 [r.W]) S = some (.next [some r.W, some (.int 0), none, some (fr r.per), none, none, none, none], S) := by
        clear HO e1 e2 e3 mo
        simp only [fnB, en, List.map_cons, List.map_nil, List.length_cons, List.length_nil, List.replicate_succ, List.replicate_zero, List.cons_append, List.nil_append, List.append_nil, List.getElem?_cons_zero, List.getElem?_cons_succ, List.set_cons_zero, List.set_cons_succ,  Nat.zero_add, Nat.reduceAdd, Nat.reduceSub, Nat.sub_self, Nat.reduceEqDiff,  eVar, eC, eOp, eUn, aNil, aCons, eTup, eLst, eCall, eIf, eAnd, eOr, eNot, tVal, tAndW, tOrW, tNotW, eChain, sNext, sBrk, sCnt, sNever, sSeq, sRet, sRetN, sDrop, sIf, sAsg, sPar, sPar3, gN, gsNil, gsCons, gTupW, Option.bind_some, Option.bind_none,  s0, s1, s2, s3, s4, s6, subW, ltW, leW, gtW, geW, iop0, iop, modW, fdivW, powW, addW, mulW, negW, isi_int_int, isi_int_bool, isi_bl_int, isi_bl_bool, isi_non_int, isi_str_int, isi_tup_int, isi_tup_tup, eq_int, ne_int, len_p, len_6, len_l1, decide_true, decide_false, Int.reduceEq, Int.reduceNeg, absW, minW, ix_p0, ix_p1, ix_r0, ix_r1, ix_r2, ix_r3, ix_r4, ix_r5, if_true, if_false, ite_true, ite_false, Bool.not_true, Bool.not_false, Bool.false_eq_true, reduceIte, ↓reduceIte, eLc, iZipW, lcF_cons, lcF_nil, wipeW, tYesW, get_last, set_last, abs_nat, l1s, l2s, eSlice, oSome, oNone, slice_r4, slice_r2, zipL, sumW, lstOf, intsOf, sum2, ne_eq, not_false_eq_true, and_self, and_false, false_and, true_and, and_true, *]
      have st2 : (sAsg (eCall sumW (aCons (eLc (iZipW (aCons (eSlice (eVar 0) (oNone) (oSome (eC (.int 2)))) (aCons (eSlice (eVar 0) (oSome (eC (.int 4))) (oNone)) (aNil)))) (gTupW 2 (gsCons (gN 6) (gsCons (gN 7) gsNil))) (tYesW) (eOp fdivW (eOp fdivW (eOp mulW (eOp mulW (eC (.int 2)) (eOp ixW (eVar 3) (eC (.int 0)))) (eCall absW (aCons (eVar 7) (aNil)))) (eOp ixW (eVar 3) (eC (.int 1)))) (eVar 6)) [6, 7]) (aNil))) (gN 1)) [some r.W, some (.int 0), none, some (fr r.per), none, none, none, none] S = some (.next [some r.W, some (.int r.most), none, some (fr r.per), none, none, none, none], S ++ [L1]) := by
        clear HO st1 mo
        simp only [fnB, en, List.map_cons, List.map_nil, List.length_cons, List.length_nil, List.replicate_succ, List.replicate_zero, List.cons_append, List.nil_append, List.append_nil, List.getElem?_cons_zero, List.getElem?_cons_succ, List.set_cons_zero, List.set_cons_succ,  Nat.zero_add, Nat.reduceAdd, Nat.reduceSub, Nat.sub_self, Nat.reduceEqDiff,  eVar, eC, eOp, eUn, aNil, aCons, eTup, eLst, eCall, eIf, eAnd, eOr, eNot, tVal, tAndW, tOrW, tNotW, eChain, sNext, sBrk, sCnt, sNever, sSeq, sRet, sRetN, sDrop, sIf, sAsg, sPar, sPar3, gN, gsNil, gsCons, gTupW, Option.bind_some, Option.bind_none,  s0, s1, s2, s3, s4, s6, subW, ltW, leW, gtW, geW, iop0, iop, modW, fdivW, powW, addW, mulW, negW, isi_int_int, isi_int_bool, isi_bl_int, isi_bl_bool, isi_non_int, isi_str_int, isi_tup_int, isi_tup_tup, eq_int, ne_int, len_p, len_6, len_l1, decide_true, decide_false, Int.reduceEq, Int.reduceNeg, absW, minW, ix_p0, ix_p1, ix_r0, ix_r1, ix_r2, ix_r3, ix_r4, ix_r5, if_true, if_false, ite_true, ite_false, Bool.not_true, Bool.not_false, Bool.false_eq_true, reduceIte, ↓reduceIte, eLc, iZipW, lcF_cons, lcF_nil, wipeW, tYesW, get_last, set_last, abs_nat, l1s, l2s, eSlice, oSome, oNone, slice_r4, slice_r2, zipL, sumW, lstOf, intsOf, sum2, ne_eq, not_false_eq_true, and_self, and_false, false_and, true_and, and_true, *]
        rfl
      have st3 : eLc (iSeq (eCall G_hits_of (aCons (eVar 0) (aCons (eVar 1) (aNil))))) (gTupW 2 (gsCons (gN 4) (gsCons (gN 5) gsNil))) (tVal (eOp leW (eOp mulW (eOp ixW (eVar 4) (eC (.int 0))) (eOp ixW (eVar 3) (eC (.int 1)))) (eOp mulW (eOp ixW (eVar 3) (eC (.int 0))) (eOp ixW (eVar 4) (eC (.int 1)))))) (eVar 4) [4, 5] [some r.W, some (.int r.most), none, some (fr r.per), none, none, none, none] (S ++ [L1]) = some (.ref (S.length + 2), S ++ [L1, L2, L3]) := by
        have it := iSeq_ref (f := eCall G_hits_of (aCons (eVar 0) (aCons (eVar 1) (aNil)))) (e := [some r.W, some (.int r.most), none, some (fr r.per), none, none, none, none]) (S := S ++ [L1]) (S' := S ++ [L1, L2]) (n := S.length + 1) (xs := (r.hts r.most.toNat).map hitK.w) (by
          simp only [eCall, aCons, eVar, eC, aNil, List.getElem?_cons_zero, List.getElem?_cons_succ, Option.bind_some, HO, List.length_append, List.length_cons, List.length_nil, List.append_assoc, List.cons_append, List.nil_append]
          rfl) (by rw [List.getElem?_append_right (by omega), Nat.add_sub_cancel_left]; rfl)
        have z := elc_pure (g := gTupW 2 (gsCons (gN 4) (gsCons (gN 5) gsNil))) (t := tVal (eOp leW (eOp mulW (eOp ixW (eVar 4) (eC (.int 0))) (eOp ixW (eVar 3) (eC (.int 1)))) (eOp mulW (eOp ixW (eVar 3) (eC (.int 0))) (eOp ixW (eVar 4) (eC (.int 1)))))) (f := eVar 4) (vs := [4, 5]) hitK.w
          (fun p => [some r.W, some (.int r.most), none, some (fr r.per), some (fr p.1), some (.str p.2), none, none]) r.inTurn (fun p => fr p.1) (r.hts r.most.toNat) it (fun L => chk_app (by rw [List.getElem?_append_right (by omega), Nat.add_sub_cancel_left]; rfl) _) (fun p _ S => rfl) (fun p hp S => by
            obtain ⟨i, _, rfl⟩ := List.mem_map.mp hp
            have dn := hit_den ok i
            have k1 : okMul (r.hit i).1.1 r.per.2 := .inr (.inl (by omega))
            have k2 : okMul r.per.1 (r.hit i).1.2 := .inr (.inl (by omega))
            simp only [tVal, eOp, eVar, eC, List.getElem?_cons_zero, List.getElem?_cons_succ, Option.bind_some, ix_p0, ix_p1, mulW, k1, k2, if_true, leW, iop0]
            rfl) (fun p _ _ S => rfl) (by rw [hts_len]; exact Nat.lt_of_le_of_lt (show r.most.toNat ≤ 13824 by omega) (by decide))
        rw [z]
        simp only [List.length_append, List.length_cons, List.length_nil, List.append_assoc, List.cons_append, List.nil_append]
        rfl
      refine ⟨(.int (r.rnd : Nat), S ++ [L1, L2, L3]), fnB_ret ?_, .val _ _ (by simp [below])⟩
      rw [show W.tup [W.int w, W.int h, W.int x, W.int y, W.int a, W.int b] = r.W from rW]
      refine' seq_trans st1 (seq_trans st2 _)
      refine' seq_trans (e' := [some r.W, some (.int r.most), some (.ref (S.length + 2)), some (fr r.per), none, none, none, none]) (S' := S ++ [L1, L2, L3]) _ _
      · simp only [sAsg, st3, Option.bind_some, gN, List.set_cons_zero, List.set_cons_succ]
      have g : (S ++ [L1, L2, L3])[S.length + 2]? = some L3 := by rw [List.getElem?_append_right (by omega), Nat.add_sub_cancel_left]; rfl
      simp only [sRet, eCall, aCons, aNil, eVar, List.getElem?_cons_zero, List.getElem?_cons_succ, Option.bind_some, lenW, seqOf, g]
      simp only [L3, Option.bind_some, List.length_map]
      rfl
    · cases hh
  · cases hh
theorem l_round_of : ∀ ws S r, G_round_of ws S = some r → ws.length = 1 := by
  intro ws S r h
  unfold G_round_of at h
  split at h <;> first | rfl | cases h
theorem round_of_at {r : RunD} (ok : r.Ok) (S : Sto) : G_round_of [r.W] S = some (.int (r.rnd : Nat), S) := by
  have ok' : okRun r.w r.h r.x r.y r.a r.b := ok
  simp only [G_round_of, ok', if_true]
/-- the first number below n at which two rows of names part -/
def part (f g : Nat → Str) (n : Nat) : Option Nat := (List.range n).find? fun i => decide (f i ≠ g i)
def onW : Option Nat → W
  | some i => .int (i : Nat)
  | none => .non
def RunD.nm (r : RunD) (i : Nat) : Str := (r.hit i).2
/-- parting(run, other); slots 0:run 1:other 2:many 3:number 4:one 5:two -/
noncomputable def b_parting : Fs := sSeq (sDrop (eCall G_need_run (aCons (eVar 0) (aNil)))) (sSeq (sDrop (eCall G_need_run (aCons (eVar 1) (aNil)))) (sSeq (sAsg (eOp addW (eCall G_round_of (aCons (eVar 0) (aNil))) (eCall G_round_of (aCons (eVar 1) (aNil)))) (gN 2)) (sSeq (sPar 4 5 (aCons (eCall G_hits_of (aCons (eVar 0) (aCons (eVar 2) (aNil)))) (aCons (eCall G_hits_of (aCons (eVar 1) (aCons (eVar 2) (aNil)))) (aNil)))) (sSeq (sFor (iRange1 (aCons (eVar 2) (aNil))) (gN 3) (sIf (tVal (eOp neW (eOp ixW (eOp ixW (eVar 4) (eVar 3)) (eC (.int 1))) (eOp ixW (eOp ixW (eVar 5) (eVar 3)) (eC (.int 1))))) (sRet (eVar 3)) (sNext))) (sRet (eC .non))))))
def G_parting : Fn
  | [.tup [.int w, .int h, .int x, .int y, .int a, .int b], .tup [.int w', .int h', .int x', .int y', .int a', .int b']], S => if okRun w h x y a b ∧ okRun w' h' x' y' a' b' then some (onW (part (RunD.mk w h x y a b).nm (RunD.mk w' h' x' y' a' b').nm ((RunD.mk w h x y a b).rnd + (RunD.mk w' h' x' y' a' b').rnd)), S) else none
  | _, _ => none
def parB : Fs := (sIf (tVal (eOp neW (eOp ixW (eOp ixW (eVar 4) (eVar 3)) (eC (.int 1))) (eOp ixW (eOp ixW (eVar 5) (eVar 3)) (eC (.int 1))))) (sRet (eVar 3)) (sNext))
theorem ix_hit1 (p : (Int × Int) × Str) (S : Sto) : ixW (hitW p) (.int 1) S = some (.str p.2, S) := rfl
theorem ne_strs {x y : Str} (h : PyData.strOk x = true) (h2 : PyData.strOk y = true) (S : Sto) : neW (.str x) (.str y) S = some (.bl (decide (x ≠ y)), S) := by
  have : (x == y) = decide (x = y) := by by_cases e : x = y <;> simp [e]
  simp [neW, eqvW, toD, h, h2, PyData.eqv, this]
theorem nm_ok {r : RunD} (ok : r.Ok) (i : Nat) : PyData.strOk (r.nm i) = true := by
  have ok' : okRun r.w r.h r.x r.y r.a r.b := ok
  obtain ⟨h1, h2, h3, h4, h5, h6, h7⟩ := ok'
  obtain ⟨U1, U2, da, db⟩ := unit_facts (a := r.a) (b := r.b) (A := 6) (by omega) (by omega) (by decide)
  obtain ⟨T, hT⟩ := hitT ok (U := unitR [r.a, r.b] 1) ⟨U1, da, db⟩
  unfold RunD.nm
  rw [hT.hit i]
  exact name_ok ..
theorem par_loop {r s : RunD} (okr : r.Ok) (oks : s.Ok) (e0 e1 e2 : Option W) (S : Sto) (n4 n5 n : Nat) (g4 : S[n4]? = some (.lst ((r.hts n).map hitK.w))) (g5 : S[n5]? = some (.lst ((s.hts n).map hitK.w))) (chk : Sto → Prop) (hc : ∀ S, chk S) : ∀ (k i : Nat) (e3 : Option W), i + k = n →
    ∃ e3', forF (gN 3) parB chk (intsW ((i : Nat) : Int) k) [e0, e1, e2, e3, some (.ref n4), some (.ref n5)] S = some (match ((List.range k).map (i + ·)).find? (fun j => decide (r.nm j ≠ s.nm j)) with | some j => .ret (.int (j : Nat)) | none => .next [e0, e1, e2, e3', some (.ref n4), some (.ref n5)], S)
  | 0, i, e3, _ => ⟨e3, by rw [intsW_zero, forF_nil, if_pos (hc _)]; rfl⟩
  | k + 1, i, e3, hk => by
    obtain ⟨e3', h⟩ := par_loop okr oks e0 e1 e2 S n4 n5 n g4 g5 chk hc k (i + 1) (some (.int (i : Nat))) (by omega)
    refine ⟨e3', ?_⟩
    have x1 : ixW (.ref n4) (.int ((i : Nat) : Int)) S = some (hitW (r.hit i), S) := ix_at g4 (by rw [List.getElem?_map, hts_get r (by omega)]; rfl)
    have x2 : ixW (.ref n5) (.int ((i : Nat) : Int)) S = some (hitW (s.hit i), S) := ix_at g5 (by rw [List.getElem?_map, hts_get s (by omega)]; rfl)
    have ne := ne_strs (nm_ok okr i) (nm_ok oks i) S
    unfold RunD.nm at ne
    have b : parB [e0, e1, e2, some (.int (i : Nat)), some (.ref n4), some (.ref n5)] S = some (if r.nm i ≠ s.nm i then .ret (.int (i : Nat)) else .next [e0, e1, e2, some (.int (i : Nat)), some (.ref n4), some (.ref n5)], S) := by
      simp only [parB, sIf, tVal, eOp, eVar, eC, List.getElem?_cons_zero, List.getElem?_cons_succ, Option.bind_some, x1, x2, ix_hit1, ne]
      by_cases q : (r.hit i).2 = (s.hit i).2
      · simp only [q, RunD.nm, ne_eq, not_true_eq_false, decide_false, Bool.false_eq_true, if_false, sNext]
      · simp only [q, RunD.nm, ne_eq, not_false_eq_true, decide_true, if_true, sRet, eVar, List.getElem?_cons_zero, List.getElem?_cons_succ, Option.bind_some]
    rw [intsW_succ, forF_cons, if_pos (hc _)]
    have g : gN 3 (.int (i : Nat)) [e0, e1, e2, e3, some (.ref n4), some (.ref n5)] S = some ([e0, e1, e2, some (.int (i : Nat)), some (.ref n4), some (.ref n5)], S) := rfl
    rw [g]
    simp only [Option.bind_some]
    rw [b]
    have rs : (List.range (k + 1)).map (i + ·) = i :: (List.range k).map (i + 1 + ·) := by
      rw [List.range_succ_eq_map, List.map_cons, List.map_map]
      congr 1
      apply List.map_congr_left
      intro j _
      simp only [Function.comp]
      omega
    rw [rs]
    by_cases q : r.nm i = s.nm i
    · rw [List.find?_cons_of_neg (by simp [q])]
      simp only [q, ne_eq, not_true_eq_false, if_false, Option.bind_some]
      rw [show ((i : Nat) : Int) + 1 = ((i + 1 : Nat) : Int) by omega]
      exact h
    · rw [List.find?_cons_of_pos (by simp [q])]
      simp only [q, ne_eq, not_false_eq_true, if_true, Option.bind_some]
theorem t_parting : Tells 6 b_parting G_parting := by
  intro ws S r hh
  unfold G_parting at hh
  split at hh
  · split at hh
    · rename_i w h x y a b w' h' x' y' a' b' hb
      cases hh
      obtain ⟨k1, k2⟩ := hb
      have N1 : ∀ S, G_need_run [RunD.W ⟨w, h, x, y, a, b⟩] S = some (.non, S) := fun S => by simp only [G_need_run, k1, if_true]
      have N2 : ∀ S, G_need_run [RunD.W ⟨w', h', x', y', a', b'⟩] S = some (.non, S) := fun S => by simp only [G_need_run, k2, if_true]
      have ok : RunD.Ok ⟨w, h, x, y, a, b⟩ := k1
      have ok2 : RunD.Ok ⟨w', h', x', y', a', b'⟩ := k2
      change ∃ raw, fnB 6 b_parting [RunD.W ⟨w, h, x, y, a, b⟩, RunD.W ⟨w', h', x', y', a', b'⟩] S = some raw ∧ _
      generalize (⟨w, h, x, y, a, b⟩ : RunD) = r at *
      generalize (⟨w', h', x', y', a', b'⟩ : RunD) = s at *
      have R1 := fun S => round_of_at ok S
      have R2 := fun S => round_of_at ok2 S
      have l1 := RunD.rnd_le ok
      have l2 := RunD.rnd_le ok2
      obtain ⟨n, hn⟩ : ∃ n, r.rnd + s.rnd = n := ⟨_, rfl⟩
      have ad : ((r.rnd : Nat) : Int) + ((s.rnd : Nat) : Int) = ((n : Nat) : Int) := by omega
      rw [hn]
      have H1 := fun S => hits_of_at ok ((n : Nat) : Int) (by omega) (by omega) S
      have H2 := fun S => hits_of_at ok2 ((n : Nat) : Int) (by omega) (by omega) S
      rw [Int.toNat_natCast] at H1 H2
      have g4 : (S ++ [O.lst ((r.hts n).map hitK.w), .lst ((s.hts n).map hitK.w)])[S.length]? = some (.lst ((r.hts n).map hitK.w)) := by rw [List.getElem?_append_right (by omega), Nat.sub_self]; rfl
      have g5 : (S ++ [O.lst ((r.hts n).map hitK.w), .lst ((s.hts n).map hitK.w)])[S.length + 1]? = some (.lst ((s.hts n).map hitK.w)) := by rw [List.getElem?_append_right (by omega), Nat.add_sub_cancel_left]; rfl
      obtain ⟨e3, hl⟩ := par_loop ok ok2 (some r.W) (some s.W) (some (.int (n : Nat))) _ _ _ n g4 g5 (fun _ => True) (fun _ => trivial) n 0 none (by omega)
      have rg : iRange1 (aCons (eVar 2) (aNil)) [some r.W, some s.W, some (.int (n : Nat)), none, some (.ref S.length), some (.ref (S.length + 1))] (S ++ [O.lst ((r.hts n).map hitK.w), .lst ((s.hts n).map hitK.w)]) = some (⟨intsW 0 n, fun _ => True⟩, S ++ [O.lst ((r.hts n).map hitK.w), .lst ((s.hts n).map hitK.w)]) := range1_of (j := ((n : Nat) : Int)) rfl (by omega)
      have st : ∀ t : Fs, sSeq (sDrop (eCall G_need_run (aCons (eVar 0) (aNil)))) (sSeq (sDrop (eCall G_need_run (aCons (eVar 1) (aNil)))) (sSeq (sAsg (eOp addW (eCall G_round_of (aCons (eVar 0) (aNil))) (eCall G_round_of (aCons (eVar 1) (aNil)))) (gN 2)) (sSeq (sPar 4 5 (aCons (eCall G_hits_of (aCons (eVar 0) (aCons (eVar 2) (aNil)))) (aCons (eCall G_hits_of (aCons (eVar 1) (aCons (eVar 2) (aNil)))) (aNil)))) t))) (en 6 [r.W, s.W]) S = t [some r.W, some s.W, some (.int (n : Nat)), none, some (.ref S.length), some (.ref (S.length + 1))] (S ++ [O.lst ((r.hts n).map hitK.w), .lst ((s.hts n).map hitK.w)]) := by
        intro t
        clear g4 g5 hl rg hn k1 k2
        simp only [fnB, en, List.map_cons, List.map_nil, List.length_cons, List.length_nil, List.replicate_succ, List.replicate_zero, List.cons_append, List.nil_append, Nat.zero_add, Nat.reduceAdd, Nat.reduceSub, sSeq, sDrop, eCall, aCons, aNil, eVar, List.getElem?_cons_zero, List.getElem?_cons_succ, Option.bind_some, N1, N2, sAsg, eOp, R1, R2, addW, ad, gN, List.set_cons_zero, List.set_cons_succ, sPar, H1, H2, List.length_append, List.append_assoc]
      refine ⟨(onW (part r.nm s.nm n), S ++ [O.lst ((r.hts n).map hitK.w), .lst ((s.hts n).map hitK.w)]), ?_, ?_⟩
      · refine fnB_ret ?_
        unfold b_parting
        rw [st]
        have hl' := hl
        rw [show (List.range n).map (0 + ·) = List.range n by simp] at hl'
        change forF (gN 3) parB _ (intsW 0 n) _ _ = _ at hl'
        show sSeq (sFor _ (gN 3) parB) _ _ _ = _
        simp only [sSeq, sFor, rg, Option.bind_some]
        rw [hl']
        unfold part
        cases (List.range n).find? (fun i => decide (r.nm i ≠ s.nm i)) with
        | none => rfl
        | some j => rfl
      · exact .val _ _ (by cases part r.nm s.nm n <;> simp [onW, below])
    · cases hh
  · cases hh
theorem l_parting : ∀ ws S r, G_parting ws S = some r → ws.length = 2 := by
  intro ws S r h
  unfold G_parting at h
  split at h <;> first | rfl | cases h
end Bp

/-! Mt9: how many hits a turn has; the names come again with it; two rows of names that agree for both turns agree for ever. -/
namespace Bp
set_option autoImplicit false
open PySem
/-- walls passed by one coordinate, up to a start -/
def wc (X A M : Int) (v : Nat) : Int := (X + A * (v : Int)) / M
theorem wc_mono {X A M : Int} (hA : 0 ≤ A) (hM : 0 < M) {v v' : Nat} (h : v ≤ v') : wc X A M v ≤ wc X A M v' := by
  unfold wc
  refine Int.ediv_le_ediv hM ?_
  have := Int.mul_le_mul_of_nonneg_left (show (v : Int) ≤ (v' : Int) by omega) hA
  omega
theorem wc_strict {X A M : Int} (hA : 0 < A) (hM : 0 < M) {v v' : Nat} (h : v < v') (hd : M ∣ X + A * (v' : Int)) : wc X A M v + 1 ≤ wc X A M v' := by
  obtain ⟨k, hk⟩ := hd
  have e : wc X A M v' = k := by unfold wc; rw [hk]; exact Int.mul_ediv_cancel_left _ (by omega)
  have : wc X A M v < k := by
    unfold wc
    refine Int.ediv_lt_of_lt_mul hM ?_
    have := Int.mul_lt_mul_of_pos_left (show (v : Int) < (v' : Int) by omega) hA
    rw [Int.mul_comm k M, ← hk]; omega
  omega
theorem wc_turn {X A M k : Int} {P : Nat} (hM : 0 < M) (h : A * (P : Int) = 2 * M * k) : wc X A M P = wc X A M 0 + 2 * k := by
  unfold wc
  rw [h, show X + 2 * M * k = X + M * (2 * k) by grind, Int.add_mul_ediv_left _ _ (by omega)]
  simp
/-- sign -/
def sg (a : Int) : Int := if 0 < a then 1 else -1
theorem sg_mul (a : Int) : sg a * a = (a.natAbs : Nat) := by unfold sg; split <;> omega
theorem sg_dvd {M z : Int} (a : Int) (h : M ∣ z) : M ∣ sg a * z := Int.dvd_mul_of_dvd_right h
def RunD.wx (r : RunD) (U : Int) (v : Nat) : Int := wc (sg r.a * (r.x * U)) (r.a.natAbs : Nat) (r.w * U) v
def RunD.wy (r : RunD) (U : Int) (v : Nat) : Int := wc (sg r.b * (r.y * U)) (r.b.natAbs : Nat) (r.h * U) v
theorem HitT.few {r : RunD} {U : Int} {T : Nat → Nat} (h : HitT r U T) (ok : r.Ok) (u : UOk r U) : ∀ i : Nat, r.wx U 0 + r.wy U 0 + (i : Int) ≤ r.wx U (T i) + r.wy U (T i)
  | 0 => by rw [h.zero]; simp
  | i + 1 => by
    have ih := h.few ok u i
    have ok' : okRun r.w r.h r.x r.y r.a r.b := ok
    obtain ⟨h1, h2, h3, h4, h5, h6, h7⟩ := ok'
    have M1 : 0 < r.w * U := Int.mul_pos (by omega) u.pos
    have M2 : 0 < r.h * U := Int.mul_pos (by omega) u.pos
    have lt := h.lt i
    have m1 : r.wx U (T i) ≤ r.wx U (T (i + 1)) := wc_mono (by omega) M1 (by omega)
    have m2 : r.wy U (T i) ≤ r.wy U (T (i + 1)) := wc_mono (by omega) M2 (by omega)
    have on := h.on i
    rw [ne_eq, name_empty ok u] at on
    by_cases q : r.a ≠ 0 ∧ r.w * U ∣ r.x * U + r.a * ((T (i + 1) : Nat) : Int)
    · have s1 : r.wx U (T i) + 1 ≤ r.wx U (T (i + 1)) := wc_strict (by omega) M1 lt (by
        have := sg_dvd r.a q.2
        rw [Int.mul_add, ← Int.mul_assoc (sg r.a) r.a, sg_mul] at this
        exact this)
      omega
    · by_cases q2 : r.b ≠ 0 ∧ r.h * U ∣ r.y * U + r.b * ((T (i + 1) : Nat) : Int)
      · have s1 : r.wy U (T i) + 1 ≤ r.wy U (T (i + 1)) := wc_strict (by omega) M2 lt (by
          have := sg_dvd r.b q2.2
          rw [Int.mul_add, ← Int.mul_assoc (sg r.b) r.b, sg_mul] at this
          exact this)
        omega
      · exact absurd ⟨q, q2⟩ on
/-- how often a turn goes to and fro -/
theorem RunT.fro {r : RunD} {U : Int} {T : Nat → Nat} {P : Nat} (R : RunT r U T P) : ∃ k l : Nat, ((r.a.natAbs : Nat) : Int) * (P : Int) = 2 * (r.w * U) * (k : Int) ∧ ((r.b.natAbs : Nat) : Int) * (P : Int) = 2 * (r.h * U) * (l : Int) ∧
    r.per.1 * ((r.a.natAbs : Nat) : Int) = 2 * r.w * r.per.2 * (k : Int) ∧ r.per.1 * ((r.b.natAbs : Nat) : Int) = 2 * r.h * r.per.2 * (l : Int) := by
  obtain ⟨p1, p2, ⟨k, e1⟩, ⟨l, e2⟩⟩ := per_mul (show okRun r.w r.h r.x r.y r.a r.b from R.ok)
  have ok' : okRun r.w r.h r.x r.y r.a r.b := R.ok
  obtain ⟨h1, h2, h3, h4, h5, h6, h7⟩ := ok'
  have e1' : r.a * r.per.1 = 2 * r.w * r.per.2 * k := e1
  have e2' : r.b * r.per.1 = 2 * r.h * r.per.2 * l := e2
  have key : ∀ a w k : Int, 0 < w → a * r.per.1 = 2 * w * r.per.2 * k → ((a.natAbs : Nat) : Int) * (P : Int) = 2 * (w * U) * (k.natAbs : Int) ∧ r.per.1 * ((a.natAbs : Nat) : Int) = 2 * w * r.per.2 * (k.natAbs : Int) := by
    intro a w k hw e
    have w0 : 0 < 2 * w * r.per.2 := Int.mul_pos (by omega) R.p2
    have n : r.per.1 * ((a.natAbs : Nat) : Int) = 2 * w * r.per.2 * (k.natAbs : Int) := by
      have := congrArg Int.natAbs e
      rw [Int.natAbs_mul, Int.natAbs_mul] at this
      have c1 : ((r.per.1.natAbs : Nat) : Int) = r.per.1 := Int.natAbs_of_nonneg (Int.le_of_lt R.p1)
      have c2 : (((2 * w * r.per.2).natAbs : Nat) : Int) = 2 * w * r.per.2 := Int.natAbs_of_nonneg (Int.le_of_lt w0)
      have t2 := congrArg (fun n : Nat => (n : Int)) this
      simp only [Int.natCast_mul] at t2
      rw [c1, c2] at t2
      rw [Int.mul_comm]; exact t2
    refine ⟨?_, n⟩
    apply Int.eq_of_mul_eq_mul_left (a := r.per.2) (by have := R.p2; omega)
    rw [show r.per.2 * (((a.natAbs : Nat) : Int) * (P : Int)) = ((a.natAbs : Nat) : Int) * (r.per.2 * (P : Int)) by grind, ← R.e, show ((a.natAbs : Nat) : Int) * (r.per.1 * U) = r.per.1 * ((a.natAbs : Nat) : Int) * U by grind, n]
    grind
  obtain ⟨a1, a2⟩ := key _ _ _ (by omega) e1'
  obtain ⟨b1, b2⟩ := key _ _ _ (by omega) e2'
  exact ⟨_, _, a1, b1, a2, b2⟩
theorem RunT.most_eq {r : RunD} {U : Int} {T : Nat → Nat} {P : Nat} (R : RunT r U T P) {s v : Int} {k : Nat} (hs : 0 < s) (h : r.per.1 * ((v.natAbs : Nat) : Int) = 2 * s * r.per.2 * (k : Int)) : r.most1 s v = 4 * (k : Int) := by
  have p2 := R.p2
  unfold RunD.most1
  rw [show 2 * r.per.1 * ((v.natAbs : Nat) : Int) = 2 * (r.per.1 * ((v.natAbs : Nat) : Int)) by grind, h, Int.fdiv_eq_ediv_of_nonneg _ (by omega), Int.fdiv_eq_ediv_of_nonneg _ (by omega), show 2 * (2 * s * r.per.2 * (k : Int)) = r.per.2 * (s * (4 * (k : Int))) by grind, Int.mul_ediv_cancel_left _ (by omega), Int.mul_ediv_cancel_left _ (by omega)]
theorem inTurn_iff {r : RunD} {U : Int} {T : Nat → Nat} {P : Nat} (R : RunT r U T P) (i : Nat) : r.inTurn (r.hit i) = decide (T (i + 1) ≤ P) := by
  unfold RunD.inTurn
  rw [R.t.hit i]
  have z := le_low (m := ((T (i + 1) : Nat) : Int)) (n := (P : Int)) R.u.pos R.p2 R.e
  have z2 : ((low ((T (i + 1) : Nat) : Int) U).1 * r.per.2 ≤ r.per.1 * (low ((T (i + 1) : Nat) : Int) U).2) ↔ T (i + 1) ≤ P := z.trans (by omega)
  simp only [z2]
theorem RunT.rnd_eq {r : RunD} {U : Int} {T : Nat → Nat} {P N : Nat} (R : RunT r U T P) (h1 : T N ≤ P) (h2 : P < T (N + 1)) : r.rnd = N := by
  obtain ⟨k, l, a1, b1, a2, b2⟩ := R.fro
  have ok' : okRun r.w r.h r.x r.y r.a r.b := R.ok
  obtain ⟨o1, o2, _⟩ := ok'
  have M1 : 0 < r.w * U := Int.mul_pos (by omega) R.u.pos
  have M2 : 0 < r.h * U := Int.mul_pos (by omega) R.u.pos
  have few := R.t.few R.ok R.u N
  have t1 : r.wx U P = r.wx U 0 + 2 * k := wc_turn M1 a1
  have t2 : r.wy U P = r.wy U 0 + 2 * l := wc_turn M2 b1
  have m1 : r.wx U (T N) ≤ r.wx U P := wc_mono (by omega) M1 h1
  have m2 : r.wy U (T N) ≤ r.wy U P := wc_mono (by omega) M2 h1
  have mo : r.most = 4 * (k : Int) + 4 * (l : Int) := by
    unfold RunD.most
    rw [R.most_eq (by omega) a2, R.most_eq (by omega) b2]
  have le : N ≤ r.most.toNat := by omega
  unfold RunD.rnd RunD.hts
  rw [List.filter_map, List.length_map]
  have e : (r.inTurn ∘ r.hit) = fun i => decide (T (i + 1) ≤ P) := by
    funext i
    exact inTurn_iff R i
  rw [e, R.t.upto h1 h2, List.length_range]
  omega
/-- the names come again -/
theorem nm_round {r : RunD} (ok : r.Ok) : 0 < r.rnd ∧ ∀ i, r.nm (r.rnd + i) = r.nm i := by
  have ok' : okRun r.w r.h r.x r.y r.a r.b := ok
  obtain ⟨h1, h2, h3, h4, h5, h6, h7⟩ := ok'
  obtain ⟨U1, U2, da, db⟩ := unit_facts (a := r.a) (b := r.b) (A := 6) (by omega) (by omega) (by decide)
  obtain ⟨T, P, R⟩ := runT ok (U := unitR [r.a, r.b] 1) ⟨U1, da, db⟩
  obtain ⟨N, N1, N2⟩ := R.t.count P
  have sh := R.t.shift (fun v _ => name_round R.rd v) N1 N2
  rw [R.rnd_eq N1 N2]
  refine ⟨?_, fun i => ?_⟩
  · rcases Nat.eq_zero_or_pos N with q | q
    · subst q
      have := sh 0
      rw [show 0 + (0 + 1) = 0 + 1 by omega] at this
      have := R.rd.pos
      omega
    · exact q
  · unfold RunD.nm
    rw [R.t.hit, R.t.hit]
    show (r.wk _).name (T (N + i + 1)) = (r.wk _).name (T (i + 1))
    rw [show N + i + 1 = N + (i + 1) by omega, sh i, name_round R.rd]
/-- two rows that come again and agree for both turns agree for ever -/
theorem agree {α : Type} {f g : Nat → α} {p q : Nat} (hp : 0 < p) (hq : 0 < q) (hf : ∀ i, f (p + i) = f i) (hg : ∀ i, g (q + i) = g i) (h : ∀ i, i < p + q → f i = g i) : ∀ n, f n = g n := by
  intro n
  induction n using Nat.strongRecOn with
  | _ n ih =>
    by_cases c : n < p + q
    · exact h n c
    · obtain ⟨d, hd⟩ : ∃ d, n = p + (q + d) := ⟨n - p - q, by omega⟩
      have e1 : f n = g (q + d) := by rw [hd, hf]; exact ih (q + d) (by omega)
      have e2 : g n = f (p + d) := by rw [show n = q + (p + d) by omega, hg]; exact (ih (p + d) (by omega)).symm
      rw [e1, e2, hg, hf]
      exact (ih d (by omega)).symm
theorem part_none {f g : Nat → Str} {n : Nat} : part f g n = none ↔ ∀ i, i < n → f i = g i := by
  unfold part
  rw [List.find?_eq_none]
  constructor
  · intro h i hi
    have := h i (List.mem_range.mpr hi)
    simpa using this
  · intro h i hi
    simpa using h i (List.mem_range.mp hi)
theorem part_some {f g : Nat → Str} {n j : Nat} : part f g n = some j ↔ j < n ∧ f j ≠ g j ∧ ∀ i, i < j → f i = g i := by
  unfold part
  rw [List.find?_range_eq_some]
  simp only [decide_eq_true_eq, List.mem_range, Bool.not_eq_eq_eq_not, Bool.not_true, decide_eq_false_iff_not, ne_eq, Classical.not_not]
  constructor
  · rintro ⟨a, b, c⟩; exact ⟨b, a, c⟩
  · rintro ⟨b, a, c⟩; exact ⟨a, b, c⟩
theorem part_comm (f g : Nat → Str) (n : Nat) : part g f n = part f g n := by
  unfold part
  congr 1
  funext i
  simp [eq_comm]
theorem part_self (f : Nat → Str) (n : Nat) : part f f n = none := part_none.mpr fun _ _ => rfl
/-- of two rounds' length and 300 -/
theorem part_both {r s : RunD} (okr : r.Ok) (oks : s.Ok) : (part r.nm s.nm (r.rnd + s.rnd) = none → part r.nm s.nm 300 = none) ∧ ∀ j, part r.nm s.nm (r.rnd + s.rnd) = some j → part r.nm s.nm 300 = if j < 300 then some j else none := by
  refine ⟨fun h => ?_, fun j h => ?_⟩
  · obtain ⟨a1, a2⟩ := nm_round okr
    obtain ⟨b1, b2⟩ := nm_round oks
    exact part_none.mpr fun i _ => agree a1 b1 a2 b2 (part_none.mp h) i
  · obtain ⟨c1, c2, c3⟩ := part_some.mp h
    split
    · exact part_some.mpr ⟨by assumption, c2, c3⟩
    · exact part_none.mpr fun i hi => c3 i (by omega)
end Bp

/-! Mt18: the places of crossings: those that are run through with both lines. -/
namespace Bp
set_option autoImplicit false
open PySem L2
theorem low_num {n d : Int} (hd : d ≠ 0) : (low n d).1.natAbs ≤ n.natAbs := by
  have key : ∀ {n d : Int}, 0 < d → (low n d).1.natAbs ≤ n.natAbs := by
    intro n d hd
    obtain ⟨s1, s2, _⟩ := low_spec (n := n) hd
    have l := lowD_le (n := n) hd
    have e := congrArg Int.natAbs s2
    rw [Int.natAbs_mul, Int.natAbs_mul] at e
    have : (low n d).1.natAbs * d.natAbs ≤ n.natAbs * d.natAbs := by
      rw [← e]
      exact Nat.mul_le_mul_left _ (by omega)
    exact Nat.le_of_mul_le_mul_right this (by omega)
  rcases Int.lt_or_lt_of_ne hd with h | h
  · rw [low_neg h]
    have := key (n := -n) (d := -d) (by omega)
    omega
  · exact key h
section
variable {r : RunD} {U A B sx sy : Int} {T : Nat → Nat} {P : Nat}
theorem Cr.per (C : Cr r U A B sx sy) (R : RunT r U T P) : ∃ k l : Nat, (P : Int) = 2 * A * (k : Int) ∧ (P : Int) = 2 * B * (l : Int) := by
  obtain ⟨k, l, h1, h2, _⟩ := R.fro
  have a1 : (0 : Int) < (r.a.natAbs : Nat) := by have := C.a0; omega
  have b1 : (0 : Int) < (r.b.natAbs : Nat) := by have := C.b0; omega
  refine ⟨k, l, Int.eq_of_mul_eq_mul_left (a := ((r.a.natAbs : Nat) : Int)) (by omega) ?_, Int.eq_of_mul_eq_mul_left (a := ((r.b.natAbs : Nat) : Int)) (by omega) ?_⟩
  · rw [h1, C.eA]; grind
  · rw [h2, C.eB]; grind
theorem Cr.K (C : Cr r U A B sx sy) (R : RunT r U T P) : ∃ K : Nat, (P : Int) = gd A B * (K : Int) ∧ K ≤ P := by
  obtain ⟨k, l, h1, h2⟩ := C.per R
  obtain ⟨z, hz⟩ : gd A B ∣ A := Int.gcd_dvd_left ..
  have g0 := gd_pos (B := B) C.A0
  have z0 : 0 < z := Int.pos_of_mul_pos_right (a := gd A B) (by rw [← hz]; exact C.A0) g0
  have e : (P : Int) = gd A B * (2 * z * (k : Int)) := by
    have e' : 2 * A * (k : Int) = 2 * (gd A B * z) * (k : Int) := by rw [← hz]
    rw [h1, e']; grind
  have n0 : 0 ≤ 2 * z * (k : Int) := Int.mul_nonneg (by omega) (by omega)
  refine ⟨(2 * z * (k : Int)).toNat, by rw [e]; congr 1; omega, ?_⟩
  have : 1 * (2 * z * (k : Int)) ≤ gd A B * (2 * z * (k : Int)) := Int.mul_le_mul_of_nonneg_right (by omega) n0
  omega
theorem Cr.rows (C : Cr r U A B sx sy) (R : RunT r U T P) {K : Nat} (hK : (P : Int) = gd A B * (K : Int)) : r.crT = ((List.range K).map fun i : Nat => low (sx % gd A B + gd A B * (i : Int)) U) ++ (List.range K).map fun i : Nat => low (sy % gd A B + gd A B * (i : Int)) U := by
  have g0 := gd_pos (B := B) C.A0
  have h1 := (row_ticks C.U0 g0 C.lx (C.step R.ok) R.p2 R.e hK).2.2
  have h2 := (row_ticks C.U0 g0 C.ly (C.step R.ok) R.p2 R.e hK).2.2
  unfold RunD.crT RunD.sts
  simp only [List.flatMap_cons, List.flatMap_nil, List.append_nil]
  rw [show Bp.per r.w r.h r.a r.b = r.per from rfl, h1, h2]
/-- times of rows, by parts -/
theorem row_mem {S G : Int} {K P n : Nat} (hU : 0 < U) (G0 : 0 < G) (hP : (P : Int) = G * (K : Int)) : (∃ i, i < K ∧ low (n : Int) U = low (S % G + G * (i : Int)) U) ↔ n < P ∧ G ∣ (n : Int) - S := by
  have s0 := Int.emod_nonneg S (show G ≠ 0 by omega)
  have s1 := Int.emod_lt_of_pos S G0
  have em := Int.emod_add_mul_ediv S G
  constructor
  · rintro ⟨i, hi, e⟩
    have e1 := low_inj hU hU e
    have e2 : (n : Int) = S % G + G * (i : Int) := Int.eq_of_mul_eq_mul_right (by omega) e1
    have : G * ((i : Int) + 1) ≤ G * (K : Int) := Int.mul_le_mul_of_nonneg_left (by omega) (by omega)
    rw [Int.mul_add] at this
    exact ⟨by omega, ⟨(i : Int) - S / G, by rw [Int.mul_sub]; omega⟩⟩
  · rintro ⟨hn, z, hz⟩
    have e : (n : Int) = S % G + G * (z + S / G) := by rw [Int.mul_add]; omega
    have i0 : 0 ≤ z + S / G := by
      rcases Int.lt_or_le (z + S / G) 0 with q | q
      · have : G * (z + S / G + 1) ≤ 0 := Int.mul_nonpos_of_nonneg_of_nonpos (by omega) (by omega)
        rw [Int.mul_add] at this
        omega
      · exact q
    refine ⟨(z + S / G).toNat, ?_, by rw [e]; congr 3; omega⟩
    have : G * (z + S / G) < G * (K : Int) := by omega
    have := Int.lt_of_mul_lt_mul_left this (by omega)
    omega
/-- the parts of a turn at which the ball can cross its way -/
def Cls (A B sx sy : Int) (n : Nat) : Prop := gd A B ∣ (n : Int) - sx ∨ gd A B ∣ (n : Int) - sy
/-- strictly inside -/
def Ins (r : RunD) (U : Int) (s : Int × Int) : Prop := (0 < s.1 ∧ s.1 < r.w * U) ∧ (0 < s.2 ∧ s.2 < r.h * U)
theorem Cr.crT_mem (C : Cr r U A B sx sy) (R : RunT r U T P) : (∀ t ∈ r.crT, ∃ n : Nat, t = low (n : Int) U) ∧ ∀ n : Nat, low (n : Int) U ∈ r.crT ↔ n < P ∧ Cls A B sx sy n := by
  obtain ⟨K, hK, _⟩ := C.K R
  have g0 := gd_pos (B := B) C.A0
  rw [C.rows R hK]
  have nn : ∀ (S : Int) (i : Nat), 0 ≤ S % gd A B + gd A B * (i : Int) := fun S i => by
    have := Int.emod_nonneg S (show gd A B ≠ 0 by omega)
    have := Int.mul_nonneg (Int.le_of_lt g0) (show (0 : Int) ≤ i by omega)
    omega
  constructor
  · intro t ht
    rcases List.mem_append.mp ht with h | h
    · obtain ⟨i, _, rfl⟩ := List.mem_map.mp h
      exact ⟨(sx % gd A B + gd A B * (i : Int)).toNat, by rw [Int.toNat_of_nonneg (nn sx i)]⟩
    · obtain ⟨i, _, rfl⟩ := List.mem_map.mp h
      exact ⟨(sy % gd A B + gd A B * (i : Int)).toNat, by rw [Int.toNat_of_nonneg (nn sy i)]⟩
  · intro n
    have m1 := row_mem (U := U) (S := sx) (n := n) C.U0 g0 hK
    have m2 := row_mem (U := U) (S := sy) (n := n) C.U0 g0 hK
    rw [List.mem_append, List.mem_map, List.mem_map]
    constructor
    · rintro (⟨i, hi, e⟩ | ⟨i, hi, e⟩)
      · obtain ⟨q1, q2⟩ := m1.mp ⟨i, List.mem_range.mp hi, e.symm⟩
        exact ⟨q1, .inl q2⟩
      · obtain ⟨q1, q2⟩ := m2.mp ⟨i, List.mem_range.mp hi, e.symm⟩
        exact ⟨q1, .inr q2⟩
    · rintro ⟨h1, h2 | h2⟩
      · obtain ⟨i, hi, e⟩ := m1.mpr ⟨h1, h2⟩
        exact .inl ⟨i, List.mem_range.mpr hi, e.symm⟩
      · obtain ⟨i, hi, e⟩ := m2.mpr ⟨h1, h2⟩
        exact .inr ⟨i, List.mem_range.mpr hi, e.symm⟩
/-! ### the places, each one once -/
theorem putN_mem (ks : List ((Int × Int) × (Int × Int))) (p q : (Int × Int) × (Int × Int)) : q ∈ putN ks p ↔ q = p ∨ q ∈ ks := by
  unfold putN
  split
  · rename_i h
    constructor
    · exact .inr
    · rintro (rfl | h')
      · exact h
      · exact h'
  · simp only [List.mem_append, List.mem_singleton]
    constructor
    · rintro (h | h) <;> simp [h]
    · rintro (h | h) <;> simp [h]
theorem putN_nd {ks : List ((Int × Int) × (Int × Int))} (h : ks.Nodup) (p : (Int × Int) × (Int × Int)) : (putN ks p).Nodup := by
  unfold putN
  split
  · exact h
  · rename_i hn
    rw [List.nodup_append]
    exact ⟨h, by simp, fun a ha b hb e => hn (by rw [List.mem_singleton] at hb; rw [← hb, ← e]; exact ha)⟩
theorem crF_ok (r : RunD) : ∀ (ts : List (Int × Int)) (ks : List ((Int × Int) × (Int × Int))), ks.Nodup → (r.crF ts ks).Nodup ∧ ∀ p, p ∈ r.crF ts ks ↔ p ∈ ks ∨ ∃ t ∈ ts, r.inn t = true ∧ p = r.pp t
  | [], ks, h => ⟨h, by simp [RunD.crF]⟩
  | t :: ts, ks, h => by
    have h' : (if r.inn t = true then putN ks (r.pp t) else ks).Nodup := by
      split
      · exact putN_nd h _
      · exact h
    obtain ⟨g1, g2⟩ := crF_ok r ts _ h'
    refine ⟨g1, fun p => ?_⟩
    show p ∈ r.crF ts _ ↔ _
    rw [g2]
    constructor
    · rintro (q | ⟨s, hs, q1, q2⟩)
      · split at q
        · rename_i hi
          rcases (putN_mem _ _ _).mp q with rfl | q
          · exact .inr ⟨t, List.mem_cons_self .., hi, rfl⟩
          · exact .inl q
        · exact .inl q
      · exact .inr ⟨s, List.mem_cons_of_mem _ hs, q1, q2⟩
    · rintro (q | ⟨s, hs, q1, q2⟩)
      · left
        split
        · exact (putN_mem _ _ _).mpr (.inr q)
        · exact q
      · rcases List.mem_cons.mp hs with rfl | hs
        · left
          rw [if_pos q1]
          exact (putN_mem _ _ _).mpr (.inl q2)
        · exact .inr ⟨s, hs, q1, q2⟩
theorem insB_low {m X : Int} (hU : 0 < U) : insB m (low X U) = decide (0 < X ∧ X < m * U) := by
  obtain ⟨s1, s2, _⟩ := low_spec (n := X) hU
  unfold insB
  apply decide_eq_decide.mpr
  have a1 : 0 < (low X U).1 ↔ 0 < X := by
    constructor
    · intro h
      have := Int.mul_pos h hU
      rw [← s2] at this
      exact Int.pos_of_mul_pos_left (b := (low X U).2) this s1
    · intro h
      have := Int.mul_pos h s1
      rw [s2] at this
      exact Int.pos_of_mul_pos_left (b := U) this hU
  have a2 : (low X U).1 < m * (low X U).2 ↔ X < m * U := by
    have e1 : (low X U).1 * U < m * (low X U).2 * U ↔ X * (low X U).2 < m * U * (low X U).2 := by
      rw [← s2, show m * (low X U).2 * U = m * U * (low X U).2 by grind]
    constructor
    · intro h
      exact Int.lt_of_mul_lt_mul_right (e1.mp (Int.mul_lt_mul_of_pos_right h hU)) (Int.le_of_lt s1)
    · intro h
      exact Int.lt_of_mul_lt_mul_right (e1.mpr (Int.mul_lt_mul_of_pos_right h s1)) (Int.le_of_lt hU)
  rw [a1, a2]
/-- a place in parts as the program tells it -/
def lowP (U : Int) (s : Int × Int) : (Int × Int) × (Int × Int) := (low s.1 U, low s.2 U)
theorem lowP_inj (hU : 0 < U) {s t : Int × Int} (h : lowP U s = lowP U t) : s = t := by
  simp only [lowP, Prod.mk.injEq] at h
  exact Prod.ext (Int.eq_of_mul_eq_mul_right (by omega) (low_inj hU hU h.1)) (Int.eq_of_mul_eq_mul_right (by omega) (low_inj hU hU h.2))
theorem pp_tick (r : RunD) (hU : 0 < U) (n : Nat) : r.pp (low (n : Int) U) = lowP U ((r.wk U).sp n) := by
  unfold RunD.pp lowP
  rw [plc_tick hU, plc_tick hU]
  rfl
theorem inn_tick (r : RunD) (hU : 0 < U) (n : Nat) : r.inn (low (n : Int) U) = true ↔ Ins r U ((r.wk U).sp n) := by
  unfold RunD.inn Ins
  rw [plc_tick hU, plc_tick hU, insB_low hU, insB_low hU]
  simp only [Bool.and_eq_true, decide_eq_true_eq]
  exact Iff.rfl
/-- the number of crossings, by any list of the places -/
theorem ncr_len (C : Cr r U A B sx sy) (R : RunT r U T P) {L : List (Int × Int)} (nd : L.Nodup) (hL : ∀ s, s ∈ L ↔ Ins r U s ∧ ∃ n, n < P ∧ Cls A B sx sy n ∧ (r.wk U).sp n = s) : r.ncr = L.length := by
  obtain ⟨c1, c2⟩ := C.crT_mem R
  obtain ⟨f1, f2⟩ := crF_ok r r.crT [] .nil
  unfold RunD.ncr
  rw [if_neg (by rintro (z | z); exact C.a0 z; exact C.b0 z)]
  have nd2 : (L.map (lowP U)).Nodup := List.Pairwise.map _ (fun a b h e => h (lowP_inj C.U0 e)) nd
  have pm : (r.crF r.crT []).Perm (L.map (lowP U)) := by
    rw [List.perm_ext_iff_of_nodup f1 nd2]
    intro p
    rw [f2, List.mem_map]
    constructor
    · rintro (h | ⟨t, ht, hi, rfl⟩)
      · cases h
      · obtain ⟨n, rfl⟩ := c1 t ht
        obtain ⟨n1, n2⟩ := (c2 n).mp ht
        exact ⟨(r.wk U).sp n, (hL _).mpr ⟨(inn_tick r C.U0 n).mp hi, n, n1, n2, rfl⟩, (pp_tick r C.U0 n).symm⟩
    · rintro ⟨s, hs, rfl⟩
      obtain ⟨q1, n, n1, n2, rfl⟩ := (hL s).mp hs
      exact .inr ⟨low (n : Int) U, (c2 n).mpr ⟨n1, n2⟩, (inn_tick r C.U0 n).mpr q1, (pp_tick r C.U0 n).symm⟩
  rw [pm.length_eq, List.length_map]
end
theorem okCr_of {r : RunD} (ok : r.Ok) : okCr r := by
  by_cases a0 : r.a = 0
  · exact .inl a0
  by_cases b0 : r.b = 0
  · exact .inr (.inl b0)
  obtain ⟨h1, h2, h3, h4, h5, h6, h7⟩ : okRun r.w r.h r.x r.y r.a r.b := id ok
  obtain ⟨U, u, Ub⟩ : ∃ U, UOk r U ∧ U ≤ 36 := by
    refine ⟨(r.a.natAbs : Nat) * (r.b.natAbs : Nat), ⟨Int.mul_pos (by omega) (by omega), fun h => Int.dvd_mul_of_dvd_left (Int.dvd_natAbs.mpr (Int.dvd_refl _)), fun h => Int.dvd_mul_of_dvd_right (Int.dvd_natAbs.mpr (Int.dvd_refl _))⟩, ?_⟩
    have := Int.mul_le_mul (a := ((r.a.natAbs : Nat) : Int)) (b := ((r.b.natAbs : Nat) : Int)) (c := 6) (d := 6) (by omega) (by omega) (by omega) (by omega)
    omega
  obtain ⟨T, P, R⟩ := runT ok u
  obtain ⟨A, B, sx, sy, C⟩ := cr_of ok u a0 b0
  obtain ⟨K, hK, KP⟩ := C.K R
  have ok' : okRun r.w r.h r.x r.y r.a r.b := ok
  have Pb : (P : Int) ≤ 576 * U := by
    have b1 : r.per.1 ≤ 576 := (per_le ok').1
    have q1 : r.per.1 * U ≤ 576 * U := Int.mul_le_mul_of_nonneg_right b1 (by have := u.pos; omega)
    have q2 : 1 * (P : Int) ≤ r.per.2 * (P : Int) := Int.mul_le_mul_of_nonneg_right (by have := R.p2; omega) (by omega)
    have := R.e
    omega
  have U0 := u.pos
  have g0 := gd_pos (B := B) C.A0
  have gA : gd A B ≤ A := Int.le_of_dvd C.A0 (Int.gcd_dvd_left ..)
  have Ab : A ≤ 432 := by
    have e := C.eA
    have m1 : r.w * U ≤ 12 * 36 := Int.mul_le_mul (by omega) Ub (by omega) (by omega)
    have m2 : A * 1 ≤ A * ((r.a.natAbs : Nat) : Int) := Int.mul_le_mul_of_nonneg_left (by omega) (by have := C.A0; omega)
    omega
  have st := C.step ok
  have tl := low_le (n := gd A B) (d := U) g0 U0
  have t1 := low_pos' (n := gd A B) (d := U) g0 U0
  have t2 := (low_spec (n := gd A B) U0).1
  rw [← st] at tl t1 t2
  have p2 : 0 < r.per.2 := R.p2
  have p3 : r.per.2 ≤ 6 := (per_le ok').2
  refine .inr (.inr ⟨?_, fun s hs => ?_⟩)
  · have n1 := low_le (n := r.w) (d := (r.a.natAbs : Nat)) (by omega) (by omega)
    have n2 := low_le (n := r.h) (d := (r.b.natAbs : Nat)) (by omega) (by omega)
    have q1 := low_pos' (n := r.w) (d := (r.a.natAbs : Nat)) (by omega) (by omega)
    have q2 := low_pos' (n := r.h) (d := (r.b.natAbs : Nat)) (by omega) (by omega)
    have s1 := (low_spec (n := r.w) (d := (r.a.natAbs : Nat)) (by omega)).1
    have s2 := (low_spec (n := r.h) (d := (r.b.natAbs : Nat)) (by omega)).1
    exact ⟨by omega, by omega, ⟨s1, by omega⟩, s2, by omega⟩
  · simp only [RunD.sts, List.mem_cons, List.not_mem_nil, or_false] at hs
    rcases hs with rfl | rfl
    · have rt := row_ticks U0 g0 C.lx st R.p2 R.e hK
      have n1 := low_num (n := -r.x) a0
      have d1 := low_den (n := -r.x) a0 (by omega)
      exact ⟨by omega, ⟨d1.1, by omega⟩, ⟨t1, by omega⟩, ⟨t2, by omega⟩, ⟨p2, by show r.per.2 ≤ 1000; omega⟩, rt.1, by show rwK _ _ r.per ≤ _; rw [rt.2.1]; omega⟩
    · have rt := row_ticks U0 g0 C.ly st R.p2 R.e hK
      have n1 := low_num (n := -r.y) b0
      have d1 := low_den (n := -r.y) b0 (by omega)
      exact ⟨by omega, ⟨d1.1, by omega⟩, ⟨t1, by omega⟩, ⟨t2, by omega⟩, ⟨p2, by show r.per.2 ≤ 1000; omega⟩, rt.1, by show rwK _ _ r.per ≤ _; rw [rt.2.1]; omega⟩
theorem crossings_at {r : RunD} (ok : r.Ok) (S : Sto) : G_crossings [r.W] S = some (.int (r.ncr : Nat), S) := by
  have ok' : okRun r.w r.h r.x r.y r.a r.b := ok
  have oc := okCr_of ok
  obtain ⟨w, h, x, y, a, b⟩ := r
  exact if_pos ⟨ok', oc⟩
end Bp

/-! Mt19: a place is crossed iff it is run through with both lines. -/
namespace Bp
set_option autoImplicit false
open PySem L2
/-! ### halves of a coordinate's round -/
def hf (z m : Int) : Prop := z % (2 * m) < m
instance (z m : Int) : Decidable (hf z m) := inferInstanceAs (Decidable (_ < _))
theorem ins_half {z m : Int} (hm : 0 < m) (h : 0 < foldI z m ∧ foldI z m < m) : (hf z m ∧ z % (2 * m) = foldI z m) ∨ (¬ hf z m ∧ z % (2 * m) = 2 * m - foldI z m) := by
  obtain ⟨b1, b2⟩ := emod_bounds (z := z) hm
  unfold foldI hf at *
  split at h <;> rename_i c
  · rw [if_pos c]; right; omega
  · rw [if_neg c]; left; omega
theorem half_same {z z' m : Int} (hm : 0 < m) (h : 0 < foldI z m ∧ foldI z m < m) (e : foldI z m = foldI z' m) : ((hf z m ↔ hf z' m) → 2 * m ∣ z - z') ∧ (¬ (hf z m ↔ hf z' m) → 2 * m ∣ z + z') := by
  have q1 := Int.emod_add_mul_ediv z (2 * m)
  have q2 := Int.emod_add_mul_ediv z' (2 * m)
  have i1 := ins_half hm h
  have i2 := ins_half (z := z') hm (by rw [← e]; exact h)
  constructor
  · intro hh
    have : z % (2 * m) = z' % (2 * m) := by
      rcases i1 with ⟨a, b⟩ | ⟨a, b⟩ <;> rcases i2 with ⟨c, d⟩ | ⟨c, d⟩
      · rw [b, d, e]
      · exact absurd (hh.mp a) c
      · exact absurd (hh.mpr c) a
      · rw [b, d, e]
    exact ⟨z / (2 * m) - z' / (2 * m), by rw [Int.mul_sub]; omega⟩
  · intro hh
    have : z % (2 * m) + z' % (2 * m) = 2 * m := by
      rcases i1 with ⟨a, b⟩ | ⟨a, b⟩ <;> rcases i2 with ⟨c, d⟩ | ⟨c, d⟩
      · exact absurd ⟨fun _ => c, fun _ => a⟩ hh
      · rw [b, d, e]; omega
      · rw [b, d, e]; omega
      · exact absurd ⟨fun z => absurd z a, fun z => absurd z c⟩ hh
    exact ⟨z / (2 * m) + z' / (2 * m) + 1, by rw [Int.mul_add, Int.mul_add]; omega⟩
theorem half_add {z z' m : Int} (hd : 2 * m ∣ z - z') : foldI z' m = foldI z m ∧ (hf z' m ↔ hf z m) := by
  obtain ⟨k, hk⟩ := hd
  have e : z = z' + 2 * m * k := by omega
  subst e
  exact ⟨foldI_add.symm, by unfold hf; rw [Int.add_mul_emod_self_left]⟩
theorem half_neg {z z' m : Int} (hm : 0 < m) (h : 0 < foldI z m ∧ foldI z m < m) (hd : 2 * m ∣ z + z') : foldI z' m = foldI z m ∧ ¬ (hf z' m ↔ hf z m) := by
  have e : foldI z' m = foldI z m := by
    obtain ⟨k, hk⟩ := hd
    rw [show z' = -z + 2 * m * k by omega, foldI_add, foldI_neg hm]
  refine ⟨e, fun hh => ?_⟩
  have d2 := (half_same hm h e.symm).1 hh.symm
  obtain ⟨p, hp⟩ := hd
  obtain ⟨q, hq⟩ := d2
  have i1 := ins_half hm h
  have q1 := Int.emod_add_mul_ediv z (2 * m)
  have : z = m * (p + q) := by rw [Int.mul_add]; have : 2 * m * p + 2 * m * q = 2 * (m * p + m * q) := by grind
                               omega
  have dm : m ∣ z := ⟨p + q, this⟩
  have := (fold_wall hm).mpr dm
  omega
theorem dir_half {z m a : Int} (hm : 0 < m) (h : 0 < foldI z m ∧ foldI z m < m) : dirI z m a = if hf z m then a else -a := by
  have b := emod_bounds (z := z) hm
  rcases ins_half hm h with ⟨c, d⟩ | ⟨c, d⟩
  · rw [if_pos c]
    have c' : z % (2 * m) < m := c
    unfold dirI
    rw [if_pos c', if_pos (show 0 < z % (2 * m) ∧ z % (2 * m) ≤ m by omega)]
    split <;> rfl
  · rw [if_neg c]
    have c' : ¬ z % (2 * m) < m := c
    unfold dirI
    rw [if_neg c', if_neg (show ¬ (0 < z % (2 * m) ∧ z % (2 * m) ≤ m) by omega)]
    split <;> rfl
section
variable {r : RunD} {U A B sx sy : Int} {T : Nat → Nat} {P : Nat}
def RunD.zx (r : RunD) (U : Int) (n : Int) : Int := r.x * U + r.a * n
def RunD.zy (r : RunD) (U : Int) (n : Int) : Int := r.y * U + r.b * n
/-- the ball runs on a rising line -/
def Rise (r : RunD) (U : Int) (n : Nat) : Prop := 0 < (r.wk U).dx n * (r.wk U).dy n
instance (r : RunD) (U : Int) (n : Nat) : Decidable (Rise r U n) := inferInstanceAs (Decidable (_ < _))
theorem rise_half (C : Cr r U A B sx sy) (ok : r.Ok) {n : Nat} (hi : Ins r U ((r.wk U).sp n)) : Rise r U n ↔ ((hf (r.zx U n) (r.w * U) ↔ hf (r.zy U n) (r.h * U)) ↔ 0 < r.a * r.b) := by
  obtain ⟨h1, h2, _⟩ : okRun r.w r.h r.x r.y r.a r.b := id ok
  have m1 : 0 < r.w * U := Int.mul_pos (by omega) C.U0
  have m2 : 0 < r.h * U := Int.mul_pos (by omega) C.U0
  have dx : (r.wk U).dx n = if hf (r.zx U n) (r.w * U) then r.a else -r.a := dir_half m1 hi.1
  have dy : (r.wk U).dy n = if hf (r.zy U n) (r.h * U) then r.b else -r.b := dir_half m2 hi.2
  have ne : r.a * r.b ≠ 0 := fun z => by rcases Int.mul_eq_zero.mp z with z | z; exact C.a0 z; exact C.b0 z
  unfold Rise
  rw [dx, dy]
  by_cases c : hf (r.zx U n) (r.w * U) <;> by_cases d : hf (r.zy U n) (r.h * U) <;> simp only [c, d, if_true, if_false, iff_true, true_iff, iff_false, false_iff, not_true, not_false_iff]
  · have : r.a * -r.b = -(r.a * r.b) := by grind
    rw [this]; omega
  · have : -r.a * r.b = -(r.a * r.b) := by grind
    rw [this]; omega
  · have : -r.a * -r.b = r.a * r.b := by grind
    rw [this]
/-- congruences of a coordinate in ticks -/
theorem tick_dvd {a A M : Int} (ha : a ≠ 0) (eA : M = A * (a.natAbs : Nat)) (n : Int) : 2 * M ∣ a * n ↔ 2 * A ∣ n := by
  constructor
  · rintro ⟨k, hk⟩
    rcases sg_cases ha with ⟨s1, s2⟩ | ⟨s1, s2⟩
    · refine ⟨k, Int.eq_of_mul_eq_mul_left (a := a) ha ?_⟩
      rw [hk, eA, s2]; grind
    · refine ⟨-k, Int.eq_of_mul_eq_mul_left (a := a) ha ?_⟩
      rw [hk, eA, s2]; grind
  · rintro ⟨k, hk⟩
    rcases sg_cases ha with ⟨s1, s2⟩ | ⟨s1, s2⟩
    · exact ⟨k, by rw [hk, eA, s2]; grind⟩
    · exact ⟨-k, by rw [hk, eA, s2]; grind⟩
theorem Cr.xs (C : Cr r U A B sx sy) (n m : Int) : 2 * (r.w * U) ∣ r.zx U n - r.zx U m ↔ 2 * A ∣ n - m := by
  rw [← tick_dvd C.a0 C.eA, show r.zx U n - r.zx U m = r.a * (n - m) by unfold RunD.zx; grind]
theorem Cr.xd (C : Cr r U A B sx sy) (n m : Int) : 2 * (r.w * U) ∣ r.zx U n + r.zx U m ↔ 2 * A ∣ n + m - 2 * sx := by
  rw [← tick_dvd C.a0 C.eA, show r.zx U n + r.zx U m = r.a * (n + m - 2 * sx) by unfold RunD.zx; rw [C.ex]; grind]
theorem Cr.ys (C : Cr r U A B sx sy) (n m : Int) : 2 * (r.h * U) ∣ r.zy U n - r.zy U m ↔ 2 * B ∣ n - m := by
  rw [← tick_dvd C.b0 C.eB, show r.zy U n - r.zy U m = r.b * (n - m) by unfold RunD.zy; grind]
theorem Cr.yd (C : Cr r U A B sx sy) (n m : Int) : 2 * (r.h * U) ∣ r.zy U n + r.zy U m ↔ 2 * B ∣ n + m - 2 * sy := by
  rw [← tick_dvd C.b0 C.eB, show r.zy U n + r.zy U m = r.b * (n + m - 2 * sy) by unfold RunD.zy; rw [C.ey]; grind]
theorem gd_sum {A B : Int} {n : Int} (h : gd A B ∣ n) : ∃ p q, n = A * p + B * q := by
  obtain ⟨k, hk⟩ := h
  obtain ⟨x, y, e⟩ := bezoutI A B
  refine ⟨x * k, y * k, ?_⟩
  have e' : gd A B = A * x + B * y := e
  rw [hk, e']; grind
theorem sp_iff {n : Nat} {s : Int × Int} : (r.wk U).sp n = s ↔ foldI (r.zx U n) (r.w * U) = s.1 ∧ foldI (r.zy U n) (r.h * U) = s.2 := by
  constructor
  · rintro rfl; exact ⟨rfl, rfl⟩
  · rintro ⟨h1, h2⟩; exact Prod.ext h1 h2
/-- a later tick than any, by turns -/
theorem later (R : RunT r U T P) (m : Int) : ∃ (m' : Nat) (j : Int), (m' : Int) = m + (P : Int) * j := by
  have P0 := R.rd.pos
  refine ⟨(m + (P : Int) * (m.natAbs : Nat)).toNat, (m.natAbs : Nat), ?_⟩
  have : 1 * ((m.natAbs : Nat) : Int) ≤ (P : Int) * ((m.natAbs : Nat) : Int) := Int.mul_le_mul_of_nonneg_right (by omega) (by omega)
  omega
/-- crossed: run through with both lines -/
def Both (r : RunD) (U : Int) (s : Int × Int) : Prop := (∃ n, (r.wk U).sp n = s ∧ Rise r U n) ∧ ∃ n, (r.wk U).sp n = s ∧ ¬ Rise r U n
theorem both_iff (C : Cr r U A B sx sy) (R : RunT r U T P) {s : Int × Int} (hi : Ins r U s) : Both r U s ↔ ∃ n, (r.wk U).sp n = s ∧ Cls A B sx sy n := by
  obtain ⟨h1, h2, _⟩ : okRun r.w r.h r.x r.y r.a r.b := id R.ok
  have m1 : 0 < r.w * U := Int.mul_pos (by omega) C.U0
  have m2 : 0 < r.h * U := Int.mul_pos (by omega) C.U0
  obtain ⟨k, l, pk, pl⟩ := C.per R
  constructor
  · rintro ⟨⟨n, hn, rn⟩, m, hm, rm⟩
    have in1 : Ins r U ((r.wk U).sp n) := by rw [hn]; exact hi
    have in2 : Ins r U ((r.wk U).sp m) := by rw [hm]; exact hi
    rw [rise_half C R.ok in1] at rn
    rw [rise_half C R.ok in2] at rm
    obtain ⟨nx, ny⟩ := sp_iff.mp hn
    obtain ⟨mx, my⟩ := sp_iff.mp hm
    have X := half_same (z := r.zx U n) (z' := r.zx U m) m1 (by rw [nx]; exact hi.1) (nx.trans mx.symm)
    have Y := half_same (z := r.zy U n) (z' := r.zy U m) m2 (by rw [ny]; exact hi.2) (ny.trans my.symm)
    refine ⟨n, hn, ?_⟩
    by_cases ex : hf (r.zx U n) (r.w * U) ↔ hf (r.zx U m) (r.w * U)
    · by_cases ey : hf (r.zy U n) (r.h * U) ↔ hf (r.zy U m) (r.h * U)
      · exact absurd (by rw [← ex, ← ey]; exact rn) rm
      · obtain ⟨p, hp⟩ := (C.xs n m).mp (X.1 ex)
        obtain ⟨q, hq⟩ := (C.yd n m).mp (Y.2 ey)
        refine .inr ?_
        have e : (n : Int) - sy = A * p + B * q := by
          have e1 : 2 * A * p = 2 * (A * p) := by grind
          have e2 : 2 * B * q = 2 * (B * q) := by grind
          omega
        rw [e]
        exact Int.dvd_add (Int.dvd_mul_of_dvd_left (Int.gcd_dvd_left ..)) (Int.dvd_mul_of_dvd_left (Int.gcd_dvd_right ..))
    · by_cases ey : hf (r.zy U n) (r.h * U) ↔ hf (r.zy U m) (r.h * U)
      · obtain ⟨p, hp⟩ := (C.xd n m).mp (X.2 ex)
        obtain ⟨q, hq⟩ := (C.ys n m).mp (Y.1 ey)
        refine .inl ?_
        have e : (n : Int) - sx = A * p + B * q := by
          have e1 : 2 * A * p = 2 * (A * p) := by grind
          have e2 : 2 * B * q = 2 * (B * q) := by grind
          omega
        rw [e]
        exact Int.dvd_add (Int.dvd_mul_of_dvd_left (Int.gcd_dvd_left ..)) (Int.dvd_mul_of_dvd_left (Int.gcd_dvd_right ..))
      · exfalso
        refine rm ?_
        by_cases q1 : hf (r.zx U n) (r.w * U) <;> by_cases q2 : hf (r.zx U m) (r.w * U) <;> by_cases q3 : hf (r.zy U n) (r.h * U) <;> by_cases q4 : hf (r.zy U m) (r.h * U) <;> simp_all
  · rintro ⟨n, hn, hc⟩
    obtain ⟨nx, ny⟩ := sp_iff.mp hn
    have in1 : Ins r U ((r.wk U).sp n) := by rw [hn]; exact hi
    have other : ∃ m, (r.wk U).sp m = s ∧ ¬ ((hf (r.zx U m) (r.w * U) ↔ hf (r.zy U m) (r.h * U)) ↔ (hf (r.zx U n) (r.w * U) ↔ hf (r.zy U n) (r.h * U))) := by
      rcases hc with hc | hc
      · obtain ⟨p, q, e⟩ := gd_sum hc
        obtain ⟨m, j, hm⟩ := later R ((n : Int) - 2 * B * q)
        have dx : 2 * A ∣ (n : Int) + m - 2 * sx := ⟨p + k * j, by
          rw [hm, pk]
          have e1 : 2 * B * q = 2 * (B * q) := by grind
          have e2 : 2 * A * (p + (k : Int) * j) = 2 * (A * p) + 2 * A * (k : Int) * j := by grind
          omega⟩
        have dy : 2 * B ∣ (n : Int) - m := ⟨q - l * j, by
          rw [hm, pl]
          have e2 : 2 * B * (q - (l : Int) * j) = 2 * B * q - 2 * B * (l : Int) * j := by grind
          omega⟩
        obtain ⟨x1, x2⟩ := half_neg m1 (by rw [nx]; exact hi.1) ((C.xd n m).mpr dx)
        obtain ⟨y1, y2⟩ := half_add ((C.ys n m).mpr dy)
        refine ⟨m, sp_iff.mpr ⟨x1.trans nx, y1.trans ny⟩, fun z => x2 ?_⟩
        rw [y2] at z
        by_cases q1 : hf (r.zx U n) (r.w * U) <;> by_cases q2 : hf (r.zx U m) (r.w * U) <;> by_cases q3 : hf (r.zy U n) (r.h * U) <;> simp_all
      · obtain ⟨p, q, e⟩ := gd_sum hc
        obtain ⟨m, j, hm⟩ := later R ((n : Int) - 2 * A * p)
        have dx : 2 * A ∣ (n : Int) - m := ⟨p - k * j, by
          rw [hm, pk]
          have e2 : 2 * A * (p - (k : Int) * j) = 2 * A * p - 2 * A * (k : Int) * j := by grind
          omega⟩
        have dy : 2 * B ∣ (n : Int) + m - 2 * sy := ⟨q + l * j, by
          rw [hm, pl]
          have e1 : 2 * A * p = 2 * (A * p) := by grind
          have e2 : 2 * B * (q + (l : Int) * j) = 2 * (B * q) + 2 * B * (l : Int) * j := by grind
          omega⟩
        obtain ⟨x1, x2⟩ := half_add ((C.xs n m).mpr dx)
        obtain ⟨y1, y2⟩ := half_neg m2 (by rw [ny]; exact hi.2) ((C.yd n m).mpr dy)
        refine ⟨m, sp_iff.mpr ⟨x1.trans nx, y1.trans ny⟩, fun z => y2 ?_⟩
        rw [x2] at z
        by_cases q1 : hf (r.zx U n) (r.w * U) <;> by_cases q2 : hf (r.zy U m) (r.h * U) <;> by_cases q3 : hf (r.zy U n) (r.h * U) <;> simp_all
    obtain ⟨m, hm, ne⟩ := other
    have in2 : Ins r U ((r.wk U).sp m) := by rw [hm]; exact hi
    have r1 := rise_half C R.ok in1
    have r2 := rise_half C R.ok in2
    by_cases rn : Rise r U n
    · refine ⟨⟨n, hn, rn⟩, m, hm, fun rm => ne ?_⟩
      rw [r1] at rn; rw [r2] at rm
      rw [rm, rn]
    · have rm : Rise r U m := by
        rw [r2]
        rw [r1] at rn
        by_cases q1 : (hf (r.zx U n) (r.w * U) ↔ hf (r.zy U n) (r.h * U)) <;> by_cases q2 : (hf (r.zx U m) (r.w * U) ↔ hf (r.zy U m) (r.h * U)) <;> by_cases q3 : 0 < r.a * r.b <;> simp_all
      exact ⟨⟨m, hm, rm⟩, n, hn, rn⟩
end
end Bp

/-! Ev13: [x for x in d if x in e], d and e dicts keyed by tuples. -/
namespace Bp
set_option autoImplicit false
open PySem PySem.Spec L2
def keyW : Key → W
  | .inl i => .int i
  | .inr x => .str x
def kinL (kvs kvs2 : List (List Key × W)) : List (List Key) := (kvs.map (·.1)).filter fun k => (valW kvs2 k).isSome
def eKin (i0 i j : Nat) : Fe := fun e S => match e[i]?, e[j]? with
  | some (some (.ref n)), some (some (.ref m)) => if n = m ∨ e.length ≤ i0 then none else match S[n]?, S[m]? with
    | some (.dT kvs), some (.dT kvs2) => if kvs.length < sizeLine then some (.ref S.length, S ++ [.lst ((kinL kvs kvs2).map fun k => .tup (k.map keyW))]) else none
    | _, _ => none
  | _, _ => none
section
variable {X : Cx}
theorem rep_keys {K : PySem.W.Frag} {r : List Addr} {H : Hp} : ∀ ks : List Key, Reps K r H (ks.map keyW) (ks.map kV)
  | [] => .nil
  | .inl i :: ks => .cons (.int i) (rep_keys ks)
  | .inr x :: ks => .cons (.str x) (rep_keys ks)
/-- keys at their places -/
def KeyAt (H : Hp) : List (List Key) → List V → Prop
  | [], [] => True
  | k :: ks, v :: vs => (∃ q, v = .ref q ∧ H q = some (.tup (k.map kV))) ∧ KeyAt H ks vs
  | _, _ => False
theorem KeyAt.app {H : Hp} : ∀ {ks : List (List Key)} {vs : List V} {k : List Key} {q : Addr}, KeyAt H ks vs → H q = some (.tup (k.map kV)) → KeyAt H (ks ++ [k]) (vs ++ [.ref q])
  | [], [], k, q, _, h => ⟨⟨q, rfl, h⟩, trivial⟩
  | k' :: ks, v :: vs, k, q, ⟨h1, h2⟩, h => ⟨h1, KeyAt.app h2 h⟩
  | [], _ :: _, _, _, h, _ => h.elim
  | _ :: _, [], _, _, h, _ => h.elim
theorem KeyAt.reps {K : PySem.W.Frag} {r : List Addr} {H : Hp} : ∀ {ks : List (List Key)} {vs : List V}, KeyAt H ks vs → Reps K r H (ks.map fun k => W.tup (k.map keyW)) vs
  | [], [], _ => .nil
  | k :: ks, v :: vs, ⟨⟨q, e, h1⟩, h2⟩ => by
    subst e
    exact .cons (.tup h1 (rep_keys k)) (KeyAt.reps h2)
  | [], _ :: _, h => h.elim
  | _ :: _, [], h => h.elim
theorem KeyAt.len {H : Hp} : ∀ {ks : List (List Key)} {vs : List V}, KeyAt H ks vs → vs.length = ks.length
  | [], [], _ => rfl
  | k :: ks, v :: vs, ⟨_, h2⟩ => by simp [KeyAt.len h2]
  | [], _ :: _, h => h.elim
  | _ :: _, [], h => h.elim
theorem w_kin {x d e : Str} {i i1 i2 : Nat} {px pd pe pc pv pos : Pos} {scope : Scope} (hu : X.A.units + 65 < cLine) (hc : X.calm = true) (hN : X.N.Nodup) (ok : BlkOk X.N X.env.scope scope [(x, i)]) (ne1 : i1 ≠ i) (ne2 : i2 ≠ i)
    (hd : PE X (.Name d pd) (tVar i1))
    (hx : ∀ (s : Shared) (H : Hp) (C : Addr) (cl : List (Str × Addr)) (fp : List Addr), PE (X.blk s H scope (compEnvC scope cl C X.env) fp) (.Name x pv) (tVar i))
    (hx2 : ∀ (s : Shared) (H : Hp) (C : Addr) (cl : List (Str × Addr)) (fp : List Addr), PE (X.blk s H scope (compEnvC scope cl C X.env) fp) (.Name x pc) (tVar i))
    (he : ∀ (s : Shared) (H : Hp) (C : Addr) (cl : List (Str × Addr)) (fp : List Addr), PE (X.blk s H scope (compEnvC scope cl C X.env) fp) (.Name e pe) (tVar i2))
    (hg : ∀ (s : Shared) (H : Hp) (C : Addr) (cl : List (Str × Addr)) (fp : List Addr), PG (X.blk s H scope (compEnvC scope cl C X.env) fp) (.Name x px) (gName i))
    (hub : ∀ (s : Shared) (H : Hp) (C : Addr) (cl : List (Str × Addr)) (fp : List Addr), (X.blk s H scope (compEnvC scope cl C X.env) fp).A.units + 1 < cLine)
    (hs : ∀ x, foldedSetIterable (.Name d pd) X.env x = pure x := by intro _; rfl) {p2 : Pos} :
    PE X (.ListComp (.Name x pv) [⟨.Name x px, .Name d pd, [.Compare (.Name x pc) [.In] [.Name e pe] p2], 0⟩] scope pos) (tE X.K (eKin i i1 i2)) := by
  refine pe_w (pe_lock (pe_lc (own := [(x, i)]) hc hN (pi_keys hd) ok hg (fun s H C cl fp => pts_one (pt_cmpR (op_inDct (hub s H C cl fp)) (hx2 s H C cl fp) (he s H C cl fp) (by rfl))) hx hs)) fun σ H Q q => ?_
  obtain ⟨r, en, S, w, S', at_, hf, k⟩ := q
  unfold eKin at hf
  split at hf
  · rename_i n m e1 e2
    split at hf
    · cases hf
    · rename_i nm
      split at hf
      · rename_i kvs kvs2 s1 s2
        split at hf
        · rename_i hl
          cases hf
          obtain ⟨v1, g1, r1⟩ := at_.env.2 i1 _ e1
          obtain ⟨v2, g2, r2⟩ := at_.env.2 i2 _ e2
          cases r1 with
          | @ref a1 _ ha1 =>
            cases r2 with
            | @ref a2 _ ha2 =>
              obtain ⟨ks, h1, h2⟩ := at_.sim.obj _ _ _ ha1 s1
              obtain ⟨ks2, h3, h4⟩ := at_.sim.obj _ _ _ ha2 s2
              have a12 : a2 ≠ a1 := fun z => nm (.inl <| at_.sim.nd n m a1 ha1 (by rw [← z]; exact ha2))
              have kl : ks.length = kvs.length := h2.len
              have kk : ks.map (·.1) = kvs.map (·.1) := h2.keys
              refine ⟨a1, .dT ks, h1, trivial, fun od => ⟨.ref a1, g1, a1, od, rfl, .inr ⟨ks, upd_same, fun D hD => ?_⟩⟩⟩
              have D1 : D ≠ a1 := fun z => by subst z; rw [upd_same] at hD; cases hD
              have HD : H D = none := by rw [upd_ne D1] at hD; exact hD
              let F : Nat → List (List Key) := fun t => ((kvs.map (·.1)).take t).filter fun k => (valW kvs2 k).isSome
              have val : ∀ k : List Key, (valV ks2 k).isSome = (valW kvs2 k).isSome := fun k => by
                rcases h4.val k with ⟨q1, q2⟩ | ⟨w', v', q1, q2, _⟩ <;> rw [q1, q2] <;> rfl
              refine ⟨fun t mm H' => mm = ks.length - t ∧ t ≤ ks.length ∧ ∃ acc, KeyAt H (F t) acc ∧ H' = upd (upd H a1 (.frz od (.dT ks))) D (.lst acc), ⟨ks.length, by simp, Nat.zero_le _, [], trivial, rfl⟩, ?_⟩
              rintro t mm H' ⟨rfl, ht, acc, ka, rfl⟩
              have f1 : ∀ b, b ≠ D → b ≠ a1 → (upd (upd H a1 (.frz od (.dT ks))) D (.lst acc)) b = H b := fun b z1 z2 => by rw [upd_ne z1, upd_ne z2]
              have fa : (upd (upd H a1 (.frz od (.dT ks))) D (.lst acc)) a1 = some (.frz od (.dT ks)) := by rw [upd_ne (Ne.symm D1)]; exact upd_same
              by_cases hlt : t < ks.length
              · refine .inr ⟨⟨fa, hlt⟩, fun H' => ∃ acc, KeyAt H (F (t + 1)) acc ∧ H' = upd (upd H a1 (.frz od (.dT ks))) D (.lst acc), fun H' ⟨acc, z1, z2⟩ => ⟨ks.length - (t + 1), by omega, rfl, by omega, acc, z1, z2⟩, fun v H2 y => ?_⟩
                obtain ⟨rfl, key, val', q, hk, rfl, hq⟩ := y
                have qD : q ≠ D := fun z => by subst z; rw [upd_same] at hq; cases hq
                have qa : q ≠ a1 := fun z => by subst z; rw [fa] at hq; cases hq
                have hq0 : H q = some (.tup (key.map kV)) := by rw [f1 q qD qa] at hq; exact hq
                have hkk : (kvs.map (·.1))[t]? = some key := by rw [← kk, List.getElem?_map, hk]; rfl
                have Fs : F (t + 1) = F t ++ (if (valW kvs2 key).isSome = true then [key] else []) := by
                  show ((kvs.map (·.1)).take (t + 1)).filter _ = _
                  rw [List.take_succ, hkk, List.filter_append]
                  congr 1
                  simp only [Option.toList_some, List.filter_cons, List.filter_nil]
                have il : i < σ.length := by
                  rw [← at_.env.1]
                  rcases Nat.lt_or_ge i en.length with z | z
                  · exact z
                  · exact absurd (.inr z) nm
                have w1 : ((wipe σ [i]).set i (some (.ref q)))[i]? = some (some (.ref q)) := by
                  rw [List.getElem?_set_self (by rw [wipe_length]; exact il)]
                have w2 : ((wipe σ [i]).set i (some (.ref q)))[i2]? = some (some (.ref a2)) := by
                  rw [List.getElem?_set_ne (Ne.symm ne2)]
                  show ((wipe σ []).set i none)[i2]? = _
                  rw [List.getElem?_set_ne (Ne.symm ne2)]
                  exact g2
                have h3' : (upd (upd H a1 (.frz od (.dT ks))) D (.lst acc)) a2 = some (.dT ks2) := by
                  rw [f1 a2 (fun z => by subst z; rw [HD] at h3; cases h3) a12]
                  exact h3
                refine ⟨by simp [wipe], .ref q, w1, .ref a2, w2, a2, valV ks2 key, rfl, DGet.t h3' hq, (valV ks2 key).isSome, rfl, ?_⟩
                rw [val key]
                dsimp only
                by_cases c : (valW kvs2 key).isSome = true
                · rw [if_pos c]
                  rw [if_pos c] at Fs
                  refine ⟨.ref q, w1, acc, upd_same, ?_, acc ++ [.ref q], ?_, ?_⟩
                  · rw [ka.len]
                    have : (F t).length ≤ t := Nat.le_trans (List.length_filter_le _ _) (by rw [List.length_take]; omega)
                    omega
                  · rw [Fs]; exact ka.app hq0
                  · exact upd_upd
                · rw [if_neg c]
                  rw [if_neg c, List.append_nil] at Fs
                  exact ⟨acc, by rw [Fs]; exact ka, rfl⟩
              · have et : t = ks.length := by omega
                subst et
                refine .inl ⟨⟨fa, Nat.le_refl _⟩, fa, ?_⟩
                have eH : upd (upd (upd H a1 (.frz od (.dT ks))) D (.lst acc)) a1 (.dT ks) = upd H D (.lst acc) := by
                  funext b
                  by_cases z : b = a1
                  · subst z; rw [upd_same, upd_ne (Ne.symm D1)]; exact h1.symm
                  · rw [upd_ne z]
                    by_cases z2 : b = D
                    · subst z2; rw [upd_same, upd_same]
                    · rw [upd_ne z2, upd_ne z, upd_ne z2]
                rw [eH]
                have Fe : F ks.length = kinL kvs kvs2 := by
                  show ((kvs.map (·.1)).take ks.length).filter _ = _
                  rw [List.take_of_length_le (by rw [List.length_map]; omega)]
                  rfl
                rw [Fe] at ka
                exact KR.lst k at_.sim ka.reps D HD
        · cases hf
      · cases hf
  · cases hf
end
end Bp

/-! K07: the law k07. -/
namespace Bp
set_option autoImplicit false
open PySem L2
noncomputable def b_law_L1 : Fs := sIf (tAndW (tVal (eChain ltW ltW (eC (.int 0)) (eOp ixW (eVar 17) (eC (.int 0))) (eOp mulW (eVar 4) (eVar 3)))) (tVal (eChain ltW ltW (eC (.int 0)) (eOp ixW (eVar 17) (eC (.int 1))) (eOp mulW (eVar 5) (eVar 3))))) (sSeq (sAsg (eIf (tVal (eOp gtW (eOp mulW (eOp ixW (eVar 18) (eC (.int 0))) (eOp ixW (eVar 18) (eC (.int 1)))) (eC (.int 0)))) (eVar 15) (eVar 16)) (gN 19)) (sAsg (eC (.bl true)) (gSubW (eVar 19) (eVar 17) setDW))) (sNext)
/-- law(script); slots 0:script 1:town 2:run 3:unit 4:w 5:h 6:x 7:y 8:a 9:b 10:told 11:whole 12:spots 13:ways 14:walls 15:rising 16:falling 17:spot 18:way 19:book -/
noncomputable def b_law : Fs := sSeq (sAsg (eLst (aCons (eC (.int 0)) (aCons (eC (.int 0)) (aNil)))) (gN 1)) (sSeq (sAsg (eCall G__law_run (aCons (eVar 0) (aCons (eVar 1) (aCons (eC (.int 6)) (aCons (eC (.int 3)) (aNil)))))) (gN 2)) (sSeq (sAsg (eVar 2) (gTupW 6 (gsCons (gN 4) (gsCons (gN 5) (gsCons (gN 6) (gsCons (gN 7) (gsCons (gN 8) (gsCons (gN 9) (gsNil))))))))) (sSeq (sPar 10 11 (aCons (eCall G_crossings (aCons (eVar 2) (aNil))) (aCons (eCall G_period (aCons (eVar 2) (aNil))) (aNil)))) (sSeq (sIf (tOrW (tVal (eOp eqW (eVar 8) (eC (.int 0)))) (tVal (eOp eqW (eVar 9) (eC (.int 0))))) (sRet (eOp eqW (eVar 10) (eC (.int 0)))) (sNext)) (sSeq (sAsg (eCall absW (aCons (eOp mulW (eVar 8) (eVar 9)) (aNil))) (gN 3)) (sSeq (sAsg (eCall G__law_walk (aCons (eVar 2) (aCons (eVar 3) (aCons (eOp fdivW (eOp mulW (eOp ixW (eVar 11) (eC (.int 0))) (eVar 3)) (eOp ixW (eVar 11) (eC (.int 1)))) (aNil))))) (gTupW 3 (gsCons (gN 12) (gsCons (gN 13) (gsCons (gN 14) (gsNil)))))) (sSeq (sAsg (eTup (aCons (eNewT) (aCons (eNewT) (aNil)))) (gTupW 2 (gsCons (gN 15) (gsCons (gN 16) (gsNil))))) (sSeq (sFor (iZipW (aCons (eVar 12) (aCons (eVar 13) (aNil)))) (gTupW 2 (gsCons (gN 17) (gsCons (gN 18) (gsNil)))) (b_law_L1)) (sRet (eOp eqW (eVar 10) (eCall lenW (aCons (eKin 17 15 16) (aNil)))))))))))))
section
variable {r : RunD} {U A B sx sy : Int} {T : Nat → Nat} {P : Nat}
theorem dir_add {z m a k : Int} : dirI (z + 2 * m * k) m a = dirI z m a := by
  unfold dirI
  rw [Int.add_mul_emod_self_left]
theorem rise_mod (C : Cr r U A B sx sy) (R : RunT r U T P) (n : Nat) : (Rise r U (n % P) ↔ Rise r U n) ∧ (r.wk U).sp (n % P) = (r.wk U).sp n ∧ (Cls A B sx sy (n % P) ↔ Cls A B sx sy n) := by
  obtain ⟨k, l, h1, h2, _⟩ := R.fro
  obtain ⟨K, hK, _⟩ := C.K R
  have dm := Nat.mod_add_div n P
  have e : (n : Int) = ((n % P : Nat) : Int) + (P : Int) * ((n / P : Nat) : Int) := by
    have := congrArg (fun z : Nat => (z : Int)) dm
    simp only [Int.natCast_add, Int.natCast_mul] at this
    omega
  refine ⟨?_, (R.rd.mod n).symm, ?_⟩
  · have dx : (r.wk U).dx (n % P) = (r.wk U).dx n := by
      show dirI (r.x * U + r.a * ((n % P : Nat) : Int)) (r.w * U) r.a = dirI (r.x * U + r.a * (n : Int)) (r.w * U) r.a
      rcases sg_cases C.a0 with ⟨s1, s2⟩ | ⟨s1, s2⟩
      · rw [show r.x * U + r.a * (n : Int) = r.x * U + r.a * ((n % P : Nat) : Int) + 2 * (r.w * U) * ((k : Int) * ((n / P : Nat) : Int)) by
          rw [e]; rw [s2] at h1; rw [show 2 * (r.w * U) * ((k : Int) * ((n / P : Nat) : Int)) = (2 * (r.w * U) * (k : Int)) * ((n / P : Nat) : Int) by grind, ← h1]; grind, dir_add]
      · rw [show r.x * U + r.a * (n : Int) = r.x * U + r.a * ((n % P : Nat) : Int) + 2 * (r.w * U) * (-((k : Int) * ((n / P : Nat) : Int))) by
          rw [e]; rw [s2] at h1; rw [show 2 * (r.w * U) * (-((k : Int) * ((n / P : Nat) : Int))) = -((2 * (r.w * U) * (k : Int)) * ((n / P : Nat) : Int)) by grind, ← h1]; grind, dir_add]
    have dy : (r.wk U).dy (n % P) = (r.wk U).dy n := by
      show dirI (r.y * U + r.b * ((n % P : Nat) : Int)) (r.h * U) r.b = dirI (r.y * U + r.b * (n : Int)) (r.h * U) r.b
      rcases sg_cases C.b0 with ⟨s1, s2⟩ | ⟨s1, s2⟩
      · rw [show r.y * U + r.b * (n : Int) = r.y * U + r.b * ((n % P : Nat) : Int) + 2 * (r.h * U) * ((l : Int) * ((n / P : Nat) : Int)) by
          rw [e]; rw [s2] at h2; rw [show 2 * (r.h * U) * ((l : Int) * ((n / P : Nat) : Int)) = (2 * (r.h * U) * (l : Int)) * ((n / P : Nat) : Int) by grind, ← h2]; grind, dir_add]
      · rw [show r.y * U + r.b * (n : Int) = r.y * U + r.b * ((n % P : Nat) : Int) + 2 * (r.h * U) * (-((l : Int) * ((n / P : Nat) : Int))) by
          rw [e]; rw [s2] at h2; rw [show 2 * (r.h * U) * (-((l : Int) * ((n / P : Nat) : Int))) = -((2 * (r.h * U) * (l : Int)) * ((n / P : Nat) : Int)) by grind, ← h2]; grind, dir_add]
    unfold Rise
    rw [dx, dy]
  · have key : ∀ s : Int, gd A B ∣ ((n % P : Nat) : Int) - s ↔ gd A B ∣ (n : Int) - s := fun s => by
      rw [e, show ((n % P : Nat) : Int) + (P : Int) * ((n / P : Nat) : Int) - s = (((n % P : Nat) : Int) - s) + gd A B * ((K : Int) * ((n / P : Nat) : Int)) by rw [hK]; grind]
      exact (Int.dvd_add_left (Int.dvd_mul_right ..)).symm
    unfold Cls
    rw [key, key]
/-- the number of crossings is that of the inner places with both lines -/
theorem ncr_both (C : Cr r U A B sx sy) (R : RunT r U T P) {L : List (Int × Int)} (nd : L.Nodup) (hL : ∀ s, s ∈ L ↔ Ins r U s ∧ Both r U s) : r.ncr = L.length := by
  refine ncr_len C R nd fun s => ?_
  rw [hL]
  constructor
  · rintro ⟨h1, h2⟩
    obtain ⟨n, n1, n2⟩ := (both_iff C R h1).mp h2
    obtain ⟨_, q2, q3⟩ := rise_mod C R n
    exact ⟨h1, n % P, Nat.mod_lt _ R.rd.pos, q3.mpr n2, q2.trans n1⟩
  · rintro ⟨h1, n, _, n2, n3⟩
    exact ⟨h1, (both_iff C R h1).mpr ⟨n, n3, n2⟩⟩
end
theorem putP_nd {ts : List (Int × Int)} (h : ts.Nodup) (t : Int × Int) : (putP ts t).Nodup := by
  unfold putP
  split
  · exact h
  · rename_i hn
    rw [List.nodup_append]
    exact ⟨h, by simp, fun a ha b hb e => hn (by rw [List.mem_singleton] at hb; rw [← hb, ← e]; exact ha)⟩
def e7 (ws : List W) (r : RunD) (U : Int) (e17 e18 e19 : Option W) : En := [some (.fz ws), some (.ref 0), some r.W, some (.int U), some (.int r.w), some (.int r.h), some (.int r.x), some (.int r.y), some (.int r.a), some (.int r.b), some (.int (r.ncr : Nat)), some (fr r.per), some (.ref 1), some (.ref 2), some (.ref 3), some (.ref 4), some (.ref 5), e17, e18, e19]
structure Bo (r : RunD) (U : Int) (n : Nat) (t1 t2 : List (Int × Int)) : Prop where
  l1 : t1.length ≤ n
  l2 : t2.length ≤ n
  d1 : t1.Nodup
  m1 : ∀ s, s ∈ t1 ↔ Ins r U s ∧ ∃ k, k < n ∧ (r.wk U).sp k = s ∧ Rise r U k
  m2 : ∀ s, s ∈ t2 ↔ Ins r U s ∧ ∃ k, k < n ∧ (r.wk U).sp k = s ∧ ¬ Rise r U k
theorem k07_L1 (ws : List W) (r : RunD) (ok : r.Ok) (U : Int) (hU : 0 < U) (B : Sto) (hB : B.length = 4) (n : Nat) (hn : n < 1000000) (t1 t2 : List (Int × Int)) (bo : Bo r U n t1 t2) (e19 : Option W) :
    ∃ t1' t2' e19', b_law_L1 (e7 ws r U (some (fr ((r.wk U).sp n))) (some (.tup [.int ((r.wk U).dx n), .int ((r.wk U).dy n)])) e19) (B ++ [.dT (kvP t1), .dT (kvP t2)]) = some (.next (e7 ws r U (some (fr ((r.wk U).sp n))) (some (.tup [.int ((r.wk U).dx n), .int ((r.wk U).dy n)])) e19'), B ++ [.dT (kvP t1'), .dT (kvP t2')]) ∧ Bo r U (n + 1) t1' t2' := by
  obtain ⟨h1, h2, h3, h4, h5, h6, h7⟩ : okRun r.w r.h r.x r.y r.a r.b := id ok
  have o1 : okMul r.w U := .inl (by omega)
  have o2 : okMul r.h U := .inl (by omega)
  have da : ((r.wk U).dx n).natAbs = r.a.natAbs := dir_abs
  have db : ((r.wk U).dy n).natAbs = r.b.natAbs := dir_abs
  have o3 : okMul ((r.wk U).dx n) ((r.wk U).dy n) := .inl (by omega)
  have rs : Rise r U n ↔ 0 < (r.wk U).dx n * (r.wk U).dy n := Iff.rfl
  generalize hs : (r.wk U).sp n = s at *
  generalize (r.wk U).dx n = X at *
  generalize (r.wk U).dy n = Y at *
  have g4 : ∀ a b : O, (B ++ [a, b])[4]? = some a := fun a b => by rw [List.getElem?_append_right (by omega), hB]; rfl
  have g5 : ∀ a b : O, (B ++ [a, b])[5]? = some b := fun a b => by rw [List.getElem?_append_right (by omega), hB]; rfl
  have s4 : ∀ a b c : O, (B ++ [a, b]).set 4 c = B ++ [c, b] := fun a b c => by rw [List.set_append_right _ _ (by omega), hB]; rfl
  have s5 : ∀ a b c : O, (B ++ [a, b]).set 5 c = B ++ [a, c] := fun a b c => by rw [List.set_append_right _ _ (by omega), hB]; rfl
  have lz1 : (kvP t1).length < sizeLine := by rw [kvP_len]; exact Nat.lt_of_le_of_lt bo.l1 (Nat.lt_trans hn (by decide))
  have lz2 : (kvP t2).length < sizeLine := by rw [kvP_len]; exact Nat.lt_of_le_of_lt bo.l2 (Nat.lt_trans hn (by decide))
  have last : ∀ {k : Nat}, k < n + 1 → k < n ∨ k = n := fun {k} h => by omega
  by_cases c : Ins r U s
  · obtain ⟨⟨c1, c2⟩, c3, c4⟩ := id c
    by_cases rr : Rise r U n
    · have rr' := rs.mp rr
      refine ⟨putP t1 s, t2, some (.ref 4), ?_, ?_⟩
      · have pw : putW (kvP t1) [.inl s.1, .inl s.2] (.bl true) = kvP (putP t1 s) := putW_kvP t1 s
        rw [← pw]
        unfold b_law_L1 e7
        generalize kvP t1 = kv at *
        generalize kvP t2 = kv2 at *
        clear bo ok da db hs pw rr c h1 h2 h3 h4 h5 h6 h7 rs
        simp only [fnB, en, List.map_cons, List.map_nil, List.length_cons, List.length_nil, List.replicate_succ, List.replicate_zero, List.cons_append, List.nil_append, List.append_nil, List.getElem?_cons_zero, List.getElem?_cons_succ, List.set_cons_zero, List.set_cons_succ,  Nat.zero_add, Nat.reduceAdd, Nat.reduceSub, Nat.sub_self, Nat.reduceEqDiff,  eVar, eC, eOp, eUn, aNil, aCons, eTup, eLst, eCall, eIf, eAnd, eOr, eNot, tVal, tAndW, tOrW, tNotW, eChain, sNext, sBrk, sCnt, sNever, sSeq, sRet, sRetN, sDrop, sIf, sAsg, sPar, sPar3, gN, gsNil, gsCons, gTupW, Option.bind_some, Option.bind_none,  s0, s1, s2, s3, s4, s6, subW, ltW, leW, gtW, geW, iop0, iop, modW, fdivW, powW, addW, mulW, negW, isi_int_int, isi_int_bool, isi_bl_int, isi_bl_bool, isi_non_int, isi_str_int, isi_tup_int, isi_tup_tup, eq_int, ne_int, len_p, len_6, len_l1, decide_true, decide_false, Int.reduceEq, Int.reduceNeg, absW, minW, ix_p0, ix_p1, ix_r0, ix_r1, ix_r2, ix_r3, ix_r4, ix_r5, if_true, if_false, ite_true, ite_false, Bool.not_true, Bool.not_false, Bool.false_eq_true, reduceIte, ↓reduceIte, gSubW, setDW, mapO, keyOf, ne_eq, not_false_eq_true, and_self, and_false, false_and, true_and, and_true, *]
      · have pl := putP_len t1 s
        refine ⟨by have := bo.l1; omega, by have := bo.l2; omega, putP_nd bo.d1 s, fun z => ?_, fun z => ?_⟩
        · rw [putP_mem, bo.m1]
          constructor
          · rintro (rfl | ⟨q1, k, q2, q3, q4⟩)
            · exact ⟨c, n, by omega, hs, rr⟩
            · exact ⟨q1, k, by omega, q3, q4⟩
          · rintro ⟨q1, k, q2, q3, q4⟩
            rcases last q2 with z | rfl
            · exact .inr ⟨q1, k, z, q3, q4⟩
            · exact .inl (q3.symm.trans hs)
        · rw [bo.m2]
          constructor
          · rintro ⟨q1, k, q2, q3, q4⟩; exact ⟨q1, k, by omega, q3, q4⟩
          · rintro ⟨q1, k, q2, q3, q4⟩
            rcases last q2 with z | rfl
            · exact ⟨q1, k, z, q3, q4⟩
            · exact absurd rr q4
    · have rr' : ¬ 0 < X * Y := fun z => rr (rs.mpr z)
      refine ⟨t1, putP t2 s, some (.ref 5), ?_, ?_⟩
      · have pw : putW (kvP t2) [.inl s.1, .inl s.2] (.bl true) = kvP (putP t2 s) := putW_kvP t2 s
        rw [← pw]
        unfold b_law_L1 e7
        generalize kvP t1 = kv at *
        generalize kvP t2 = kv2 at *
        clear bo ok da db hs pw rr c h1 h2 h3 h4 h5 h6 h7 rs
        simp only [fnB, en, List.map_cons, List.map_nil, List.length_cons, List.length_nil, List.replicate_succ, List.replicate_zero, List.cons_append, List.nil_append, List.append_nil, List.getElem?_cons_zero, List.getElem?_cons_succ, List.set_cons_zero, List.set_cons_succ,  Nat.zero_add, Nat.reduceAdd, Nat.reduceSub, Nat.sub_self, Nat.reduceEqDiff,  eVar, eC, eOp, eUn, aNil, aCons, eTup, eLst, eCall, eIf, eAnd, eOr, eNot, tVal, tAndW, tOrW, tNotW, eChain, sNext, sBrk, sCnt, sNever, sSeq, sRet, sRetN, sDrop, sIf, sAsg, sPar, sPar3, gN, gsNil, gsCons, gTupW, Option.bind_some, Option.bind_none,  s0, s1, s2, s3, s4, s6, subW, ltW, leW, gtW, geW, iop0, iop, modW, fdivW, powW, addW, mulW, negW, isi_int_int, isi_int_bool, isi_bl_int, isi_bl_bool, isi_non_int, isi_str_int, isi_tup_int, isi_tup_tup, eq_int, ne_int, len_p, len_6, len_l1, decide_true, decide_false, Int.reduceEq, Int.reduceNeg, absW, minW, ix_p0, ix_p1, ix_r0, ix_r1, ix_r2, ix_r3, ix_r4, ix_r5, if_true, if_false, ite_true, ite_false, Bool.not_true, Bool.not_false, Bool.false_eq_true, reduceIte, ↓reduceIte, gSubW, setDW, mapO, keyOf, ne_eq, not_false_eq_true, and_self, and_false, false_and, true_and, and_true, *]
      · have pl := putP_len t2 s
        refine ⟨by have := bo.l1; omega, by have := bo.l2; omega, bo.d1, fun z => ?_, fun z => ?_⟩
        · rw [bo.m1]
          constructor
          · rintro ⟨q1, k, q2, q3, q4⟩; exact ⟨q1, k, by omega, q3, q4⟩
          · rintro ⟨q1, k, q2, q3, q4⟩
            rcases last q2 with z | rfl
            · exact ⟨q1, k, z, q3, q4⟩
            · exact absurd q4 rr
        · rw [putP_mem, bo.m2]
          constructor
          · rintro (rfl | ⟨q1, k, q2, q3, q4⟩)
            · exact ⟨c, n, by omega, hs, rr⟩
            · exact ⟨q1, k, by omega, q3, q4⟩
          · rintro ⟨q1, k, q2, q3, q4⟩
            rcases last q2 with z | rfl
            · exact .inr ⟨q1, k, z, q3, q4⟩
            · exact .inl (q3.symm.trans hs)
  · refine ⟨t1, t2, e19, ?_, ?_⟩
    · unfold b_law_L1 e7
      generalize B ++ [O.dT (kvP t1), O.dT (kvP t2)] = S' at *
      unfold Ins at c
      clear bo ok da db hs h1 h2 h3 h4 h5 h6 h7 rs g4 g5 s4 s5 lz1 lz2
      by_cases c1 : 0 < s.1
      · by_cases c2 : s.1 < r.w * U
        · by_cases c3 : 0 < s.2
          · have c4 : ¬ s.2 < r.h * U := fun z => c ⟨⟨c1, c2⟩, c3, z⟩
            clear c
            simp only [fnB, en, List.map_cons, List.map_nil, List.length_cons, List.length_nil, List.replicate_succ, List.replicate_zero, List.cons_append, List.nil_append, List.append_nil, List.getElem?_cons_zero, List.getElem?_cons_succ, List.set_cons_zero, List.set_cons_succ,  Nat.zero_add, Nat.reduceAdd, Nat.reduceSub, Nat.sub_self, Nat.reduceEqDiff,  eVar, eC, eOp, eUn, aNil, aCons, eTup, eLst, eCall, eIf, eAnd, eOr, eNot, tVal, tAndW, tOrW, tNotW, eChain, sNext, sBrk, sCnt, sNever, sSeq, sRet, sRetN, sDrop, sIf, sAsg, sPar, sPar3, gN, gsNil, gsCons, gTupW, Option.bind_some, Option.bind_none,  s0, s1, s2, s3, s4, s6, subW, ltW, leW, gtW, geW, iop0, iop, modW, fdivW, powW, addW, mulW, negW, isi_int_int, isi_int_bool, isi_bl_int, isi_bl_bool, isi_non_int, isi_str_int, isi_tup_int, isi_tup_tup, eq_int, ne_int, len_p, len_6, len_l1, decide_true, decide_false, Int.reduceEq, Int.reduceNeg, absW, minW, ix_p0, ix_p1, ix_r0, ix_r1, ix_r2, ix_r3, ix_r4, ix_r5, if_true, if_false, ite_true, ite_false, Bool.not_true, Bool.not_false, Bool.false_eq_true, reduceIte, ↓reduceIte, gSubW, setDW, mapO, keyOf, ne_eq, not_false_eq_true, and_self, and_false, false_and, true_and, and_true, *]
          · clear c
            simp only [fnB, en, List.map_cons, List.map_nil, List.length_cons, List.length_nil, List.replicate_succ, List.replicate_zero, List.cons_append, List.nil_append, List.append_nil, List.getElem?_cons_zero, List.getElem?_cons_succ, List.set_cons_zero, List.set_cons_succ,  Nat.zero_add, Nat.reduceAdd, Nat.reduceSub, Nat.sub_self, Nat.reduceEqDiff,  eVar, eC, eOp, eUn, aNil, aCons, eTup, eLst, eCall, eIf, eAnd, eOr, eNot, tVal, tAndW, tOrW, tNotW, eChain, sNext, sBrk, sCnt, sNever, sSeq, sRet, sRetN, sDrop, sIf, sAsg, sPar, sPar3, gN, gsNil, gsCons, gTupW, Option.bind_some, Option.bind_none,  s0, s1, s2, s3, s4, s6, subW, ltW, leW, gtW, geW, iop0, iop, modW, fdivW, powW, addW, mulW, negW, isi_int_int, isi_int_bool, isi_bl_int, isi_bl_bool, isi_non_int, isi_str_int, isi_tup_int, isi_tup_tup, eq_int, ne_int, len_p, len_6, len_l1, decide_true, decide_false, Int.reduceEq, Int.reduceNeg, absW, minW, ix_p0, ix_p1, ix_r0, ix_r1, ix_r2, ix_r3, ix_r4, ix_r5, if_true, if_false, ite_true, ite_false, Bool.not_true, Bool.not_false, Bool.false_eq_true, reduceIte, ↓reduceIte, gSubW, setDW, mapO, keyOf, ne_eq, not_false_eq_true, and_self, and_false, false_and, true_and, and_true, *]
        · clear c
          simp only [fnB, en, List.map_cons, List.map_nil, List.length_cons, List.length_nil, List.replicate_succ, List.replicate_zero, List.cons_append, List.nil_append, List.append_nil, List.getElem?_cons_zero, List.getElem?_cons_succ, List.set_cons_zero, List.set_cons_succ,  Nat.zero_add, Nat.reduceAdd, Nat.reduceSub, Nat.sub_self, Nat.reduceEqDiff,  eVar, eC, eOp, eUn, aNil, aCons, eTup, eLst, eCall, eIf, eAnd, eOr, eNot, tVal, tAndW, tOrW, tNotW, eChain, sNext, sBrk, sCnt, sNever, sSeq, sRet, sRetN, sDrop, sIf, sAsg, sPar, sPar3, gN, gsNil, gsCons, gTupW, Option.bind_some, Option.bind_none,  s0, s1, s2, s3, s4, s6, subW, ltW, leW, gtW, geW, iop0, iop, modW, fdivW, powW, addW, mulW, negW, isi_int_int, isi_int_bool, isi_bl_int, isi_bl_bool, isi_non_int, isi_str_int, isi_tup_int, isi_tup_tup, eq_int, ne_int, len_p, len_6, len_l1, decide_true, decide_false, Int.reduceEq, Int.reduceNeg, absW, minW, ix_p0, ix_p1, ix_r0, ix_r1, ix_r2, ix_r3, ix_r4, ix_r5, if_true, if_false, ite_true, ite_false, Bool.not_true, Bool.not_false, Bool.false_eq_true, reduceIte, ↓reduceIte, gSubW, setDW, mapO, keyOf, ne_eq, not_false_eq_true, and_self, and_false, false_and, true_and, and_true, *]
      · clear c
        simp only [fnB, en, List.map_cons, List.map_nil, List.length_cons, List.length_nil, List.replicate_succ, List.replicate_zero, List.cons_append, List.nil_append, List.append_nil, List.getElem?_cons_zero, List.getElem?_cons_succ, List.set_cons_zero, List.set_cons_succ,  Nat.zero_add, Nat.reduceAdd, Nat.reduceSub, Nat.sub_self, Nat.reduceEqDiff,  eVar, eC, eOp, eUn, aNil, aCons, eTup, eLst, eCall, eIf, eAnd, eOr, eNot, tVal, tAndW, tOrW, tNotW, eChain, sNext, sBrk, sCnt, sNever, sSeq, sRet, sRetN, sDrop, sIf, sAsg, sPar, sPar3, gN, gsNil, gsCons, gTupW, Option.bind_some, Option.bind_none,  s0, s1, s2, s3, s4, s6, subW, ltW, leW, gtW, geW, iop0, iop, modW, fdivW, powW, addW, mulW, negW, isi_int_int, isi_int_bool, isi_bl_int, isi_bl_bool, isi_non_int, isi_str_int, isi_tup_int, isi_tup_tup, eq_int, ne_int, len_p, len_6, len_l1, decide_true, decide_false, Int.reduceEq, Int.reduceNeg, absW, minW, ix_p0, ix_p1, ix_r0, ix_r1, ix_r2, ix_r3, ix_r4, ix_r5, if_true, if_false, ite_true, ite_false, Bool.not_true, Bool.not_false, Bool.false_eq_true, reduceIte, ↓reduceIte, gSubW, setDW, mapO, keyOf, ne_eq, not_false_eq_true, and_self, and_false, false_and, true_and, and_true, *]
    · have no : ∀ {z : Int × Int}, Ins r U z → ∀ {k : Nat}, k < n + 1 → (r.wk U).sp k = z → k < n := fun {z} q1 {k} q2 q3 => by
        rcases last q2 with q | rfl
        · exact q
        · rw [hs] at q3; subst q3; exact absurd q1 c
      refine ⟨by have := bo.l1; omega, by have := bo.l2; omega, bo.d1, fun z => ?_, fun z => ?_⟩
      · rw [bo.m1]
        constructor
        · rintro ⟨q1, k, q2, q3, q4⟩; exact ⟨q1, k, by omega, q3, q4⟩
        · rintro ⟨q1, k, q2, q3, q4⟩; exact ⟨q1, k, no q1 q2 q3, q3, q4⟩
      · rw [bo.m2]
        constructor
        · rintro ⟨q1, k, q2, q3, q4⟩; exact ⟨q1, k, by omega, q3, q4⟩
        · rintro ⟨q1, k, q2, q3, q4⟩; exact ⟨q1, k, no q1 q2 q3, q3, q4⟩
theorem kin_len (t1 t2 : List (Int × Int)) : (kinL (kvP t1) (kvP t2)).length = (t1.filter fun s => decide (s ∈ t2)).length := by
  have v : ∀ s : Int × Int, (valW (kvP t2) [.inl s.1, .inl s.2]).isSome = decide (s ∈ t2) := fun s => by
    unfold valW kvP
    induction t2 with
    | nil => rfl
    | cons t ts ih =>
      rw [List.map_cons]
      by_cases e : t = s
      · subst e
        rw [List.find?_cons_of_pos (by simp)]
        simp
      · have e' : ¬ ([Sum.inl t.1, Sum.inl t.2] : List Key) = [Sum.inl s.1, Sum.inl s.2] := fun z => by
          simp only [List.cons.injEq, Sum.inl.injEq, and_true] at z
          exact e (Prod.ext z.1 z.2)
        have e2 : ¬ s = t := fun z => e z.symm
        rw [List.find?_cons_of_neg (by simpa using e'), ih]
        simp [e2]
  unfold kinL
  rw [show (kvP t1).map (·.1) = t1.map fun s => [Sum.inl s.1, Sum.inl s.2] by unfold kvP; rw [List.map_map]; rfl, List.filter_map, List.length_map]
  congr 2
  funext s
  exact v s
theorem zipL_map {α : Type} (f g : α → W) : ∀ xs : List α, zipL (xs.map f) (xs.map g) = xs.map fun x => W.tup [f x, g x]
  | [] => rfl
  | x :: xs => by simp only [List.map_cons, zipL, zipL_map f g xs]
theorem k07_law (ns : List Int) : ∃ Y, fnB 20 b_law [.fz (ns.map W.int)] [] = some (.bl true, Y) := by
  obtain ⟨r, a', l', ok, bw, bh, ba, bb, a0, q⟩ := open_run ns 0 0 (by decide) 6 3 (by decide) (by decide) []
  have q' : G__law_run [.fz (ns.map W.int), .ref 0, .int 6, .int 3] [tn 0 0] = some (r.W, [tn a' l']) := q
  have PE := period_at ok
  have CR := crossings_at ok
  generalize hws : ns.map W.int = ws at *
  have st1 : ∀ t : Fs, sSeq (sAsg (eLst (aCons (eC (.int 0)) (aCons (eC (.int 0)) (aNil)))) (gN 1)) (sSeq (sAsg (eCall G__law_run (aCons (eVar 0) (aCons (eVar 1) (aCons (eC (.int 6)) (aCons (eC (.int 3)) (aNil)))))) (gN 2)) (sSeq (sAsg (eVar 2) (gTupW 6 (gsCons (gN 4) (gsCons (gN 5) (gsCons (gN 6) (gsCons (gN 7) (gsCons (gN 8) (gsCons (gN 9) (gsNil))))))))) (sSeq (sPar 10 11 (aCons (eCall G_crossings (aCons (eVar 2) (aNil))) (aCons (eCall G_period (aCons (eVar 2) (aNil))) (aNil)))) t))) (en 20 [.fz ws]) [] = t [some (.fz ws), some (.ref 0), some r.W, none, some (.int r.w), some (.int r.h), some (.int r.x), some (.int r.y), some (.int r.a), some (.int r.b), some (.int (r.ncr : Nat)), some (fr r.per), none, none, none, none, none, none, none, none] [tn a' l'] := by
    intro t
    refine' seq_trans (e' := [some (.fz ws), some (.ref 0), none, none, none, none, none, none, none, none, none, none, none, none, none, none, none, none, none, none]) (S' := [tn 0 0]) _ _
    · clear q q' PE CR
      simp only [fnB, en, List.map_cons, List.map_nil, List.length_cons, List.length_nil, List.replicate_succ, List.replicate_zero, List.cons_append, List.nil_append, List.append_nil, List.getElem?_cons_zero, List.getElem?_cons_succ, List.set_cons_zero, List.set_cons_succ,  Nat.zero_add, Nat.reduceAdd, Nat.reduceSub, Nat.sub_self, Nat.reduceEqDiff,  eVar, eC, eOp, eUn, aNil, aCons, eTup, eLst, eCall, eIf, eAnd, eOr, eNot, tVal, tAndW, tOrW, tNotW, eChain, sNext, sBrk, sCnt, sNever, sSeq, sRet, sRetN, sDrop, sIf, sAsg, sPar, sPar3, gN, gsNil, gsCons, gTupW, Option.bind_some, Option.bind_none,  s0, s1, s2, s3, s4, s6, subW, ltW, leW, gtW, geW, iop0, iop, modW, fdivW, powW, addW, mulW, negW, isi_int_int, isi_int_bool, isi_bl_int, isi_bl_bool, isi_non_int, isi_str_int, isi_tup_int, isi_tup_tup, eq_int, ne_int, len_p, len_6, len_l1, decide_true, decide_false, Int.reduceEq, Int.reduceNeg, absW, minW, ix_p0, ix_p1, ix_r0, ix_r1, ix_r2, ix_r3, ix_r4, ix_r5, if_true, if_false, ite_true, ite_false, Bool.not_true, Bool.not_false, Bool.false_eq_true, reduceIte, ↓reduceIte, eSlice, oSome, oNone, s6, ne_eq, not_false_eq_true, and_self, and_false, false_and, true_and, and_true, *]
    refine' seq_trans (e' := [some (.fz ws), some (.ref 0), some r.W, none, none, none, none, none, none, none, none, none, none, none, none, none, none, none, none, none]) (S' := [tn a' l']) _ _
    · clear q PE CR
      simp only [fnB, en, List.map_cons, List.map_nil, List.length_cons, List.length_nil, List.replicate_succ, List.replicate_zero, List.cons_append, List.nil_append, List.append_nil, List.getElem?_cons_zero, List.getElem?_cons_succ, List.set_cons_zero, List.set_cons_succ,  Nat.zero_add, Nat.reduceAdd, Nat.reduceSub, Nat.sub_self, Nat.reduceEqDiff,  eVar, eC, eOp, eUn, aNil, aCons, eTup, eLst, eCall, eIf, eAnd, eOr, eNot, tVal, tAndW, tOrW, tNotW, eChain, sNext, sBrk, sCnt, sNever, sSeq, sRet, sRetN, sDrop, sIf, sAsg, sPar, sPar3, gN, gsNil, gsCons, gTupW, Option.bind_some, Option.bind_none,  s0, s1, s2, s3, s4, s6, subW, ltW, leW, gtW, geW, iop0, iop, modW, fdivW, powW, addW, mulW, negW, isi_int_int, isi_int_bool, isi_bl_int, isi_bl_bool, isi_non_int, isi_str_int, isi_tup_int, isi_tup_tup, eq_int, ne_int, len_p, len_6, len_l1, decide_true, decide_false, Int.reduceEq, Int.reduceNeg, absW, minW, ix_p0, ix_p1, ix_r0, ix_r1, ix_r2, ix_r3, ix_r4, ix_r5, if_true, if_false, ite_true, ite_false, Bool.not_true, Bool.not_false, Bool.false_eq_true, reduceIte, ↓reduceIte, eSlice, oSome, oNone, s6, ne_eq, not_false_eq_true, and_self, and_false, false_and, true_and, and_true, *]
    refine' seq_trans (e' := [some (.fz ws), some (.ref 0), some r.W, none, some (.int r.w), some (.int r.h), some (.int r.x), some (.int r.y), some (.int r.a), some (.int r.b), none, none, none, none, none, none, none, none, none, none]) (S' := [tn a' l']) _ _
    · clear q q' PE CR
      simp only [fnB, en, List.map_cons, List.map_nil, List.length_cons, List.length_nil, List.replicate_succ, List.replicate_zero, List.cons_append, List.nil_append, List.append_nil, List.getElem?_cons_zero, List.getElem?_cons_succ, List.set_cons_zero, List.set_cons_succ,  Nat.zero_add, Nat.reduceAdd, Nat.reduceSub, Nat.sub_self, Nat.reduceEqDiff,  eVar, eC, eOp, eUn, aNil, aCons, eTup, eLst, eCall, eIf, eAnd, eOr, eNot, tVal, tAndW, tOrW, tNotW, eChain, sNext, sBrk, sCnt, sNever, sSeq, sRet, sRetN, sDrop, sIf, sAsg, sPar, sPar3, gN, gsNil, gsCons, gTupW, Option.bind_some, Option.bind_none,  s0, s1, s2, s3, s4, s6, subW, ltW, leW, gtW, geW, iop0, iop, modW, fdivW, powW, addW, mulW, negW, isi_int_int, isi_int_bool, isi_bl_int, isi_bl_bool, isi_non_int, isi_str_int, isi_tup_int, isi_tup_tup, eq_int, ne_int, len_p, len_6, len_l1, decide_true, decide_false, Int.reduceEq, Int.reduceNeg, absW, minW, ix_p0, ix_p1, ix_r0, ix_r1, ix_r2, ix_r3, ix_r4, ix_r5, if_true, if_false, ite_true, ite_false, Bool.not_true, Bool.not_false, Bool.false_eq_true, reduceIte, ↓reduceIte, eSlice, oSome, oNone, s6, ne_eq, not_false_eq_true, and_self, and_false, false_and, true_and, and_true, *]
    refine' seq_trans (e' := [some (.fz ws), some (.ref 0), some r.W, none, some (.int r.w), some (.int r.h), some (.int r.x), some (.int r.y), some (.int r.a), some (.int r.b), some (.int (r.ncr : Nat)), some (fr r.per), none, none, none, none, none, none, none, none]) (S' := [tn a' l']) _ rfl
    simp only [sPar, eCall, aCons, aNil, eVar, List.getElem?_cons_zero, List.getElem?_cons_succ, Option.bind_some, CR, PE, List.set_cons_zero, List.set_cons_succ]
  by_cases hz : r.a = 0 ∨ r.b = 0
  · have n0 : r.ncr = 0 := by unfold RunD.ncr; rw [if_pos hz]
    refine ⟨[tn a' l'], fnB_ret ?_⟩
    unfold b_law
    rw [st1]
    refine ret_seq ?_
    rw [n0]
    clear st1 q q' PE CR n0
    by_cases ha : r.a = 0
    · clear hz
      simp only [fnB, en, List.map_cons, List.map_nil, List.length_cons, List.length_nil, List.replicate_succ, List.replicate_zero, List.cons_append, List.nil_append, List.append_nil, List.getElem?_cons_zero, List.getElem?_cons_succ, List.set_cons_zero, List.set_cons_succ,  Nat.zero_add, Nat.reduceAdd, Nat.reduceSub, Nat.sub_self, Nat.reduceEqDiff,  eVar, eC, eOp, eUn, aNil, aCons, eTup, eLst, eCall, eIf, eAnd, eOr, eNot, tVal, tAndW, tOrW, tNotW, eChain, sNext, sBrk, sCnt, sNever, sSeq, sRet, sRetN, sDrop, sIf, sAsg, sPar, sPar3, gN, gsNil, gsCons, gTupW, Option.bind_some, Option.bind_none,  s0, s1, s2, s3, s4, s6, subW, ltW, leW, gtW, geW, iop0, iop, modW, fdivW, powW, addW, mulW, negW, isi_int_int, isi_int_bool, isi_bl_int, isi_bl_bool, isi_non_int, isi_str_int, isi_tup_int, isi_tup_tup, eq_int, ne_int, len_p, len_6, len_l1, decide_true, decide_false, Int.reduceEq, Int.reduceNeg, absW, minW, ix_p0, ix_p1, ix_r0, ix_r1, ix_r2, ix_r3, ix_r4, ix_r5, if_true, if_false, ite_true, ite_false, Bool.not_true, Bool.not_false, Bool.false_eq_true, reduceIte, ↓reduceIte, eSlice, oSome, oNone, s6, ne_eq, not_false_eq_true, and_self, and_false, false_and, true_and, and_true, *]
      rfl
    · have hb : r.b = 0 := hz.resolve_left ha
      clear hz
      simp only [fnB, en, List.map_cons, List.map_nil, List.length_cons, List.length_nil, List.replicate_succ, List.replicate_zero, List.cons_append, List.nil_append, List.append_nil, List.getElem?_cons_zero, List.getElem?_cons_succ, List.set_cons_zero, List.set_cons_succ,  Nat.zero_add, Nat.reduceAdd, Nat.reduceSub, Nat.sub_self, Nat.reduceEqDiff,  eVar, eC, eOp, eUn, aNil, aCons, eTup, eLst, eCall, eIf, eAnd, eOr, eNot, tVal, tAndW, tOrW, tNotW, eChain, sNext, sBrk, sCnt, sNever, sSeq, sRet, sRetN, sDrop, sIf, sAsg, sPar, sPar3, gN, gsNil, gsCons, gTupW, Option.bind_some, Option.bind_none,  s0, s1, s2, s3, s4, s6, subW, ltW, leW, gtW, geW, iop0, iop, modW, fdivW, powW, addW, mulW, negW, isi_int_int, isi_int_bool, isi_bl_int, isi_bl_bool, isi_non_int, isi_str_int, isi_tup_int, isi_tup_tup, eq_int, ne_int, len_p, len_6, len_l1, decide_true, decide_false, Int.reduceEq, Int.reduceNeg, absW, minW, ix_p0, ix_p1, ix_r0, ix_r1, ix_r2, ix_r3, ix_r4, ix_r5, if_true, if_false, ite_true, ite_false, Bool.not_true, Bool.not_false, Bool.false_eq_true, reduceIte, ↓reduceIte, eSlice, oSome, oNone, s6, ne_eq, not_false_eq_true, and_self, and_false, false_and, true_and, and_true, *]
      rfl
  · have ha : ¬ r.a = 0 := fun z => hz (.inl z)
    have hb : ¬ r.b = 0 := fun z => hz (.inr z)
    have ab0 : r.a * r.b ≠ 0 := fun z => by rcases Int.mul_eq_zero.mp z with z | z; exact ha z; exact hb z
    have abb : (r.a * r.b).natAbs ≤ 3 * 3 := by rw [Int.natAbs_mul]; exact Nat.mul_le_mul ba bb
    generalize hU : (((r.a * r.b).natAbs : Nat) : Int) = U at *
    have u : UOk r U := ⟨by omega, fun _ => by rw [← hU]; exact Int.dvd_natAbs.mpr (Int.dvd_mul_right ..), fun _ => by rw [← hU]; exact Int.dvd_natAbs.mpr (Int.dvd_mul_left ..)⟩
    obtain ⟨T, P, R⟩ := runT ok u
    obtain ⟨A, B, sx, sy, C⟩ := cr_of ok u ha hb
    have Pb := R.Pb
    have P0 := R.rd.pos
    have fd := R.fd
    obtain ⟨p1, p2, p3, p4⟩ := per_small ok
    have qW := walk_in ok u P (by omega) [tn a' l']
    have ew : (r.wk U).ways P = (List.range (P + 1)).map fun k => W.tup [.int ((r.wk U).dx k), .int ((r.wk U).dy k)] := rfl
    rw [ew, List.map_map] at qW
    generalize (r.wk U).walls P = O3 at *
    obtain ⟨eL, SL, l1, l2⟩ := for_inv (g := gTupW 2 (gsCons (gN 17) (gsCons (gN 18) (gsNil)))) (b := b_law_L1) (chk := fun S => S[1]? = some (.lst ((List.range (P + 1)).map (fr ∘ (r.wk U).sp))) ∧ S[2]? = some (.lst ((List.range (P + 1)).map fun k => W.tup [.int ((r.wk U).dx k), .int ((r.wk U).dy k)]))) (fun k e X => ∃ e17 e18 e19 t1 t2, e = e7 ws r U e17 e18 e19 ∧ X = [tn a' l', O.lst ((List.range (P + 1)).map (fr ∘ (r.wk U).sp)), .lst ((List.range (P + 1)).map fun k => W.tup [.int ((r.wk U).dx k), .int ((r.wk U).dy k)]), .lst O3] ++ [O.dT (kvP t1), O.dT (kvP t2)] ∧ Bo r U k t1 t2) (fun k e X h => by
      obtain ⟨_, _, _, t1, t2, _, rfl, _⟩ := h
      exact ⟨rfl, rfl⟩) ((List.range (P + 1)).map fun k => W.tup [fr ((r.wk U).sp k), .tup [.int ((r.wk U).dx k), .int ((r.wk U).dy k)]]) 0 (e7 ws r U none none none) ([tn a' l', O.lst ((List.range (P + 1)).map (fr ∘ (r.wk U).sp)), .lst ((List.range (P + 1)).map fun k => W.tup [.int ((r.wk U).dx k), .int ((r.wk U).dy k)]), .lst O3] ++ [O.dT (kvP []), O.dT (kvP [])]) (fun j x e X hx hI => by
      obtain ⟨e17, e18, e19, t1, t2, rfl, rfl, bo⟩ := hI
      have hj : j < P + 1 := by
        have := (List.getElem?_eq_some_iff.mp hx).1
        simpa using this
      rw [List.getElem?_map, List.getElem?_range hj] at hx
      cases hx
      rw [Nat.zero_add] at bo ⊢
      obtain ⟨t1', t2', e19', q1, q2⟩ := k07_L1 ws r ok U u.pos [tn a' l', O.lst ((List.range (P + 1)).map (fr ∘ (r.wk U).sp)), .lst ((List.range (P + 1)).map fun k => W.tup [.int ((r.wk U).dx k), .int ((r.wk U).dy k)]), .lst O3] rfl j (by omega) t1 t2 bo e19
      exact ⟨_, _, _, _, rfl, q1, _, _, e19', t1', t2', rfl, rfl, q2⟩) ⟨none, none, none, [], [], rfl, rfl, Nat.le_refl _, Nat.le_refl _, .nil, by simp, by simp⟩
    obtain ⟨f17, f18, f19, t1, t2, rfl, rfl, bo⟩ := l2
    rw [List.length_map, List.length_range, Nat.zero_add] at bo
    have cnt : r.ncr = (t1.filter fun s => decide (s ∈ t2)).length := by
      refine ncr_both C R (bo.d1.filter _) fun s => ?_
      rw [List.mem_filter, decide_eq_true_eq, bo.m1, bo.m2]
      constructor
      · rintro ⟨⟨q1, k, _, q2, q3⟩, _, k', _, q4, q5⟩
        exact ⟨q1, ⟨k, q2, q3⟩, k', q4, q5⟩
      · rintro ⟨q1, ⟨k, q2, q3⟩, k', q4, q5⟩
        obtain ⟨z1, z2, _⟩ := rise_mod C R k
        obtain ⟨z3, z4, _⟩ := rise_mod C R k'
        exact ⟨⟨q1, k % P, by have := Nat.mod_lt k P0; omega, z2.trans q2, z1.mpr q3⟩, q1, k' % P, by have := Nat.mod_lt k' P0; omega, z4.trans q4, fun z => q5 (z3.mp z)⟩
    have om1 : okMul r.a r.b := .inl (by omega)
    have om : okMul r.per.1 U := .inl (by omega)
    have od : okDiv r.per.2 := okDiv_of (by omega) (big_lt (by omega))
    have l3 : (3 : Nat) ≤ sizeLine := s3
    have l2' : (2 : Nat) ≤ sizeLine := s2
    have hl1 : (kvP t1).length < sizeLine := by rw [kvP_len]; exact Nat.lt_of_le_of_lt bo.l1 (Nat.lt_trans (show P + 1 < 1000000 by omega) (by decide))
    refine ⟨_, fnB_ret (S' := [tn a' l', O.lst ((List.range (P + 1)).map (fr ∘ (r.wk U).sp)), .lst ((List.range (P + 1)).map fun k => W.tup [.int ((r.wk U).dx k), .int ((r.wk U).dy k)]), .lst O3] ++ [O.dT (kvP t1), O.dT (kvP t2)] ++ [.lst ((kinL (kvP t1) (kvP t2)).map fun k => .tup (k.map keyW))]) ?_⟩
    unfold b_law
    rw [st1]
    refine' seq_trans (e' := [some (.fz ws), some (.ref 0), some r.W, none, some (.int r.w), some (.int r.h), some (.int r.x), some (.int r.y), some (.int r.a), some (.int r.b), some (.int (r.ncr : Nat)), some (fr r.per), none, none, none, none, none, none, none, none]) (S' := [tn a' l']) _ _
    · clear st1 q q' PE CR hz l1 bo cnt qW ew
      simp only [fnB, en, List.map_cons, List.map_nil, List.length_cons, List.length_nil, List.replicate_succ, List.replicate_zero, List.cons_append, List.nil_append, List.append_nil, List.getElem?_cons_zero, List.getElem?_cons_succ, List.set_cons_zero, List.set_cons_succ,  Nat.zero_add, Nat.reduceAdd, Nat.reduceSub, Nat.sub_self, Nat.reduceEqDiff,  eVar, eC, eOp, eUn, aNil, aCons, eTup, eLst, eCall, eIf, eAnd, eOr, eNot, tVal, tAndW, tOrW, tNotW, eChain, sNext, sBrk, sCnt, sNever, sSeq, sRet, sRetN, sDrop, sIf, sAsg, sPar, sPar3, gN, gsNil, gsCons, gTupW, Option.bind_some, Option.bind_none,  s0, s1, s2, s3, s4, s6, subW, ltW, leW, gtW, geW, iop0, iop, modW, fdivW, powW, addW, mulW, negW, isi_int_int, isi_int_bool, isi_bl_int, isi_bl_bool, isi_non_int, isi_str_int, isi_tup_int, isi_tup_tup, eq_int, ne_int, len_p, len_6, len_l1, decide_true, decide_false, Int.reduceEq, Int.reduceNeg, absW, minW, ix_p0, ix_p1, ix_r0, ix_r1, ix_r2, ix_r3, ix_r4, ix_r5, if_true, if_false, ite_true, ite_false, Bool.not_true, Bool.not_false, Bool.false_eq_true, reduceIte, ↓reduceIte, eSlice, oSome, oNone, s6, ne_eq, not_false_eq_true, and_self, and_false, false_and, true_and, and_true, *]
    refine' seq_trans (e' := [some (.fz ws), some (.ref 0), some r.W, some (.int U), some (.int r.w), some (.int r.h), some (.int r.x), some (.int r.y), some (.int r.a), some (.int r.b), some (.int (r.ncr : Nat)), some (fr r.per), none, none, none, none, none, none, none, none]) (S' := [tn a' l']) _ _
    · simp only [sAsg, eCall, eOp, aCons, aNil, eVar, List.getElem?_cons_zero, List.getElem?_cons_succ, Option.bind_some, mulW, om1, if_true, absW, abs_if, hU, gN, List.set_cons_zero, List.set_cons_succ]
    refine' seq_trans (e' := [some (.fz ws), some (.ref 0), some r.W, some (.int U), some (.int r.w), some (.int r.h), some (.int r.x), some (.int r.y), some (.int r.a), some (.int r.b), some (.int (r.ncr : Nat)), some (fr r.per), some (.ref 1), some (.ref 2), some (.ref 3), none, none, none, none, none]) (S' := [tn a' l', O.lst ((List.range (P + 1)).map (fr ∘ (r.wk U).sp)), .lst ((List.range (P + 1)).map fun k => W.tup [.int ((r.wk U).dx k), .int ((r.wk U).dy k)]), .lst O3]) _ _
    · have qW' : G__law_walk [r.W, .int U, .int (P : Nat)] [tn a' l'] = some (.tup [.ref 1, .ref 2, .ref 3], [tn a' l', O.lst ((List.range (P + 1)).map (fr ∘ (r.wk U).sp)), .lst ((List.range (P + 1)).map fun k => W.tup [.int ((r.wk U).dx k), .int ((r.wk U).dy k)]), .lst O3]) := qW
      generalize (List.range (P + 1)).map (fr ∘ (r.wk U).sp) = L1 at *
      generalize ((List.range (P + 1)).map fun k => W.tup [.int ((r.wk U).dx k), .int ((r.wk U).dy k)]) = L2 at *
      clear st1 q q' PE CR hz l1 bo cnt qW ew
      simp only [fnB, en, List.map_cons, List.map_nil, List.length_cons, List.length_nil, List.replicate_succ, List.replicate_zero, List.cons_append, List.nil_append, List.append_nil, List.getElem?_cons_zero, List.getElem?_cons_succ, List.set_cons_zero, List.set_cons_succ,  Nat.zero_add, Nat.reduceAdd, Nat.reduceSub, Nat.sub_self, Nat.reduceEqDiff,  eVar, eC, eOp, eUn, aNil, aCons, eTup, eLst, eCall, eIf, eAnd, eOr, eNot, tVal, tAndW, tOrW, tNotW, eChain, sNext, sBrk, sCnt, sNever, sSeq, sRet, sRetN, sDrop, sIf, sAsg, sPar, sPar3, gN, gsNil, gsCons, gTupW, Option.bind_some, Option.bind_none,  s0, s1, s2, s3, s4, s6, subW, ltW, leW, gtW, geW, iop0, iop, modW, fdivW, powW, addW, mulW, negW, isi_int_int, isi_int_bool, isi_bl_int, isi_bl_bool, isi_non_int, isi_str_int, isi_tup_int, isi_tup_tup, eq_int, ne_int, len_p, len_6, len_l1, decide_true, decide_false, Int.reduceEq, Int.reduceNeg, absW, minW, ix_p0, ix_p1, ix_r0, ix_r1, ix_r2, ix_r3, ix_r4, ix_r5, if_true, if_false, ite_true, ite_false, Bool.not_true, Bool.not_false, Bool.false_eq_true, reduceIte, ↓reduceIte, eSlice, oSome, oNone, s6, ne_eq, not_false_eq_true, and_self, and_false, false_and, true_and, and_true, *]
    refine' seq_trans (e' := e7 ws r U none none none) (S' := [tn a' l', O.lst ((List.range (P + 1)).map (fr ∘ (r.wk U).sp)), .lst ((List.range (P + 1)).map fun k => W.tup [.int ((r.wk U).dx k), .int ((r.wk U).dy k)]), .lst O3] ++ [O.dT (kvP []), O.dT (kvP [])]) rfl _
    refine' seq_trans (e' := e7 ws r U f17 f18 f19) (S' := [tn a' l', O.lst ((List.range (P + 1)).map (fr ∘ (r.wk U).sp)), .lst ((List.range (P + 1)).map fun k => W.tup [.int ((r.wk U).dx k), .int ((r.wk U).dy k)]), .lst O3] ++ [O.dT (kvP t1), O.dT (kvP t2)]) _ _
    · have ie : iZipW (aCons (eVar 12) (aCons (eVar 13) (aNil))) (e7 ws r U none none none) ([tn a' l', O.lst ((List.range (P + 1)).map (fr ∘ (r.wk U).sp)), .lst ((List.range (P + 1)).map fun k => W.tup [.int ((r.wk U).dx k), .int ((r.wk U).dy k)]), .lst O3] ++ [O.dT (kvP []), O.dT (kvP [])]) = some (⟨zipL ((List.range (P + 1)).map (fr ∘ (r.wk U).sp)) ((List.range (P + 1)).map fun k => W.tup [.int ((r.wk U).dx k), .int ((r.wk U).dy k)]), fun S => S[1]? = some (.lst ((List.range (P + 1)).map (fr ∘ (r.wk U).sp))) ∧ S[2]? = some (.lst ((List.range (P + 1)).map fun k => W.tup [.int ((r.wk U).dx k), .int ((r.wk U).dy k)]))⟩, [tn a' l', O.lst ((List.range (P + 1)).map (fr ∘ (r.wk U).sp)), .lst ((List.range (P + 1)).map fun k => W.tup [.int ((r.wk U).dx k), .int ((r.wk U).dy k)]), .lst O3] ++ [O.dT (kvP []), O.dT (kvP [])]) := rfl
      rw [zipL_map] at ie
      simp only [sFor, ie, Option.bind_some]
      exact l1
    have gA : ([tn a' l', O.lst ((List.range (P + 1)).map (fr ∘ (r.wk U).sp)), .lst ((List.range (P + 1)).map fun k => W.tup [.int ((r.wk U).dx k), .int ((r.wk U).dy k)]), .lst O3] ++ [O.dT (kvP t1), O.dT (kvP t2)])[4]? = some (O.dT (kvP t1)) := rfl
    have gB : ([tn a' l', O.lst ((List.range (P + 1)).map (fr ∘ (r.wk U).sp)), .lst ((List.range (P + 1)).map fun k => W.tup [.int ((r.wk U).dx k), .int ((r.wk U).dy k)]), .lst O3] ++ [O.dT (kvP t1), O.dT (kvP t2)])[5]? = some (O.dT (kvP t2)) := rfl
    generalize hSS : [tn a' l', O.lst ((List.range (P + 1)).map (fr ∘ (r.wk U).sp)), .lst ((List.range (P + 1)).map fun k => W.tup [.int ((r.wk U).dx k), .int ((r.wk U).dy k)]), .lst O3] ++ [O.dT (kvP t1), O.dT (kvP t2)] = SS at *
    have ek : eKin 17 15 16 (e7 ws r U f17 f18 f19) SS = some (.ref SS.length, SS ++ [.lst ((kinL (kvP t1) (kvP t2)).map fun k => .tup (k.map keyW))]) := by
      simp only [eKin, e7, List.getElem?_cons_zero, List.getElem?_cons_succ, gA, gB, hl1, if_true, List.length_cons, List.length_nil]
      rfl
    have ln : lenW [.ref SS.length] (SS ++ [.lst ((kinL (kvP t1) (kvP t2)).map fun k => W.tup (k.map keyW))]) = some (.int (r.ncr : Nat), SS ++ [.lst ((kinL (kvP t1) (kvP t2)).map fun k => W.tup (k.map keyW))]) := by
      simp only [lenW, seqOf, get_last, Option.bind_some, List.length_map, kin_len, cnt]
    have e10 : ∀ S, eVar 10 (e7 ws r U f17 f18 f19) S = some (.int (r.ncr : Nat), S) := fun S => rfl
    simp only [sRet, eOp, eCall, aCons, aNil, e10, ek, Option.bind_some, ln, eq_int, decide_true]
end Bp

/-! ### the law's end -/
namespace Bp
open PySem L2
def G_law : Fn
  | [.fz ws], [] => match intsOf ws with
    | some _ => some (.bl true, [])
    | none => none
  | _, _ => none
theorem t_law : Tells 20 b_law G_law := by
  intro ws S r h
  unfold G_law at h
  split at h
  · split at h
    · rename_i ns hn
      cases h
      rw [intsOf_eq hn]
      obtain ⟨Y, e⟩ := k07_law ns
      exact ⟨_, e, .val (.bl true) Y rfl⟩
    · cases h
  · cases h
theorem l_law : ∀ ws S r, G_law ws S = some r → ws.length = 1 := by
  intro ws S r h
  unfold G_law at h
  split at h <;> first | rfl | cases h
/-- the law's own promise at the script -/
theorem law_sp {K : PySem.W.Frag} {H : Hp} {a : Addr} {ns : List Int} {E : XK} (hO : Only H) (hS : SqL K H a (ns.map V.int)) : spF K G_law [.ref a] H (fun v _ => v = .bl true) E := by
  have hz : Fz K H a (ns.map V.int) := by
    rcases hS with (h | ⟨o, h⟩) | h
    · rcases hO a with z | ⟨o, xs, z⟩
      · rw [h] at z; cases z
      · rw [h] at z; cases z
    · exact .inl ⟨o, h⟩
    · exact .inr h
  refine ⟨[], [.fz (ns.map W.int)], [], .bl true, [], ⟨rfl, fun i j a h => by simp at h, fun i a o h => by simp at h⟩, .cons (.fz hz (Reps.ints ns)) .nil, ?_, fun r' v H' _ _ _ rep => by cases rep; rfl⟩
  simp only [G_law, intsOf_map]

/-! ### the walks -/
def top (i : Nat) : Stmt := PySem.Challenge.pw_bouncepaths_k07_whole_crossings.main.body.getD i (.Pass ⟨0, 0, 0, 0⟩)
structure Txt (mg : Str → Option Value) : Prop where
  f_int : mg "int" = none
  f_isinstance : mg "isinstance" = none
  f_bool : mg "bool" = none
  f_tuple : mg "tuple" = none
  f_len : mg "len" = none
  f_abs : mg "abs" = none
  f_min : mg "min" = none
  f_zip : mg "zip" = none
  f_all : mg "all" = none
  f_range : mg "range" = none
  c_SIDE : ∃ t, mg "SIDE" = some (.int 12 t)
  c_SPEED : ∃ t, mg "SPEED" = some (.int 6 t)
section
variable {P : Program} {w : World} {K : PySem.W.Frag} {mg : Str → Option Value} {base : Heap}
abbrev s_is_count : Stmt := top 6
theorem sc_is_count : FnScope ["value", "least", "most"] ["value", "least", "most"] (defScope s_is_count) := ⟨rfl, rfl, rfl, by decide +kernel, rfl, by decide +kernel, by decide +kernel⟩
theorem ok_is_count (T : Txt mg)  {f : Addr} {fd : FuncData} (F : FnP K "is_count" s_is_count f fd) (hm : mg "is_count" = some (.ref f)) : Cal P w K mg base 1 "is_count" ["value", "least", "most"] G_is_count := by
  refine ⟨f, fd, fn_ok F sc_is_count t_is_count l_is_count (fun cdv A outer s H E hr => ?_), hm, F.kp, F.bindsN fun _ _ _ _ _ _ us hl => match us, hl with | [_, _, _], _ => rfl⟩
  have nd := sc_is_count.nd
  exact ws_one (ws_ret (w_and (w_callB call_isi r_isi (by rfl) T.f_isinstance (by decide +kernel) (wa_cons (w_var 0) (wa_cons (w_ty rfl T.f_int (by decide +kernel)) (wa_nil)))) (w_and (w_not (w_callB call_isi r_isi (by rfl) T.f_isinstance (by decide +kernel) (wa_cons (w_var 0) (wa_cons (w_ty rfl T.f_bool (by decide +kernel)) (wa_nil))))) (w_one (w_chain op_le r_le op_le r_le (w_var 1) (w_var 0) (w_var 2))))))
abbrev s_is_run : Stmt := top 7
theorem sc_is_run : FnScope ["value", "w", "h", "x", "y", "a", "b"] ["value"] (defScope s_is_run) := ⟨rfl, rfl, rfl, by decide +kernel, rfl, by decide +kernel, by decide +kernel⟩
theorem ok_is_run (T : Txt mg) (C_is_count : Cal P w K mg base 1 "is_count" ["value", "least", "most"] G_is_count) {f : Addr} {fd : FuncData} (F : FnP K "is_run" s_is_run f fd) (hm : mg "is_run" = some (.ref f)) : Cal P w K mg base 2 "is_run" ["value"] G_is_run := by
  refine ⟨f, fd, fn_ok F sc_is_run t_is_run l_is_run (fun cdv A outer s H E hr => ?_), hm, F.kp, F.bindsN fun _ _ _ _ _ _ us hl => match us, hl with | [_], _ => rfl⟩
  have nd := sc_is_run.nd
  exact ws_cons (ws_if (PW.pt (wt_or (wt_not (wt_val (w_callB call_isi r_isi (by rfl) T.f_isinstance (by decide +kernel) (wa_cons (w_var 0) (wa_cons (w_ty rfl T.f_tuple (by decide +kernel)) (wa_nil)))))) (wt_or1 (wt_cmp (op_neD hr.units) r_ne (w_callB call_len r_len (by rfl) T.f_len (by decide +kernel) (wa_cons (w_var 0) (wa_nil))) (w_int) (nomark _))))) (ws_one (ws_ret (w_bl))) (ws_nil)) (ws_cons (ws_asg (w_var 0) (wg_tup rfl (wgs_cons (wg_name (i := 1) nd) (wgs_cons (wg_name (i := 2) nd) (wgs_cons (wg_name (i := 3) nd) (wgs_cons (wg_name (i := 4) nd) (wgs_cons (wg_name (i := 5) nd) (wgs_cons (wg_name (i := 6) nd) (wgs_nil))))))))) (ws_cons (ws_if (PW.pt (wt_or (wt_not (wt_val (w_callC C_is_count (hr.mono (by decide)) rfl (wa_cons (w_var 1) (wa_cons (w_int) (wa_cons (w_gint rfl (T.c_SIDE).choose_spec) (wa_nil))))))) (wt_or (wt_not (wt_val (w_callC C_is_count (hr.mono (by decide)) rfl (wa_cons (w_var 2) (wa_cons (w_int) (wa_cons (w_gint rfl (T.c_SIDE).choose_spec) (wa_nil))))))) (wt_or (wt_not (wt_val (w_callC C_is_count (hr.mono (by decide)) rfl (wa_cons (w_var 3) (wa_cons (w_int) (wa_cons (w_var 1) (wa_nil))))))) (wt_or1 (wt_not (wt_val (w_callC C_is_count (hr.mono (by decide)) rfl (wa_cons (w_var 4) (wa_cons (w_int) (wa_cons (w_var 2) (wa_nil)))))))))))) (ws_one (ws_ret (w_bl))) (ws_nil)) (ws_one (ws_ret (w_and (w_callC C_is_count (hr.mono (by decide)) rfl (wa_cons (w_var 5) (wa_cons (w_un un_neg r_neg (w_gint rfl (T.c_SPEED).choose_spec)) (wa_cons (w_gint rfl (T.c_SPEED).choose_spec) (wa_nil))))) (w_and (w_callC C_is_count (hr.mono (by decide)) rfl (wa_cons (w_var 6) (wa_cons (w_un un_neg r_neg (w_gint rfl (T.c_SPEED).choose_spec)) (wa_cons (w_gint rfl (T.c_SPEED).choose_spec) (wa_nil))))) (w_one (w_cmp (op_neD hr.units) r_ne (w_tup (wa_cons (w_var 5) (wa_cons (w_var 6) (wa_nil)))) (w_tup (wa_cons (w_int) (wa_cons (w_int) (wa_nil)))) (nomark _)))))))))
abbrev s_need_run : Stmt := top 8
theorem sc_need_run : FnScope ["value"] ["value"] (defScope s_need_run) := ⟨rfl, rfl, rfl, by decide +kernel, rfl, by decide +kernel, by decide +kernel⟩
theorem ok_need_run (T : Txt mg) (C_is_run : Cal P w K mg base 2 "is_run" ["value"] G_is_run) {f : Addr} {fd : FuncData} (F : FnP K "need_run" s_need_run f fd) (hm : mg "need_run" = some (.ref f)) : Cal P w K mg base 3 "need_run" ["value"] G_need_run := by
  refine ⟨f, fd, fn_ok F sc_need_run t_need_run l_need_run (fun cdv A outer s H E hr => ?_), hm, F.kp, F.bindsN fun _ _ _ _ _ _ us hl => match us, hl with | [_], _ => rfl⟩
  have nd := sc_need_run.nd
  exact ws_one (ws_if (wt_not (wt_val (w_callC C_is_run (hr.mono (by decide)) rfl (wa_cons (w_var 0) (wa_nil))))) (ws_one (ws_never)) (ws_nil))
abbrev s_common_of : Stmt := top 10
theorem sc_common_of : FnScope ["one", "two"] ["one", "two"] (defScope s_common_of) := ⟨rfl, rfl, rfl, by decide +kernel, rfl, by decide +kernel, by decide +kernel⟩
theorem ok_common_of (T : Txt mg)  {f : Addr} {fd : FuncData} (F : FnP K "common_of" s_common_of f fd) (hm : mg "common_of" = some (.ref f)) : Cal P w K mg base 1 "common_of" ["one", "two"] G_common_of := by
  refine ⟨f, fd, fn_ok F sc_common_of t_common_of l_common_of (fun cdv A outer s H E hr => ?_), hm, F.kp, F.bindsN fun _ _ _ _ _ _ us hl => match us, hl with | [_, _], _ => rfl⟩
  have nd := sc_common_of.nd
  exact ws_cons (ws_par (i := 0) (j := 1) rfl nd (wa_cons (w_callB call_abs r_abs (by rfl) T.f_abs (by decide +kernel) (wa_cons (w_var 0) (wa_nil))) (wa_cons (w_callB call_abs r_abs (by rfl) T.f_abs (by decide +kernel) (wa_cons (w_var 1) (wa_nil))) (wa_nil)))) (ws_cons (ws_while PassesOwn.never (wt_cmp op_gt r_gt (w_var 1) (w_int) (nomark _)) (ws_one (ws_par (i := 0) (j := 1) rfl nd (wa_cons (w_var 1) (wa_cons (w_op op_modN r_mod (w_var 0) (w_var 1)) (wa_nil)))))) (ws_one (ws_ret (w_var 0))))
abbrev s_lowest : Stmt := top 11
theorem sc_lowest : FnScope ["numerator", "denominator", "common"] ["numerator", "denominator"] (defScope s_lowest) := ⟨rfl, rfl, rfl, by decide +kernel, rfl, by decide +kernel, by decide +kernel⟩
theorem ok_lowest (T : Txt mg) (C_common_of : Cal P w K mg base 1 "common_of" ["one", "two"] G_common_of) {f : Addr} {fd : FuncData} (F : FnP K "lowest" s_lowest f fd) (hm : mg "lowest" = some (.ref f)) : Cal P w K mg base 2 "lowest" ["numerator", "denominator"] G_lowest := by
  refine ⟨f, fd, fn_ok F sc_lowest t_lowest l_lowest (fun cdv A outer s H E hr => ?_), hm, F.kp, F.bindsN fun _ _ _ _ _ _ us hl => match us, hl with | [_, _], _ => rfl⟩
  have nd := sc_lowest.nd
  exact ws_cons (ws_set (i := 2) nd (w_callC C_common_of (hr.mono (by decide)) rfl (wa_cons (w_var 0) (wa_cons (w_var 1) (wa_nil))))) (ws_cons (ws_if (wt_cmp op_lt r_lt (w_var 1) (w_int) (nomark _)) (ws_one (ws_set (i := 2) nd (w_un un_neg r_neg (w_var 2)))) (ws_nil)) (ws_one (ws_ret (w_tup (wa_cons (w_op op_fdivX r_fdiv (w_var 0) (w_var 2)) (wa_cons (w_op op_fdivX r_fdiv (w_var 1) (w_var 2)) (wa_nil)))))))
abbrev s_plus : Stmt := top 12
theorem sc_plus : FnScope ["one", "two"] ["one", "two"] (defScope s_plus) := ⟨rfl, rfl, rfl, by decide +kernel, rfl, by decide +kernel, by decide +kernel⟩
theorem ok_plus (T : Txt mg) (C_lowest : Cal P w K mg base 2 "lowest" ["numerator", "denominator"] G_lowest) {f : Addr} {fd : FuncData} (F : FnP K "plus" s_plus f fd) (hm : mg "plus" = some (.ref f)) : Cal P w K mg base 3 "plus" ["one", "two"] G_plus := by
  refine ⟨f, fd, fn_ok F sc_plus t_plus l_plus (fun cdv A outer s H E hr => ?_), hm, F.kp, F.bindsN fun _ _ _ _ _ _ us hl => match us, hl with | [_, _], _ => rfl⟩
  have nd := sc_plus.nd
  exact ws_one (ws_ret (w_callC C_lowest (hr.mono (by decide)) rfl (wa_cons (w_op op_addA r_add (w_op op_mulA r_mul (w_ix ix_seq r_ix (w_var 0) (w_int)) (w_ix ix_seq r_ix (w_var 1) (w_int))) (w_op op_mulA r_mul (w_ix ix_seq r_ix (w_var 1) (w_int)) (w_ix ix_seq r_ix (w_var 0) (w_int)))) (wa_cons (w_op op_mulA r_mul (w_ix ix_seq r_ix (w_var 0) (w_int)) (w_ix ix_seq r_ix (w_var 1) (w_int))) (wa_nil)))))
abbrev s_is_less : Stmt := top 13
theorem sc_is_less : FnScope ["one", "two"] ["one", "two"] (defScope s_is_less) := ⟨rfl, rfl, rfl, by decide +kernel, rfl, by decide +kernel, by decide +kernel⟩
theorem ok_is_less (T : Txt mg)  {f : Addr} {fd : FuncData} (F : FnP K "is_less" s_is_less f fd) (hm : mg "is_less" = some (.ref f)) : Cal P w K mg base 1 "is_less" ["one", "two"] G_is_less := by
  refine ⟨f, fd, fn_ok F sc_is_less t_is_less l_is_less (fun cdv A outer s H E hr => ?_), hm, F.kp, F.bindsN fun _ _ _ _ _ _ us hl => match us, hl with | [_, _], _ => rfl⟩
  have nd := sc_is_less.nd
  exact ws_one (ws_ret (w_cmp op_lt r_lt (w_op op_mulA r_mul (w_ix ix_seq r_ix (w_var 0) (w_int)) (w_ix ix_seq r_ix (w_var 1) (w_int))) (w_op op_mulA r_mul (w_ix ix_seq r_ix (w_var 1) (w_int)) (w_ix ix_seq r_ix (w_var 0) (w_int))) (nomark _)))
abbrev s_least_multiple : Stmt := top 14
theorem sc_least_multiple : FnScope ["one", "two", "top"] ["one", "two"] (defScope s_least_multiple) := ⟨rfl, rfl, rfl, by decide +kernel, rfl, by decide +kernel, by decide +kernel⟩
theorem ok_least_multiple (T : Txt mg) (C_common_of : Cal P w K mg base 1 "common_of" ["one", "two"] G_common_of) (C_lowest : Cal P w K mg base 2 "lowest" ["numerator", "denominator"] G_lowest) {f : Addr} {fd : FuncData} (F : FnP K "least_multiple" s_least_multiple f fd) (hm : mg "least_multiple" = some (.ref f)) : Cal P w K mg base 3 "least_multiple" ["one", "two"] G_least_multiple := by
  refine ⟨f, fd, fn_ok F sc_least_multiple t_least_multiple l_least_multiple (fun cdv A outer s H E hr => ?_), hm, F.kp, F.bindsN fun _ _ _ _ _ _ us hl => match us, hl with | [_, _], _ => rfl⟩
  have nd := sc_least_multiple.nd
  exact ws_cons (ws_set (i := 2) nd (w_op op_fdivX r_fdiv (w_op op_mulA r_mul (w_ix ix_seq r_ix (w_var 0) (w_int)) (w_ix ix_seq r_ix (w_var 1) (w_int))) (w_callC C_common_of (hr.mono (by decide)) rfl (wa_cons (w_ix ix_seq r_ix (w_var 0) (w_int)) (wa_cons (w_ix ix_seq r_ix (w_var 1) (w_int)) (wa_nil)))))) (ws_one (ws_ret (w_callC C_lowest (hr.mono (by decide)) rfl (wa_cons (w_var 2) (wa_cons (w_callC C_common_of (hr.mono (by decide)) rfl (wa_cons (w_ix ix_seq r_ix (w_var 0) (w_int)) (wa_cons (w_ix ix_seq r_ix (w_var 1) (w_int)) (wa_nil)))) (wa_nil))))))
abbrev s_fold : Stmt := top 15
theorem sc_fold : FnScope ["value", "side", "rest"] ["value", "side"] (defScope s_fold) := ⟨rfl, rfl, rfl, by decide +kernel, rfl, by decide +kernel, by decide +kernel⟩
theorem ok_fold (T : Txt mg) (C_lowest : Cal P w K mg base 2 "lowest" ["numerator", "denominator"] G_lowest) {f : Addr} {fd : FuncData} (F : FnP K "fold" s_fold f fd) (hm : mg "fold" = some (.ref f)) : Cal P w K mg base 3 "fold" ["value", "side"] G_fold := by
  refine ⟨f, fd, fn_ok F sc_fold t_fold l_fold (fun cdv A outer s H E hr => ?_), hm, F.kp, F.bindsN fun _ _ _ _ _ _ us hl => match us, hl with | [_, _], _ => rfl⟩
  have nd := sc_fold.nd
  exact ws_cons (ws_set (i := 2) nd (w_op op_modN r_mod (w_ix ix_seq r_ix (w_var 0) (w_int)) (w_op op_mulA r_mul (w_op op_mulA r_mul (w_int) (w_var 1)) (w_ix ix_seq r_ix (w_var 0) (w_int))))) (ws_one (ws_ret (w_callC C_lowest (hr.mono (by decide)) rfl (wa_cons (w_callB (call_min2 rfl) r_min (by rfl) T.f_min (by decide +kernel) (wa_cons (w_var 2) (wa_cons (w_op op_sub r_sub (w_op op_mulA r_mul (w_op op_mulA r_mul (w_int) (w_var 1)) (w_ix ix_seq r_ix (w_var 0) (w_int))) (w_var 2)) (wa_nil)))) (wa_cons (w_ix ix_seq r_ix (w_var 0) (w_int)) (wa_nil))))))
abbrev s_place_at : Stmt := top 16
theorem sc_place_at : FnScope ["run", "time", "across", "along", "w", "h", "x", "y", "a", "b"] ["run", "time"] (defScope s_place_at) := ⟨rfl, rfl, rfl, by decide +kernel, rfl, by decide +kernel, by decide +kernel⟩
theorem ok_place_at (T : Txt mg) (C_fold : Cal P w K mg base 3 "fold" ["value", "side"] G_fold) {f : Addr} {fd : FuncData} (F : FnP K "place_at" s_place_at f fd) (hm : mg "place_at" = some (.ref f)) : Cal P w K mg base 4 "place_at" ["run", "time"] G_place_at := by
  refine ⟨f, fd, fn_ok F sc_place_at t_place_at l_place_at (fun cdv A outer s H E hr => ?_), hm, F.kp, F.bindsN fun _ _ _ _ _ _ us hl => match us, hl with | [_, _], _ => rfl⟩
  have nd := sc_place_at.nd
  exact ws_cons (ws_asg (w_var 0) (wg_tup rfl (wgs_cons (wg_name (i := 4) nd) (wgs_cons (wg_name (i := 5) nd) (wgs_cons (wg_name (i := 6) nd) (wgs_cons (wg_name (i := 7) nd) (wgs_cons (wg_name (i := 8) nd) (wgs_cons (wg_name (i := 9) nd) (wgs_nil))))))))) (ws_cons (ws_set (i := 2) nd (w_tup (wa_cons (w_op op_addA r_add (w_op op_mulA r_mul (w_var 6) (w_ix ix_seq r_ix (w_var 1) (w_int))) (w_op op_mulA r_mul (w_var 8) (w_ix ix_seq r_ix (w_var 1) (w_int)))) (wa_cons (w_ix ix_seq r_ix (w_var 1) (w_int)) (wa_nil))))) (ws_cons (ws_set (i := 3) nd (w_tup (wa_cons (w_op op_addA r_add (w_op op_mulA r_mul (w_var 7) (w_ix ix_seq r_ix (w_var 1) (w_int))) (w_op op_mulA r_mul (w_var 9) (w_ix ix_seq r_ix (w_var 1) (w_int)))) (wa_cons (w_ix ix_seq r_ix (w_var 1) (w_int)) (wa_nil))))) (ws_one (ws_ret (w_tup (wa_cons (w_callC C_fold (hr.mono (by decide)) rfl (wa_cons (w_var 2) (wa_cons (w_var 4) (wa_nil)))) (wa_cons (w_callC C_fold (hr.mono (by decide)) rfl (wa_cons (w_var 3) (wa_cons (w_var 5) (wa_nil)))) (wa_nil))))))))
abbrev s_period_of : Stmt := top 17
theorem sc_period_of : FnScope ["run", "parts", "w", "h", "x", "y", "a", "b", "side", "speed"] ["run"] (defScope s_period_of) := ⟨rfl, rfl, rfl, by decide +kernel, rfl, by decide +kernel, by decide +kernel⟩
theorem ok_period_of (T : Txt mg) (C_lowest : Cal P w K mg base 2 "lowest" ["numerator", "denominator"] G_lowest) (C_least_multiple : Cal P w K mg base 3 "least_multiple" ["one", "two"] G_least_multiple) {f : Addr} {fd : FuncData} (F : FnP K "period_of" s_period_of f fd) (hm : mg "period_of" = some (.ref f)) : Cal P w K mg base 4 "period_of" ["run"] G_period_of := by
  refine ⟨f, fd, fn_ok F sc_period_of t_period_of l_period_of (fun cdv A outer s H E hr => ?_), hm, F.kp, F.bindsN fun _ _ _ _ _ _ us hl => match us, hl with | [_], _ => rfl⟩
  have nd := sc_period_of.nd
  exact ws_cons (ws_asg (w_var 0) (wg_tup rfl (wgs_cons (wg_name (i := 2) nd) (wgs_cons (wg_name (i := 3) nd) (wgs_cons (wg_name (i := 4) nd) (wgs_cons (wg_name (i := 5) nd) (wgs_cons (wg_name (i := 6) nd) (wgs_cons (wg_name (i := 7) nd) (wgs_nil))))))))) (ws_cons (ws_setLc2 (k := 1) rfl nd rfl (sw_true rfl rfl rfl (by decide +kernel)) (wi_seq (w_tup (wa_cons (w_tup (wa_cons (w_var 2) (wa_cons (w_var 6) (wa_nil)))) (wa_cons (w_tup (wa_cons (w_var 3) (wa_cons (w_var 7) (wa_nil)))) (wa_nil))))) (blkOk_by (N := ["run", "parts", "w", "h", "x", "y", "a", "b", "side", "speed"]) (sc := defScope s_period_of) (by decide +kernel)) (fun _ _ _ _ _ => wts_one (wt_cmp (op_neD hr.units) r_ne (w_var 9) (w_int) (nomark _))) (fun _ _ _ _ _ => w_callC C_lowest (hr.mono (by decide)) rfl (wa_cons (w_op op_mulA r_mul (w_int) (w_var 8)) (wa_cons (w_callB call_abs r_abs (by rfl) T.f_abs (by decide +kernel) (wa_cons (w_var 9) (wa_nil))) (wa_nil)))) (fun _ _ _ _ _ => pg_tup rfl (pgs_cons (pg_name (i := 8) nd rfl (Or.inl rfl)) (pgs_cons (pg_name (i := 9) nd rfl (Or.inl rfl)) pgs_nil)))) (ws_one (ws_ret (w_if (wt_cmp (op_eqD hr.units) r_eq (w_callB call_len r_len (by rfl) T.f_len (by decide +kernel) (wa_cons (w_var 1) (wa_nil))) (w_int) (nomark _)) (w_ix ix_seq r_ix (w_var 1) (w_int)) (w_callC C_least_multiple (hr.mono (by decide)) rfl (wa_cons (w_ix ix_seq r_ix (w_var 1) (w_int)) (wa_cons (w_ix ix_seq r_ix (w_var 1) (w_int)) (wa_nil))))))))
abbrev s_period : Stmt := top 18
theorem sc_period : FnScope ["run"] ["run"] (defScope s_period) := ⟨rfl, rfl, rfl, by decide +kernel, rfl, by decide +kernel, by decide +kernel⟩
theorem ok_period (T : Txt mg) (C_need_run : Cal P w K mg base 3 "need_run" ["value"] G_need_run) (C_period_of : Cal P w K mg base 4 "period_of" ["run"] G_period_of) {f : Addr} {fd : FuncData} (F : FnP K "period" s_period f fd) (hm : mg "period" = some (.ref f)) : Cal P w K mg base 5 "period" ["run"] G_period := by
  refine ⟨f, fd, fn_ok F sc_period t_period l_period (fun cdv A outer s H E hr => ?_), hm, F.kp, F.bindsN fun _ _ _ _ _ _ us hl => match us, hl with | [_], _ => rfl⟩
  have nd := sc_period.nd
  exact ws_cons (ws_expr (w_callC C_need_run (hr.mono (by decide)) rfl (wa_cons (w_var 0) (wa_nil)))) (ws_one (ws_ret (w_callC C_period_of (hr.mono (by decide)) rfl (wa_cons (w_var 0) (wa_nil)))))
abbrev s_common_part : Stmt := top 20
theorem sc_common_part : FnScope ["one", "two"] ["one", "two"] (defScope s_common_part) := ⟨rfl, rfl, rfl, by decide +kernel, rfl, by decide +kernel, by decide +kernel⟩
theorem ok_common_part (T : Txt mg) (C_common_of : Cal P w K mg base 1 "common_of" ["one", "two"] G_common_of) (C_lowest : Cal P w K mg base 2 "lowest" ["numerator", "denominator"] G_lowest) {f : Addr} {fd : FuncData} (F : FnP K "common_part" s_common_part f fd) (hm : mg "common_part" = some (.ref f)) : Cal P w K mg base 3 "common_part" ["one", "two"] G_common_part := by
  refine ⟨f, fd, fn_ok F sc_common_part t_common_part l_common_part (fun cdv A outer s H E hr => ?_), hm, F.kp, F.bindsN fun _ _ _ _ _ _ us hl => match us, hl with | [_, _], _ => rfl⟩
  have nd := sc_common_part.nd
  exact ws_one (ws_ret (w_callC C_lowest (hr.mono (by decide)) rfl (wa_cons (w_callC C_common_of (hr.mono (by decide)) rfl (wa_cons (w_op op_mulA r_mul (w_ix ix_seq r_ix (w_var 0) (w_int)) (w_ix ix_seq r_ix (w_var 1) (w_int))) (wa_cons (w_op op_mulA r_mul (w_ix ix_seq r_ix (w_var 1) (w_int)) (w_ix ix_seq r_ix (w_var 0) (w_int))) (wa_nil)))) (wa_cons (w_op op_mulA r_mul (w_ix ix_seq r_ix (w_var 0) (w_int)) (w_ix ix_seq r_ix (w_var 1) (w_int))) (wa_nil)))))
abbrev s_is_inside : Stmt := top 21
theorem sc_is_inside : FnScope ["run", "spot", "part", "side"] ["run", "spot"] (defScope s_is_inside) := ⟨rfl, rfl, rfl, by decide +kernel, rfl, by decide +kernel, by decide +kernel⟩
theorem ok_is_inside (T : Txt mg)  {f : Addr} {fd : FuncData} (F : FnP K "is_inside" s_is_inside f fd) (hm : mg "is_inside" = some (.ref f)) : Cal P w K mg base 1 "is_inside" ["run", "spot"] G_is_inside := by
  refine ⟨f, fd, fn_ok F sc_is_inside t_is_inside l_is_inside (fun cdv A outer s H E hr => ?_), hm, F.kp, F.bindsN fun _ _ _ _ _ _ us hl => match us, hl with | [_, _], _ => rfl⟩
  have nd := sc_is_inside.nd
  exact ws_one (ws_ret (w_callB (cr_all rfl) r_all (by rfl) T.f_all (by decide +kernel) (wa_cons (w_lc2 rfl nd (wi_zip (by rfl) T.f_zip (wa_cons (w_var 1) (wa_cons (w_slice (w_var 0) (wo_none) (wo_some (w_int))) (wa_nil)))) (blkOk_by (N := ["run", "spot", "part", "side"]) (sc := defScope s_is_inside) (by decide +kernel)) (fun _ _ _ _ _ => wts_nil) (fun _ _ _ _ _ => w_chain op_lt r_lt op_lt r_lt (w_int) (w_ix ix_seq r_ix (w_var 2) (w_int)) (w_op op_mulA r_mul (w_var 3) (w_ix ix_seq r_ix (w_var 2) (w_int)))) (fun _ _ _ _ _ => pg_tup rfl (pgs_cons (pg_name (i := 2) nd rfl (Or.inl rfl)) (pgs_cons (pg_name (i := 3) nd rfl (Or.inl rfl)) pgs_nil)))) (wa_nil))))
abbrev s_row_of : Stmt := top 22
theorem sc_row_of : FnScope ["start", "step", "whole", "unit", "time", "found"] ["start", "step", "whole"] (defScope s_row_of) := ⟨rfl, rfl, rfl, by decide +kernel, rfl, by decide +kernel, by decide +kernel⟩
theorem ok_row_of (T : Txt mg) (C_lowest : Cal P w K mg base 2 "lowest" ["numerator", "denominator"] G_lowest) (C_is_less : Cal P w K mg base 1 "is_less" ["one", "two"] G_is_less) (C_plus : Cal P w K mg base 3 "plus" ["one", "two"] G_plus) {f : Addr} {fd : FuncData} (F : FnP K "row_of" s_row_of f fd) (hm : mg "row_of" = some (.ref f)) : Cal P w K mg base 4 "row_of" ["start", "step", "whole"] G_row_of := by
  refine ⟨f, fd, fn_ok F sc_row_of t_row_of l_row_of (fun cdv A outer s H E hr => ?_), hm, F.kp, F.bindsN fun _ _ _ _ _ _ us hl => match us, hl with | [_, _, _], _ => rfl⟩
  have nd := sc_row_of.nd
  exact ws_cons (ws_set (i := 3) nd (w_op op_mulA r_mul (w_ix ix_seq r_ix (w_var 0) (w_int)) (w_ix ix_seq r_ix (w_var 1) (w_int)))) (ws_cons (ws_set (i := 4) nd (w_callC C_lowest (hr.mono (by decide)) rfl (wa_cons (w_op op_modN r_mod (w_op op_mulA r_mul (w_ix ix_seq r_ix (w_var 0) (w_int)) (w_ix ix_seq r_ix (w_var 1) (w_int))) (w_op op_mulA r_mul (w_ix ix_seq r_ix (w_var 1) (w_int)) (w_ix ix_seq r_ix (w_var 0) (w_int)))) (wa_cons (w_var 3) (wa_nil))))) (ws_cons (ws_set (i := 5) nd (w_lst (wa_nil))) (ws_cons (ws_while PassesOwn.never (wt_val (w_callC C_is_less (hr.mono (by decide)) rfl (wa_cons (w_var 4) (wa_cons (w_var 2) (wa_nil))))) (ws_cons (ws_expr (w_methL PySem.F.plainAttrs_list PySem.F.slot_list_append PySem.F.type_list_append mt_append r_append (w_var 5) (wa_cons (w_var 4) (wa_nil)))) (ws_one (ws_set (i := 4) nd (w_callC C_plus (hr.mono (by decide)) rfl (wa_cons (w_var 4) (wa_cons (w_var 1) (wa_nil)))))))) (ws_one (ws_ret (w_var 5))))))
abbrev s_crossings : Stmt := top 23
theorem sc_crossings : FnScope ["run", "start", "w", "h", "x", "y", "a", "b", "step", "whole", "found", "time", "spot"] ["run"] (defScope s_crossings) := ⟨rfl, rfl, rfl, by decide +kernel, rfl, by decide +kernel, by decide +kernel⟩
theorem ok_crossings (T : Txt mg) (C_need_run : Cal P w K mg base 3 "need_run" ["value"] G_need_run) (C_period_of : Cal P w K mg base 4 "period_of" ["run"] G_period_of) (C_lowest : Cal P w K mg base 2 "lowest" ["numerator", "denominator"] G_lowest) (C_common_part : Cal P w K mg base 3 "common_part" ["one", "two"] G_common_part) (C_row_of : Cal P w K mg base 4 "row_of" ["start", "step", "whole"] G_row_of) (C_place_at : Cal P w K mg base 4 "place_at" ["run", "time"] G_place_at) (C_is_inside : Cal P w K mg base 1 "is_inside" ["run", "spot"] G_is_inside) {f : Addr} {fd : FuncData} (F : FnP K "crossings" s_crossings f fd) (hm : mg "crossings" = some (.ref f)) : Cal P w K mg base 5 "crossings" ["run"] G_crossings := by
  refine ⟨f, fd, fn_ok F sc_crossings t_crossings l_crossings (fun cdv A outer s H E hr => ?_), hm, F.kp, F.bindsN fun _ _ _ _ _ _ us hl => match us, hl with | [_], _ => rfl⟩
  have nd := sc_crossings.nd
  exact ws_cons (ws_expr (w_callC C_need_run (hr.mono (by decide)) rfl (wa_cons (w_var 0) (wa_nil)))) (ws_cons (ws_asg (w_var 0) (wg_tup rfl (wgs_cons (wg_name (i := 2) nd) (wgs_cons (wg_name (i := 3) nd) (wgs_cons (wg_name (i := 4) nd) (wgs_cons (wg_name (i := 5) nd) (wgs_cons (wg_name (i := 6) nd) (wgs_cons (wg_name (i := 7) nd) (wgs_nil))))))))) (ws_cons (ws_if (PW.pt (wt_or (wt_cmp (op_eqD hr.units) r_eq (w_var 6) (w_int) (nomark _)) (wt_or1 (wt_cmp (op_eqD hr.units) r_eq (w_var 7) (w_int) (nomark _))))) (ws_one (ws_ret (w_int))) (ws_nil)) (ws_cons (ws_par3 (i := 8) (j := 9) (l := 10) rfl nd (wa_cons (w_callC C_common_part (hr.mono (by decide)) rfl (wa_cons (w_callC C_lowest (hr.mono (by decide)) rfl (wa_cons (w_var 2) (wa_cons (w_callB call_abs r_abs (by rfl) T.f_abs (by decide +kernel) (wa_cons (w_var 6) (wa_nil))) (wa_nil)))) (wa_cons (w_callC C_lowest (hr.mono (by decide)) rfl (wa_cons (w_var 3) (wa_cons (w_callB call_abs r_abs (by rfl) T.f_abs (by decide +kernel) (wa_cons (w_var 7) (wa_nil))) (wa_nil)))) (wa_nil)))) (wa_cons (w_callC C_period_of (hr.mono (by decide)) rfl (wa_cons (w_var 0) (wa_nil))) (wa_cons (w_newN) (wa_nil))))) (ws_cons (ws_for PassesOwn.never rfl (wi_seq (w_tup (wa_cons (w_callC C_lowest (hr.mono (by decide)) rfl (wa_cons (w_un un_neg r_neg (w_var 4)) (wa_cons (w_var 6) (wa_nil)))) (wa_cons (w_callC C_lowest (hr.mono (by decide)) rfl (wa_cons (w_un un_neg r_neg (w_var 5)) (wa_cons (w_var 7) (wa_nil)))) (wa_nil))))) (wg_name (i := 1) nd) (ws_one (ws_for PassesOwn.never rfl (wi_seq (w_callC C_row_of (hr.mono (by decide)) rfl (wa_cons (w_var 1) (wa_cons (w_var 8) (wa_cons (w_var 9) (wa_nil)))))) (wg_name (i := 11) nd) (ws_cons (ws_set (i := 12) nd (w_callC C_place_at (hr.mono (by decide)) rfl (wa_cons (w_var 0) (wa_cons (w_var 11) (wa_nil))))) (ws_one (ws_if (wt_val (w_callC C_is_inside (hr.mono (by decide)) rfl (wa_cons (w_var 0) (wa_cons (w_var 12) (wa_nil))))) (ws_one (ws_asg (w_bl) (wg_sub (w_var 10) (w_var 12) (set_nd (u65 hr)) r_setN))) (ws_nil))))))) (ws_one (ws_ret (w_callB call_lenN r_lenN (by rfl) T.f_len (by decide +kernel) (wa_cons (w_var 10) (wa_nil)))))))))
abbrev s__law_draw : Stmt := top 25
theorem sc__law_draw : FnScope ["script", "town", "many", "at", "mixed", "one"] ["script", "town", "many"] (defScope s__law_draw) := ⟨rfl, rfl, rfl, by decide +kernel, rfl, by decide +kernel, by decide +kernel⟩
theorem ok__law_draw (T : Txt mg)  {f : Addr} {fd : FuncData} (F : FnP K "_law_draw" s__law_draw f fd) (hm : mg "_law_draw" = some (.ref f)) : Cal P w K mg base 1 "_law_draw" ["script", "town", "many"] G__law_draw := by
  refine ⟨f, fd, fn_ok F sc__law_draw t__law_draw l__law_draw (fun cdv A outer s H E hr => ?_), hm, F.kp, F.bindsN fun _ _ _ _ _ _ us hl => match us, hl with | [_, _, _], _ => rfl⟩
  have nd := sc__law_draw.nd
  exact ws_cons (ws_if (wt_cmp op_gt r_gt (w_ix ix_seq r_ix (w_var 1) (w_int)) (w_int) (nomark _)) (ws_cons (ws_set (i := 5) nd (w_op op_modN r_mod (w_ix ix_seq r_ix (w_var 1) (w_int)) (w_var 2))) (ws_cons (ws_asg (w_op op_fdivX r_fdiv (w_ix ix_seq r_ix (w_var 1) (w_int)) (w_var 2)) (wg_sub (w_var 1) (w_int) set_list r_setL)) (ws_one (ws_ret (w_var 5))))) (ws_nil)) (ws_cons (ws_set (i := 3) nd (w_ix ix_seq r_ix (w_var 1) (w_int))) (ws_cons (ws_augS (w_var 1) (w_int) get_list r_ix0 (w_int) ip_add r_ipadd set_list r_setL) (ws_cons (ws_if (wt_cmp (op_eqD hr.units) r_eq (w_var 0) (w_lst (wa_nil)) (nomark _)) (ws_one (ws_ret (w_op op_modN r_mod (w_var 3) (w_var 2)))) (ws_nil)) (ws_cons (ws_if (PW.pt (wt_and (wt_cmp op_lt r_lt (w_var 3) (w_callB call_len r_len (by rfl) T.f_len (by decide +kernel) (wa_cons (w_var 0) (wa_nil))) (nomark _)) (wt_and1 (wt_cmp op_ge r_ge (w_ix ix_seq r_ix (w_var 0) (w_var 3)) (w_op op_pow r_pow (w_int) (w_int)) (nomark _))))) (ws_cons (ws_asg (w_op op_modN r_mod (w_op op_fdivX r_fdiv (w_ix ix_seq r_ix (w_var 0) (w_var 3)) (w_var 2)) (w_op op_mulA r_mul (w_op op_pow r_pow (w_int) (w_int)) (w_op op_pow r_pow (w_int) (w_int)))) (wg_sub (w_var 1) (w_int) set_list r_setL)) (ws_one (ws_ret (w_op op_modN r_mod (w_ix ix_seq r_ix (w_var 0) (w_var 3)) (w_var 2))))) (ws_nil)) (ws_cons (ws_set (i := 4) nd (w_op op_modN r_mod (w_op op_addA r_add (w_op op_addA r_add (w_op op_mulA r_mul (w_ix ix_seq r_ix (w_var 0) (w_op op_modN r_mod (w_var 3) (w_callB call_len r_len (by rfl) T.f_len (by decide +kernel) (wa_cons (w_var 0) (wa_nil))))) (w_int)) (w_op op_mulA r_mul (w_int) (w_var 3))) (w_int)) (w_int))) (ws_one (ws_ret (w_op op_modN r_mod (w_op op_modN r_mod (w_op op_modN r_mod (w_op op_pow r_pow (w_var 4) (w_int)) (w_int)) (w_int)) (w_var 2)))))))))
abbrev s__law_run : Stmt := top 27
theorem sc__law_run : FnScope ["script", "town", "side", "speed", "w", "h", "a", "b"] ["script", "town", "side", "speed"] (defScope s__law_run) := ⟨rfl, rfl, rfl, by decide +kernel, rfl, by decide +kernel, by decide +kernel⟩
theorem ok__law_run (T : Txt mg) (C__law_draw : Cal P w K mg base 1 "_law_draw" ["script", "town", "many"] G__law_draw) {f : Addr} {fd : FuncData} (F : FnP K "_law_run" s__law_run f fd) (hm : mg "_law_run" = some (.ref f)) : Cal P w K mg base 2 "_law_run" ["script", "town", "side", "speed"] G__law_run := by
  refine ⟨f, fd, fn_ok F sc__law_run t__law_run l__law_run (fun cdv A outer s H E hr => ?_), hm, F.kp, F.bindsN fun _ _ _ _ _ _ us hl => match us, hl with | [_, _, _, _], _ => rfl⟩
  have nd := sc__law_run.nd
  exact ws_cons (ws_par (i := 4) (j := 5) rfl nd (wa_cons (w_op op_addA r_add (w_int) (w_callC C__law_draw (hr.mono (by decide)) rfl (wa_cons (w_var 0) (wa_cons (w_var 1) (wa_cons (w_var 2) (wa_nil)))))) (wa_cons (w_op op_addA r_add (w_int) (w_callC C__law_draw (hr.mono (by decide)) rfl (wa_cons (w_var 0) (wa_cons (w_var 1) (wa_cons (w_var 2) (wa_nil)))))) (wa_nil)))) (ws_cons (ws_par (i := 6) (j := 7) rfl nd (wa_cons (w_op op_sub r_sub (w_callC C__law_draw (hr.mono (by decide)) rfl (wa_cons (w_var 0) (wa_cons (w_var 1) (wa_cons (w_op op_addA r_add (w_op op_mulA r_mul (w_int) (w_var 3)) (w_int)) (wa_nil))))) (w_var 3)) (wa_cons (w_op op_sub r_sub (w_callC C__law_draw (hr.mono (by decide)) rfl (wa_cons (w_var 0) (wa_cons (w_var 1) (wa_cons (w_op op_addA r_add (w_op op_mulA r_mul (w_int) (w_var 3)) (w_int)) (wa_nil))))) (w_var 3)) (wa_nil)))) (ws_cons (ws_if (PW.pt (wt_and (wt_cmp (op_eqD hr.units) r_eq (w_var 6) (w_int) (nomark _)) (wt_and1 (wt_cmp (op_eqD hr.units) r_eq (w_var 7) (w_int) (nomark _))))) (ws_one (ws_set (i := 7) nd (w_int))) (ws_nil)) (ws_one (ws_ret (w_tup (wa_cons (w_var 4) (wa_cons (w_var 5) (wa_cons (w_callC C__law_draw (hr.mono (by decide)) rfl (wa_cons (w_var 0) (wa_cons (w_var 1) (wa_cons (w_op op_addA r_add (w_var 4) (w_int)) (wa_nil))))) (wa_cons (w_callC C__law_draw (hr.mono (by decide)) rfl (wa_cons (w_var 0) (wa_cons (w_var 1) (wa_cons (w_op op_addA r_add (w_var 5) (w_int)) (wa_nil))))) (wa_cons (w_var 6) (wa_cons (w_var 7) (wa_nil))))))))))))
abbrev s__law_walk : Stmt := top 31
theorem sc__law_walk : FnScope ["run", "unit", "most", "a", "b", "tick", "w", "h", "x", "y", "spots", "ways", "walls", "name"] ["run", "unit", "most"] (defScope s__law_walk) := ⟨rfl, rfl, rfl, by decide +kernel, rfl, by decide +kernel, by decide +kernel⟩
theorem ok__law_walk (T : Txt mg)  {f : Addr} {fd : FuncData} (F : FnP K "_law_walk" s__law_walk f fd) (hm : mg "_law_walk" = some (.ref f)) : Cal P w K mg base 1 "_law_walk" ["run", "unit", "most"] G__law_walk := by
  refine ⟨f, fd, fn_ok F sc__law_walk t__law_walk l__law_walk (fun cdv A outer s H E hr => ?_), hm, F.kp, F.bindsN fun _ _ _ _ _ _ us hl => match us, hl with | [_, _, _], _ => rfl⟩
  have nd := sc__law_walk.nd
  exact ws_cons (ws_asg (w_var 0) (wg_tup rfl (wgs_cons (wg_name (i := 6) nd) (wgs_cons (wg_name (i := 7) nd) (wgs_cons (wg_name (i := 8) nd) (wgs_cons (wg_name (i := 9) nd) (wgs_cons (wg_name (i := 3) nd) (wgs_cons (wg_name (i := 4) nd) (wgs_nil))))))))) (ws_cons (ws_par (i := 8) (j := 9) rfl nd (wa_cons (w_op op_mulA r_mul (w_var 8) (w_var 1)) (wa_cons (w_op op_mulA r_mul (w_var 9) (w_var 1)) (wa_nil)))) (ws_cons (ws_par (i := 6) (j := 7) rfl nd (wa_cons (w_op op_mulA r_mul (w_var 6) (w_var 1)) (wa_cons (w_op op_mulA r_mul (w_var 7) (w_var 1)) (wa_nil)))) (ws_cons (ws_set (i := 3) nd (w_if (wt_cmp (op_eqD hr.units) r_eq (w_var 8) (w_int) (nomark _)) (w_callB call_abs r_abs (by rfl) T.f_abs (by decide +kernel) (wa_cons (w_var 3) (wa_nil))) (w_if (wt_cmp (op_eqD hr.units) r_eq (w_var 8) (w_var 6) (nomark _)) (w_un un_neg r_neg (w_callB call_abs r_abs (by rfl) T.f_abs (by decide +kernel) (wa_cons (w_var 3) (wa_nil)))) (w_var 3)))) (ws_cons (ws_set (i := 4) nd (w_if (wt_cmp (op_eqD hr.units) r_eq (w_var 9) (w_int) (nomark _)) (w_callB call_abs r_abs (by rfl) T.f_abs (by decide +kernel) (wa_cons (w_var 4) (wa_nil))) (w_if (wt_cmp (op_eqD hr.units) r_eq (w_var 9) (w_var 7) (nomark _)) (w_un un_neg r_neg (w_callB call_abs r_abs (by rfl) T.f_abs (by decide +kernel) (wa_cons (w_var 4) (wa_nil)))) (w_var 4)))) (ws_cons (ws_par3 (i := 10) (j := 11) (l := 12) rfl nd (wa_cons (w_lst (wa_cons (w_tup (wa_cons (w_var 8) (wa_cons (w_var 9) (wa_nil)))) (wa_nil))) (wa_cons (w_lst (wa_cons (w_tup (wa_cons (w_var 3) (wa_cons (w_var 4) (wa_nil)))) (wa_nil))) (wa_cons (w_lst (wa_nil)) (wa_nil))))) (ws_cons (ws_for PassesOwn.never rfl (wi_range2 (by rfl) T.f_range (wa_cons (w_int) (wa_cons (w_op op_addA r_add (w_var 2) (w_int)) (wa_nil)))) (wg_name (i := 5) nd) (ws_cons (ws_par3 (i := 8) (j := 9) (l := 13) rfl nd (wa_cons (w_op op_addA r_add (w_var 8) (w_var 3)) (wa_cons (w_op op_addA r_add (w_var 9) (w_var 4)) (wa_cons (w_str) (wa_nil))))) (ws_cons (ws_if (PW.pt (wt_and (wt_cmp (op_neD hr.units) r_ne (w_var 3) (w_int) (nomark _)) (wt_and1 (wt_cmp (op_inA (u65 hr)) r_in (w_var 8) (w_tup (wa_cons (w_int) (wa_cons (w_var 6) (wa_nil)))) (by rfl))))) (ws_cons (ws_set (i := 13) nd (w_op op_addA r_add (w_var 13) (w_if (wt_cmp (op_eqD hr.units) r_eq (w_var 8) (w_int) (nomark _)) (w_str) (w_str)))) (ws_one (ws_set (i := 3) nd (w_if (wt_cmp (op_eqD hr.units) r_eq (w_var 8) (w_int) (nomark _)) (w_callB call_abs r_abs (by rfl) T.f_abs (by decide +kernel) (wa_cons (w_var 3) (wa_nil))) (w_un un_neg r_neg (w_callB call_abs r_abs (by rfl) T.f_abs (by decide +kernel) (wa_cons (w_var 3) (wa_nil)))))))) (ws_nil)) (ws_cons (ws_if (PW.pt (wt_and (wt_cmp (op_neD hr.units) r_ne (w_var 4) (w_int) (nomark _)) (wt_and1 (wt_cmp (op_inA (u65 hr)) r_in (w_var 9) (w_tup (wa_cons (w_int) (wa_cons (w_var 7) (wa_nil)))) (by rfl))))) (ws_cons (ws_set (i := 13) nd (w_op op_addA r_add (w_var 13) (w_if (wt_cmp (op_eqD hr.units) r_eq (w_var 9) (w_int) (nomark _)) (w_str) (w_str)))) (ws_one (ws_set (i := 4) nd (w_if (wt_cmp (op_eqD hr.units) r_eq (w_var 9) (w_int) (nomark _)) (w_callB call_abs r_abs (by rfl) T.f_abs (by decide +kernel) (wa_cons (w_var 4) (wa_nil))) (w_un un_neg r_neg (w_callB call_abs r_abs (by rfl) T.f_abs (by decide +kernel) (wa_cons (w_var 4) (wa_nil)))))))) (ws_nil)) (ws_cons (ws_expr (w_methL PySem.F.plainAttrs_list PySem.F.slot_list_append PySem.F.type_list_append mt_append r_append (w_var 10) (wa_cons (w_tup (wa_cons (w_var 8) (wa_cons (w_var 9) (wa_nil)))) (wa_nil)))) (ws_cons (ws_expr (w_methL PySem.F.plainAttrs_list PySem.F.slot_list_append PySem.F.type_list_append mt_append r_append (w_var 11) (wa_cons (w_tup (wa_cons (w_var 3) (wa_cons (w_var 4) (wa_nil)))) (wa_nil)))) (ws_one (ws_if (wt_cmp (op_neD hr.units) r_ne (w_var 13) (w_str) (nomark _)) (ws_one (ws_expr (w_methL PySem.F.plainAttrs_list PySem.F.slot_list_append PySem.F.type_list_append mt_append r_append (w_var 12) (wa_cons (w_tup (wa_cons (w_var 5) (wa_cons (w_var 13) (wa_nil)))) (wa_nil))))) (ws_nil))))))))) (ws_one (ws_ret (w_tup (wa_cons (w_var 10) (wa_cons (w_var 11) (wa_cons (w_var 12) (wa_nil)))))))))))))
abbrev s_law : Stmt := top 32
theorem sc_law : FnScope ["script", "town", "run", "unit", "w", "h", "x", "y", "a", "b", "told", "whole", "spots", "ways", "walls", "rising", "falling", "spot", "way", "book"] ["script"] (defScope s_law) := ⟨rfl, rfl, rfl, by decide +kernel, rfl, by decide +kernel, by decide +kernel⟩
theorem okf_law (T : Txt mg) (C__law_run : Cal P w K mg base 2 "_law_run" ["script", "town", "side", "speed"] G__law_run) (C_period : Cal P w K mg base 5 "period" ["run"] G_period) (C_crossings : Cal P w K mg base 5 "crossings" ["run"] G_crossings) (C__law_walk : Cal P w K mg base 1 "_law_walk" ["run", "unit", "most"] G__law_walk) {f : Addr} {fd : FuncData} (F : FnP K "law" s_law f fd) (hm : mg "law" = some (.ref f)) : FnOk P w K mg base CX0 6 f fd ["script"] (spF K G_law) := by
  refine fn_ok F sc_law t_law l_law (fun cdv A outer s H E hr => ?_)
  have nd := sc_law.nd
  exact ws_cons (ws_set (i := 1) nd (w_lst (wa_cons (w_int) (wa_cons (w_int) (wa_nil))))) (ws_cons (ws_set (i := 2) nd (w_callC C__law_run (hr.mono (by decide)) rfl (wa_cons (w_var 0) (wa_cons (w_var 1) (wa_cons (w_int) (wa_cons (w_int) (wa_nil))))))) (ws_cons (ws_asg (w_var 2) (wg_tup rfl (wgs_cons (wg_name (i := 4) nd) (wgs_cons (wg_name (i := 5) nd) (wgs_cons (wg_name (i := 6) nd) (wgs_cons (wg_name (i := 7) nd) (wgs_cons (wg_name (i := 8) nd) (wgs_cons (wg_name (i := 9) nd) (wgs_nil))))))))) (ws_cons (ws_par (i := 10) (j := 11) rfl nd (wa_cons (w_callC C_crossings (hr.mono (by decide)) rfl (wa_cons (w_var 2) (wa_nil))) (wa_cons (w_callC C_period (hr.mono (by decide)) rfl (wa_cons (w_var 2) (wa_nil))) (wa_nil)))) (ws_cons (ws_if (PW.pt (wt_or (wt_cmp (op_eqD hr.units) r_eq (w_var 8) (w_int) (nomark _)) (wt_or1 (wt_cmp (op_eqD hr.units) r_eq (w_var 9) (w_int) (nomark _))))) (ws_one (ws_ret (w_cmp (op_eqD hr.units) r_eq (w_var 10) (w_int) (nomark _)))) (ws_nil)) (ws_cons (ws_set (i := 3) nd (w_callB call_abs r_abs (by rfl) T.f_abs (by decide +kernel) (wa_cons (w_op op_mulA r_mul (w_var 8) (w_var 9)) (wa_nil)))) (ws_cons (ws_asg (w_callC C__law_walk (hr.mono (by decide)) rfl (wa_cons (w_var 2) (wa_cons (w_var 3) (wa_cons (w_op op_fdivX r_fdiv (w_op op_mulA r_mul (w_ix ix_seq r_ix (w_var 11) (w_int)) (w_var 3)) (w_ix ix_seq r_ix (w_var 11) (w_int))) (wa_nil))))) (wg_tup rfl (wgs_cons (wg_name (i := 12) nd) (wgs_cons (wg_name (i := 13) nd) (wgs_cons (wg_name (i := 14) nd) (wgs_nil)))))) (ws_cons (ws_asg (w_tup (wa_cons (w_newT) (wa_cons (w_newT) (wa_nil)))) (wg_tup rfl (wgs_cons (wg_name (i := 15) nd) (wgs_cons (wg_name (i := 16) nd) (wgs_nil))))) (ws_cons (ws_for PassesOwn.never rfl (wi_zip (by rfl) T.f_zip (wa_cons (w_var 12) (wa_cons (w_var 13) (wa_nil)))) (wg_tup rfl (wgs_cons (wg_name (i := 17) nd) (wgs_cons (wg_name (i := 18) nd) (wgs_nil)))) (ws_one (ws_if (PW.pt (wt_and (wt_chain op_lt r_lt op_lt r_lt (w_int) (w_ix ix_seq r_ix (w_var 17) (w_int)) (w_op op_mulA r_mul (w_var 4) (w_var 3))) (wt_and1 (wt_chain op_lt r_lt op_lt r_lt (w_int) (w_ix ix_seq r_ix (w_var 17) (w_int)) (w_op op_mulA r_mul (w_var 5) (w_var 3)))))) (ws_cons (ws_set (i := 19) nd (w_if (wt_cmp op_gt r_gt (w_op op_mulA r_mul (w_ix ix_seq r_ix (w_var 18) (w_int)) (w_ix ix_seq r_ix (w_var 18) (w_int))) (w_int) (nomark _)) (w_var 15) (w_var 16))) (ws_one (ws_asg (w_bl) (wg_sub (w_var 19) (w_var 17) (set_dict (u1 hr)) r_setD)))) (ws_nil)))) (ws_one (ws_ret (w_cmp (op_eqD hr.units) r_eq (w_var 10) (w_callB call_len r_len (by rfl) T.f_len (by decide +kernel) (wa_cons (w_kin (u65 hr) rfl nd (blkOk_by (N := ["script", "town", "run", "unit", "w", "h", "x", "y", "a", "b", "told", "whole", "spots", "ways", "walls", "rising", "falling", "spot", "way", "book"]) (sc := defScope s_law) (by decide +kernel)) (by decide) (by decide) (pe_var (i := 15) rfl (by first | exact Or.inl rfl | exact Or.inr (Or.inl rfl) | exact Or.inr (Or.inr rfl))) (fun _ _ _ _ _ => pe_var (i := 17) rfl (by first | exact Or.inl rfl | exact Or.inr (Or.inl rfl) | exact Or.inr (Or.inr rfl))) (fun _ _ _ _ _ => pe_var (i := 17) rfl (by first | exact Or.inl rfl | exact Or.inr (Or.inl rfl) | exact Or.inr (Or.inr rfl))) (fun _ _ _ _ _ => pe_var (i := 16) rfl (by first | exact Or.inl rfl | exact Or.inr (Or.inl rfl) | exact Or.inr (Or.inr rfl))) (fun _ _ _ _ _ => pg_name (i := 17) nd rfl (Or.inl rfl)) (fun _ _ _ _ _ => u1 hr)) (wa_nil))) (nomark _))))))))))))
end
/-! the head -/
def d_is_count : He.DefD := ⟨("is_count", none), "is_count", "is_count", defArgs s_is_count, defBody s_is_count, defScope s_is_count, [], []⟩
def d_is_run : He.DefD := ⟨("is_run", none), "is_run", "is_run", defArgs s_is_run, defBody s_is_run, defScope s_is_run, [], []⟩
def d_need_run : He.DefD := ⟨("need_run", none), "need_run", "need_run", defArgs s_need_run, defBody s_need_run, defScope s_need_run, [], []⟩
def d_common_of : He.DefD := ⟨("common_of", none), "common_of", "common_of", defArgs s_common_of, defBody s_common_of, defScope s_common_of, [], []⟩
def d_lowest : He.DefD := ⟨("lowest", none), "lowest", "lowest", defArgs s_lowest, defBody s_lowest, defScope s_lowest, [], []⟩
def d_plus : He.DefD := ⟨("plus", none), "plus", "plus", defArgs s_plus, defBody s_plus, defScope s_plus, [], []⟩
def d_is_less : He.DefD := ⟨("is_less", none), "is_less", "is_less", defArgs s_is_less, defBody s_is_less, defScope s_is_less, [], []⟩
def d_least_multiple : He.DefD := ⟨("least_multiple", none), "least_multiple", "least_multiple", defArgs s_least_multiple, defBody s_least_multiple, defScope s_least_multiple, [], []⟩
def d_fold : He.DefD := ⟨("fold", none), "fold", "fold", defArgs s_fold, defBody s_fold, defScope s_fold, [], []⟩
def d_place_at : He.DefD := ⟨("place_at", none), "place_at", "place_at", defArgs s_place_at, defBody s_place_at, defScope s_place_at, [], []⟩
def d_period_of : He.DefD := ⟨("period_of", none), "period_of", "period_of", defArgs s_period_of, defBody s_period_of, defScope s_period_of, [], []⟩
def d_period : He.DefD := ⟨("period", none), "period", "period", defArgs s_period, defBody s_period, defScope s_period, [], []⟩
def d_common_part : He.DefD := ⟨("common_part", none), "common_part", "common_part", defArgs s_common_part, defBody s_common_part, defScope s_common_part, [], []⟩
def d_is_inside : He.DefD := ⟨("is_inside", none), "is_inside", "is_inside", defArgs s_is_inside, defBody s_is_inside, defScope s_is_inside, [], []⟩
def d_row_of : He.DefD := ⟨("row_of", none), "row_of", "row_of", defArgs s_row_of, defBody s_row_of, defScope s_row_of, [], []⟩
def d_crossings : He.DefD := ⟨("crossings", none), "crossings", "crossings", defArgs s_crossings, defBody s_crossings, defScope s_crossings, [], []⟩
def d__law_draw : He.DefD := ⟨("_law_draw", none), "_law_draw", "_law_draw", defArgs s__law_draw, defBody s__law_draw, defScope s__law_draw, [], []⟩
def d__law_run : He.DefD := ⟨("_law_run", none), "_law_run", "_law_run", defArgs s__law_run, defBody s__law_run, defScope s__law_run, [], []⟩
def d__law_walk : He.DefD := ⟨("_law_walk", none), "_law_walk", "_law_walk", defArgs s__law_walk, defBody s__law_walk, defScope s__law_walk, [], []⟩
def d_law : He.DefD := ⟨("law", none), "law", "law", defArgs s_law, defBody s_law, defScope s_law, [], []⟩
def fn : List He.DefD := [d_is_count, d_is_run, d_need_run, d_common_of, d_lowest, d_plus, d_is_less, d_least_multiple, d_fold, d_place_at, d_period_of, d_period, d_common_part, d_is_inside, d_row_of, d_crossings, d__law_draw, d__law_run, d__law_walk, d_law]
def fa : List He.Fa := [.glo "is_count", .glo "is_run", .glo "need_run", .glo "common_of", .glo "lowest", .glo "plus", .glo "is_less", .glo "least_multiple", .glo "fold", .glo "place_at", .glo "period_of", .glo "period", .glo "common_part", .glo "is_inside", .glo "row_of", .glo "crossings", .glo "_law_draw", .glo "_law_run", .glo "_law_walk", .glo "law", .free "int", .free "isinstance", .free "bool", .free "tuple", .free "len", .free "abs", .free "min", .free "zip", .free "all", .free "range", .int "SIDE" 12, .int "SPEED" 6]
abbrev R : PySem.W.OpenRow := PySem.W.OpenLaw.row PySem.Challenge.rw_bouncepaths_k07_whole_crossings
abbrev hk : PySem.W.Hook := He.hookD 4 fa fn
def ob (s : PySem.W.SharedT) : He.AlD := He.obsDG 4 fa fn (HandSHeadRun.getT s)
theorem ob_eq (s : PySem.W.SharedT) : ob s = hk.obs s.abs := He.obsDG_eq (HandSHeadRun.getT_eq s)
def loose : List Str := (["BounceError", "InvalidRun", "SIDE", "SPEED", "is_count", "is_run", "need_run", "common_of", "lowest", "plus", "is_less", "least_multiple", "fold", "place_at", "period_of", "period", "common_part", "is_inside", "row_of", "crossings", "_law_draw", "_law_pick", "_law_run", "_law_gcd"] : List Str) ++ (["_law_low", "_law_unit", "_law_walk"] : List Str)
theorem run (w : World) : HandSHeadRun.RunEq R (PySem.W.view R.prog [32]) hk ob 6000 loose w := by
  intro os
  kernel_rfl
theorem facts {P : Program} {w : World} {K : PySem.W.Frag} {h : Heap} {mg : Str → Option Value} {f : Addr} (X : K.In h) (Gm : h.Ns mainGlobals mg) (hfa : mg ("law" : Str) = some (.ref f)) (c : He.SaysD fa fn K) :
    ∃ fd : FuncData, (∀ (s : Shared) (v : Value), BindsTo s fd ⟨[v], []⟩ [("script", v)]) ∧ ∀ base : Heap, K.In base → base.Ns mainGlobals mg → FnOk P w K mg base CX0 6 f fd ["script"] (spF K G_law) := by
  have T : Txt mg := ⟨He.free_ok X Gm (c.fact 20 (f := .free "int") rfl), He.free_ok X Gm (c.fact 21 (f := .free "isinstance") rfl), He.free_ok X Gm (c.fact 22 (f := .free "bool") rfl), He.free_ok X Gm (c.fact 23 (f := .free "tuple") rfl), He.free_ok X Gm (c.fact 24 (f := .free "len") rfl), He.free_ok X Gm (c.fact 25 (f := .free "abs") rfl), He.free_ok X Gm (c.fact 26 (f := .free "min") rfl), He.free_ok X Gm (c.fact 27 (f := .free "zip") rfl), He.free_ok X Gm (c.fact 28 (f := .free "all") rfl), He.free_ok X Gm (c.fact 29 (f := .free "range") rfl), He.int_ok X Gm (c.fact 30 rfl), He.int_ok X Gm (c.fact 31 rfl)⟩
  obtain ⟨fd_is_count, F_is_count⟩ := c.def_ 0 (d := d_is_count) rfl
  have m_is_count := He.glo_ok X Gm (c.fact 0 (f := .glo "is_count") rfl)
  obtain ⟨fd_is_run, F_is_run⟩ := c.def_ 1 (d := d_is_run) rfl
  have m_is_run := He.glo_ok X Gm (c.fact 1 (f := .glo "is_run") rfl)
  obtain ⟨fd_need_run, F_need_run⟩ := c.def_ 2 (d := d_need_run) rfl
  have m_need_run := He.glo_ok X Gm (c.fact 2 (f := .glo "need_run") rfl)
  obtain ⟨fd_common_of, F_common_of⟩ := c.def_ 3 (d := d_common_of) rfl
  have m_common_of := He.glo_ok X Gm (c.fact 3 (f := .glo "common_of") rfl)
  obtain ⟨fd_lowest, F_lowest⟩ := c.def_ 4 (d := d_lowest) rfl
  have m_lowest := He.glo_ok X Gm (c.fact 4 (f := .glo "lowest") rfl)
  obtain ⟨fd_plus, F_plus⟩ := c.def_ 5 (d := d_plus) rfl
  have m_plus := He.glo_ok X Gm (c.fact 5 (f := .glo "plus") rfl)
  obtain ⟨fd_is_less, F_is_less⟩ := c.def_ 6 (d := d_is_less) rfl
  have m_is_less := He.glo_ok X Gm (c.fact 6 (f := .glo "is_less") rfl)
  obtain ⟨fd_least_multiple, F_least_multiple⟩ := c.def_ 7 (d := d_least_multiple) rfl
  have m_least_multiple := He.glo_ok X Gm (c.fact 7 (f := .glo "least_multiple") rfl)
  obtain ⟨fd_fold, F_fold⟩ := c.def_ 8 (d := d_fold) rfl
  have m_fold := He.glo_ok X Gm (c.fact 8 (f := .glo "fold") rfl)
  obtain ⟨fd_place_at, F_place_at⟩ := c.def_ 9 (d := d_place_at) rfl
  have m_place_at := He.glo_ok X Gm (c.fact 9 (f := .glo "place_at") rfl)
  obtain ⟨fd_period_of, F_period_of⟩ := c.def_ 10 (d := d_period_of) rfl
  have m_period_of := He.glo_ok X Gm (c.fact 10 (f := .glo "period_of") rfl)
  obtain ⟨fd_period, F_period⟩ := c.def_ 11 (d := d_period) rfl
  have m_period := He.glo_ok X Gm (c.fact 11 (f := .glo "period") rfl)
  obtain ⟨fd_common_part, F_common_part⟩ := c.def_ 12 (d := d_common_part) rfl
  have m_common_part := He.glo_ok X Gm (c.fact 12 (f := .glo "common_part") rfl)
  obtain ⟨fd_is_inside, F_is_inside⟩ := c.def_ 13 (d := d_is_inside) rfl
  have m_is_inside := He.glo_ok X Gm (c.fact 13 (f := .glo "is_inside") rfl)
  obtain ⟨fd_row_of, F_row_of⟩ := c.def_ 14 (d := d_row_of) rfl
  have m_row_of := He.glo_ok X Gm (c.fact 14 (f := .glo "row_of") rfl)
  obtain ⟨fd_crossings, F_crossings⟩ := c.def_ 15 (d := d_crossings) rfl
  have m_crossings := He.glo_ok X Gm (c.fact 15 (f := .glo "crossings") rfl)
  obtain ⟨fd__law_draw, F__law_draw⟩ := c.def_ 16 (d := d__law_draw) rfl
  have m__law_draw := He.glo_ok X Gm (c.fact 16 (f := .glo "_law_draw") rfl)
  obtain ⟨fd__law_run, F__law_run⟩ := c.def_ 17 (d := d__law_run) rfl
  have m__law_run := He.glo_ok X Gm (c.fact 17 (f := .glo "_law_run") rfl)
  obtain ⟨fd__law_walk, F__law_walk⟩ := c.def_ 18 (d := d__law_walk) rfl
  have m__law_walk := He.glo_ok X Gm (c.fact 18 (f := .glo "_law_walk") rfl)
  obtain ⟨fd_law, F_law⟩ := c.def_ 19 (d := d_law) rfl
  have m_law := He.glo_ok X Gm (c.fact 19 (f := .glo "law") rfl)
  have e := hfa.symm.trans m_law
  cases e
  have b := FunD.bindsA (ps := ["script"]) F_law fun _ _ _ _ _ _ us hl => match us, hl with | [_], _ => rfl
  refine ⟨fd_law, fun s v => b s [v] rfl, fun base _ _ => ?_⟩
  have C_is_count := ok_is_count (P := P) (w := w) (base := base) T  F_is_count m_is_count
  have C_is_run := ok_is_run (P := P) (w := w) (base := base) T C_is_count F_is_run m_is_run
  have C_need_run := ok_need_run (P := P) (w := w) (base := base) T C_is_run F_need_run m_need_run
  have C_common_of := ok_common_of (P := P) (w := w) (base := base) T  F_common_of m_common_of
  have C_lowest := ok_lowest (P := P) (w := w) (base := base) T C_common_of F_lowest m_lowest
  have C_plus := ok_plus (P := P) (w := w) (base := base) T C_lowest F_plus m_plus
  have C_is_less := ok_is_less (P := P) (w := w) (base := base) T  F_is_less m_is_less
  have C_least_multiple := ok_least_multiple (P := P) (w := w) (base := base) T C_common_of C_lowest F_least_multiple m_least_multiple
  have C_fold := ok_fold (P := P) (w := w) (base := base) T C_lowest F_fold m_fold
  have C_place_at := ok_place_at (P := P) (w := w) (base := base) T C_fold F_place_at m_place_at
  have C_period_of := ok_period_of (P := P) (w := w) (base := base) T C_lowest C_least_multiple F_period_of m_period_of
  have C_period := ok_period (P := P) (w := w) (base := base) T C_need_run C_period_of F_period m_period
  have C_common_part := ok_common_part (P := P) (w := w) (base := base) T C_common_of C_lowest F_common_part m_common_part
  have C_is_inside := ok_is_inside (P := P) (w := w) (base := base) T  F_is_inside m_is_inside
  have C_row_of := ok_row_of (P := P) (w := w) (base := base) T C_lowest C_is_less C_plus F_row_of m_row_of
  have C_crossings := ok_crossings (P := P) (w := w) (base := base) T C_need_run C_period_of C_lowest C_common_part C_row_of C_place_at C_is_inside F_crossings m_crossings
  have C__law_draw := ok__law_draw (P := P) (w := w) (base := base) T  F__law_draw m__law_draw
  have C__law_run := ok__law_run (P := P) (w := w) (base := base) T C__law_draw F__law_run m__law_run
  have C__law_walk := ok__law_walk (P := P) (w := w) (base := base) T  F__law_walk m__law_walk
  exact okf_law (P := P) (w := w) (base := base) T C__law_run C_period C_crossings C__law_walk F_law m_law
theorem facts_end : True := trivial
end Bp
open PySem PySem.W PySem.Calls PyProof.Rows
set_option maxRecDepth 100000 in
set_option maxHeartbeats 0 in
theorem PySem.Challenge.cw_bouncepaths_k07_whole_crossings_holds : PySem.Challenge.rw_bouncepaths_k07_whole_crossings.Holds := by
  w_on; o_law
  refine HandSHeadRun.head_any (r := OpenLaw.row PySem.Challenge.rw_bouncepaths_k07_whole_crossings) (q := view (OpenLaw.row PySem.Challenge.rw_bouncepaths_k07_whole_crossings).prog [32]) (H := Bp.hk) (ob := Bp.ob) (M := 6000) (loose := Bp.loose) (d := HandSHeadRun.topDef (OpenLaw.row PySem.Challenge.rw_bouncepaths_k07_whole_crossings).prog 32) (kwd := []) Bp.ob_eq
    (by kernel_rfl) (fun s => by kernel_rfl) Bp.run (by kernel_rfl) (by kernel_rfl) (by kernel_rfl) (by rfl) (by first | assumption | decide +kernel) (by decide +kernel) ⟨rfl, rfl, rfl, rfl, rfl, by decide +kernel⟩ ?hw ?hc
  case hw => w_witness2
  case hc =>
    refine L2.walk_ofE (l := PySem.Challenge.rw_bouncepaths_k07_whole_crossings) (n := 63) (k := 6) (x := "script") (CX := L2.CX0) rfl (by decide) (by kernel_rfl) ⟨rfl, by decide, by decide⟩ ?F (fun _ _ _ _ z => z)
    intro w mg fa h Y G hmg0
    obtain ⟨K, KX, c⟩ := Y
    have hmg : mg ("law" : PySem.Str) = some (.ref fa) := by
      have e : (HandSHeadRun.topDef (OpenLaw.row PySem.Challenge.rw_bouncepaths_k07_whole_crossings).prog 32).name = ("law" : PySem.Str) := by kernel_rfl
      rw [← e]
      exact hmg0
    obtain ⟨fd, hb, hF⟩ := Bp.facts (P := (PySem.Challenge.rw_bouncepaths_k07_whole_crossings).prog) (w := w) KX G hmg c
    exact ⟨K, fd, Bp.spF K Bp.G_law, KX, hb, fun H a ns hl hO hS => Bp.law_sp hO hS, hF⟩
