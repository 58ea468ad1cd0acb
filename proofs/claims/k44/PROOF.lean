import PyProof.Rows.All
import Wide.All
import OpenK.AllK
import Wide.FinOn
import HandS.ForMost
import HandS.Deep
import HandS.Style
import HandS.Wide
import HandS.IsInst
import HandS.SortInts
import HandS.Defaults
import HandS.Head2
import HandS.HeadEnd
import HandS.HeadHook1
import HandS.HeadHook2
import PySem.Challenge.RW_storedfresh_k44_whole_askings_made_one
set_option Elab.async false
set_option linter.all false
set_option maxRecDepth 100000
/-! Iv: a calculus of plain data over the layer. Part 1: data, slots, how they stand in the abstract heap. -/
namespace Iv
open PySem PySem.Spec L2

abbrev D := PyData
/-- a part of a tuple that was just made: frozen data, or a list of its own -/
inductive C where
  | p (d : D)
  | l (ds : List D)
/-- a source of draws: the script's list, how many are read, what is left of a great one, the state -/
structure Fd where
  ns : List Int
  i : Int
  j : Int
  k : Int
/-- what a slot holds: frozen data; a list, a dict of the slot's own (their members frozen); a tuple with lists of its own; the script -/
inductive M where
  | p (d : D)
  | lst (ds : List D)
  | dct (es : List (D × D))
  | tup (cs : List C)
  | scr (ns : List Int)
  | fd (f : Fd)
/-- what an expression gives: a thing of its own; slot j's object; the k-th part of slot j's tuple -/
inductive X where
  | m (x : M)
  | r (j : Nat)
  | rc (j k : Nat)
def C.dat : C → D
  | .p d => d
  | .l ds => .list ds
def M.dat : M → D
  | .p d => d
  | .lst ds => .list ds
  | .dct es => .dict es
  | .tup cs => .tuple (cs.map C.dat)
  | .scr ns => .list (ns.map .int)
  | .fd _ => .none
abbrev En := List (Option M)

/-! ### frozen data in the heap Z -/
def kD : Key → D
  | .inl i => .int i
  | .inr s => .str s
mutual
inductive Rp (Z : Hp) : V → D → Prop
  | non : Rp Z .non .none
  | bl (b : Bool) : Rp Z (.bl b) (.bool b)
  | int (i : Int) : Rp Z (.int i) (.int i)
  | str (x : Str) : Rp Z (.str x) (.str x)
  | lst {a : Addr} {xs : List V} {ds : List D} : Z a = some (.lst xs) → RpA Z xs ds → Rp Z (.ref a) (.list ds)
  | tup {a : Addr} {xs : List V} {ds : List D} : Z a = some (.tup xs) → RpA Z xs ds → Rp Z (.ref a) (.tuple ds)
  | dic {a : Addr} {kvs : List (Key × V)} {es : List (D × D)} : Z a = some (.dK kvs) → RpK Z kvs es → Rp Z (.ref a) (.dict es)
  | diT {a : Addr} {kvs : List (List Key × V)} {es : List (D × D)} : Z a = some (.dT kvs) → RpT Z kvs es → Rp Z (.ref a) (.dict es)
inductive RpA (Z : Hp) : List V → List D → Prop
  | nil : RpA Z [] []
  | cons {v : V} {vs : List V} {d : D} {ds : List D} : Rp Z v d → RpA Z vs ds → RpA Z (v :: vs) (d :: ds)
inductive RpK (Z : Hp) : List (Key × V) → List (D × D) → Prop
  | nil : RpK Z [] []
  | cons {k : Key} {v : V} {kvs : List (Key × V)} {d : D} {es : List (D × D)} : Rp Z v d → RpK Z kvs es → RpK Z ((k, v) :: kvs) ((kD k, d) :: es)
inductive RpT (Z : Hp) : List (List Key × V) → List (D × D) → Prop
  | nil : RpT Z [] []
  | cons {k : List Key} {v : V} {kvs : List (List Key × V)} {d : D} {es : List (D × D)} : Rp Z v d → RpT Z kvs es → RpT Z ((k, v) :: kvs) ((.tuple (k.map kD), d) :: es)
end
/- Z may grow where it was, or away from what the data lean on -/
mutual
theorem Rp.mono' {Z Z' : Hp} (s : ∀ a o, Z a = some o → Z' a = some o) : ∀ {v : V} {d : D}, Rp Z v d → Rp Z' v d
  | _, _, .non => .non
  | _, _, .bl b => .bl b
  | _, _, .int i => .int i
  | _, _, .str x => .str x
  | _, _, .lst h r => .lst (s _ _ h) (RpA.mono' s r)
  | _, _, .tup h r => .tup (s _ _ h) (RpA.mono' s r)
  | _, _, .dic h r => .dic (s _ _ h) (RpK.mono' s r)
  | _, _, .diT h r => .diT (s _ _ h) (RpT.mono' s r)
theorem RpA.mono' {Z Z' : Hp} (s : ∀ a o, Z a = some o → Z' a = some o) : ∀ {v : List V} {d : List D}, RpA Z v d → RpA Z' v d
  | _, _, .nil => .nil
  | _, _, .cons h r => .cons (Rp.mono' s h) (RpA.mono' s r)
theorem RpK.mono' {Z Z' : Hp} (s : ∀ a o, Z a = some o → Z' a = some o) : ∀ {v : List (Key × V)} {d : List (D × D)}, RpK Z v d → RpK Z' v d
  | _, _, .nil => .nil
  | _, _, .cons h r => .cons (Rp.mono' s h) (RpK.mono' s r)
theorem RpT.mono' {Z Z' : Hp} (s : ∀ a o, Z a = some o → Z' a = some o) : ∀ {v : List (List Key × V)} {d : List (D × D)}, RpT Z v d → RpT Z' v d
  | _, _, .nil => .nil
  | _, _, .cons h r => .cons (Rp.mono' s h) (RpT.mono' s r)
end
theorem Rp.mono {Z Z' : Hp} (s : Same Z Z') {v : V} {d : D} (r : Rp Z v d) : Rp Z' v d := r.mono' s
theorem RpA.mono {Z Z' : Hp} (s : Same Z Z') {v : List V} {d : List D} (r : RpA Z v d) : RpA Z' v d := r.mono' s
/- data without lists and dicts -/
mutual
def pure_ : D → Bool
  | .list _ => false
  | .dict _ => false
  | .tuple ds => pureA ds
  | _ => true
def pureA : List D → Bool
  | [] => true
  | d :: ds => pure_ d && pureA ds
end
/- pure data lean on tuples alone -/
mutual
theorem Rp.pure' {Z Z' : Hp} (s : ∀ a xs, Z a = some (.tup xs) → Z' a = some (.tup xs)) : ∀ {v : V} {d : D}, Rp Z v d → pure_ d = true → Rp Z' v d
  | _, _, .non, _ => .non
  | _, _, .bl b, _ => .bl b
  | _, _, .int i, _ => .int i
  | _, _, .str x, _ => .str x
  | _, _, .tup h r, q => .tup (s _ _ h) (RpA.pure' s r (by simpa [pure_] using q))
  | _, _, .lst h r, q => by simp [pure_] at q
  | _, _, .dic h r, q => by simp [pure_] at q
  | _, _, .diT h r, q => by simp [pure_] at q
theorem RpA.pure' {Z Z' : Hp} (s : ∀ a xs, Z a = some (.tup xs) → Z' a = some (.tup xs)) : ∀ {v : List V} {d : List D}, RpA Z v d → pureA d = true → RpA Z' v d
  | _, _, .nil, _ => .nil
  | _, _, .cons h r, q => by
    have q' := Bool.and_eq_true_iff.mp (by simpa [pureA] using q)
    exact .cons (Rp.pure' s h q'.1) (RpA.pure' s r q'.2)
end
/- data of lists and tuples alone -/
mutual
def noDic : D → Bool
  | .list ds => noDicA ds
  | .dict _ => false
  | .tuple ds => noDicA ds
  | _ => true
def noDicA : List D → Bool
  | [] => true
  | d :: ds => noDic d && noDicA ds
end
mutual
theorem Rp.dp {K : PySem.W.Frag} {Z H : Hp} (s : Same Z H) : ∀ {v : V} {d : D}, Rp Z v d → noDic d = true → Dp K H v d
  | _, _, .non, _ => .non
  | _, _, .bl b, _ => .bl b
  | _, _, .int i, _ => .int i
  | _, _, .str x, _ => .str x
  | _, _, .tup h r, q => .tup (SqT.of (s _ _ h)) (RpA.dp s r (by simpa [noDic] using q))
  | _, _, .lst h r, q => .lst (SqL.of (s _ _ h)) (RpA.dp s r (by simpa [noDic] using q))
  | _, _, .dic h r, q => by simp [noDic] at q
  | _, _, .diT h r, q => by simp [noDic] at q
theorem RpA.dp {K : PySem.W.Frag} {Z H : Hp} (s : Same Z H) : ∀ {v : List V} {d : List D}, RpA Z v d → noDicA d = true → DpAll K H v d
  | _, _, .nil, _ => .nil
  | _, _, .cons h r, q => by
    have q' := Bool.and_eq_true_iff.mp (by simpa [noDicA] using q)
    exact .cons (Rp.dp s h q'.1) (RpA.dp s r q'.2)
end
theorem RpA.length {Z : Hp} : ∀ {vs : List V} {ds : List D}, RpA Z vs ds → vs.length = ds.length
  | _, _, .nil => rfl
  | _, _, .cons _ r => by simp [r.length]
theorem RpA.get {Z : Hp} : ∀ {vs : List V} {ds : List D}, RpA Z vs ds → ∀ {i : Nat} {d : D}, ds[i]? = some d → ∃ v, vs[i]? = some v ∧ Rp Z v d
  | _, _, .nil, i, d, e => by simp at e
  | _, _, .cons h r, 0, d, e => by simp at e; subst e; exact ⟨_, rfl, h⟩
  | _, _, .cons h r, i + 1, d, e => by
    obtain ⟨v, e1, r1⟩ := r.get (i := i) (by simpa using e)
    exact ⟨v, by simpa using e1, r1⟩
theorem RpA.get' {Z : Hp} : ∀ {vs : List V} {ds : List D}, RpA Z vs ds → ∀ {i : Nat} {v : V}, vs[i]? = some v → ∃ d, ds[i]? = some d ∧ Rp Z v d
  | _, _, .nil, i, d, e => by simp at e
  | _, _, .cons h r, 0, d, e => by simp at e; subst e; exact ⟨_, rfl, h⟩
  | _, _, .cons h r, i + 1, d, e => by
    obtain ⟨v, e1, r1⟩ := r.get' (i := i) (by simpa using e)
    exact ⟨v, by simpa using e1, r1⟩
theorem RpA.append {Z : Hp} : ∀ {vs ws : List V} {ds es : List D}, RpA Z vs ds → RpA Z ws es → RpA Z (vs ++ ws) (ds ++ es)
  | _, _, _, _, .nil, q => q
  | _, _, _, _, .cons h r, q => .cons h (r.append q)
theorem RpA.set {Z : Hp} {v : V} {d : D} (q : Rp Z v d) : ∀ {vs : List V} {ds : List D}, RpA Z vs ds → ∀ i, RpA Z (vs.set i v) (ds.set i d)
  | _, _, .nil, _ => .nil
  | _, _, .cons h r, 0 => .cons q r
  | _, _, .cons h r, i + 1 => .cons h (r.set q i)
theorem RpA.take {Z : Hp} : ∀ {vs : List V} {ds : List D}, RpA Z vs ds → ∀ n, RpA Z (vs.take n) (ds.take n)
  | _, _, _, 0 => by simp; exact .nil
  | _, _, .nil, _ + 1 => .nil
  | _, _, .cons h r, n + 1 => .cons h (r.take n)
theorem RpA.drop {Z : Hp} : ∀ {vs : List V} {ds : List D}, RpA Z vs ds → ∀ n, RpA Z (vs.drop n) (ds.drop n)
  | _, _, r, 0 => r
  | _, _, .nil, _ + 1 => .nil
  | _, _, .cons h r, n + 1 => r.drop n
theorem RpA.eraseIdx {Z : Hp} : ∀ {vs : List V} {ds : List D}, RpA Z vs ds → ∀ i, RpA Z (vs.eraseIdx i) (ds.eraseIdx i)
  | _, _, .nil, _ => .nil
  | _, _, .cons h r, 0 => r
  | _, _, .cons h r, i + 1 => .cons h (r.eraseIdx i)
theorem RpA.reverse {Z : Hp} : ∀ {vs : List V} {ds : List D}, RpA Z vs ds → RpA Z vs.reverse ds.reverse
  | _, _, .nil => .nil
  | _, _, .cons h r => by simp only [List.reverse_cons]; exact r.reverse.append (.cons h .nil)
theorem RpA.ints {Z : Hp} : ∀ {vs : List V} {ns : List Int}, RpA Z vs (ns.map .int) → vs = ns.map V.int
  | _, [], .nil => rfl
  | _, _ :: _, .cons (.int i) r => by simp [r.ints]
theorem RpA.of_ints {Z : Hp} : ∀ (ns : List Int), RpA Z (ns.map V.int) (ns.map .int)
  | [] => .nil
  | n :: ns => .cons (.int n) (RpA.of_ints ns)

/-! ### what a slot holds -/
def RC (Z H : Hp) : C → V → List Addr → Prop
  | .p d, v, A => Rp Z v d ∧ A = []
  | .l ds, v, A => ∃ a vs, v = .ref a ∧ A = [a] ∧ H a = some (.lst vs) ∧ RpA Z vs ds
def RCs (Z H : Hp) : List C → List V → List Addr → Prop
  | [], [], A => A = []
  | c :: cs, v :: vs, A => ∃ A1 A2, RC Z H c v A1 ∧ RCs Z H cs vs A2 ∧ A = A1 ++ A2
  | _, _, _ => False
/-- K: the written part (for the script alone) -/
def RM (K : PySem.W.Frag) (Z H : Hp) : M → V → List Addr → Prop
  | .p d, v, A => Rp Z v d ∧ A = []
  | .lst ds, v, A => ∃ a vs, v = .ref a ∧ A = [a] ∧ H a = some (.lst vs) ∧ RpA Z vs ds
  | .dct es, v, A => ∃ a, v = .ref a ∧ A = [a] ∧ ((∃ kvs, H a = some (.dK kvs) ∧ RpK Z kvs es) ∨ ∃ kvs, H a = some (.dT kvs) ∧ RpT Z kvs es)
  | .tup cs, v, A => ∃ t vs, v = .ref t ∧ H t = some (.tup vs) ∧ RCs Z H cs vs A
  | .scr ns, v, A => ∃ a, v = .ref a ∧ A = [] ∧ SqL K Z a (ns.map V.int)
  | .fd f, v, A => ∃ a b, v = .ref a ∧ A = [a, b] ∧ H a = some (.lst [.ref b, .int f.i, .int f.j, .int f.k]) ∧ H b = some (.lst (f.ns.map V.int))
/-- may be owned -/
def Own : HO → Prop
  | .lst _ => True
  | .dK _ => True
  | .dT _ => True
  | _ => False
section
variable {K : PySem.W.Frag} {Z Z' H H' : Hp}
theorem RC.own {c : C} {v : V} {A : List Addr} (r : RC Z H c v A) : ∀ a ∈ A, ∃ o, H a = some o ∧ Own o := by
  cases c with
  | p d => obtain ⟨_, rfl⟩ := r; intro a h; cases h
  | l ds =>
    obtain ⟨a, vs, rfl, rfl, h, _⟩ := r
    intro b hb
    obtain rfl : b = a := by simpa using hb
    exact ⟨_, h, trivial⟩
theorem RCs.own : ∀ {cs : List C} {vs : List V} {A : List Addr}, RCs Z H cs vs A → ∀ a ∈ A, ∃ o, H a = some o ∧ Own o
  | [], [], A, r, a, h => by obtain rfl : A = [] := r; cases h
  | c :: cs, v :: vs, A, r, a, h => by
    obtain ⟨A1, A2, r1, r2, rfl⟩ := r
    rcases List.mem_append.mp h with h | h
    · exact r1.own a h
    · exact r2.own a h
  | [], _ :: _, _, r, _, _ => r.elim
  | _ :: _, [], _, r, _, _ => r.elim
theorem RM.own {m : M} {v : V} {A : List Addr} (r : RM K Z H m v A) : ∀ a ∈ A, ∃ o, H a = some o ∧ Own o := by
  cases m with
  | p d => obtain ⟨_, rfl⟩ := r; intro a h; cases h
  | lst ds =>
    obtain ⟨a, vs, rfl, rfl, h, _⟩ := r
    intro b hb
    obtain rfl : b = a := by simpa using hb
    exact ⟨_, h, trivial⟩
  | dct es =>
    obtain ⟨a, rfl, rfl, h⟩ := r
    intro b hb
    obtain rfl : b = a := by simpa using hb
    rcases h with ⟨kvs, h, _⟩ | ⟨kvs, h, _⟩ <;> exact ⟨_, h, trivial⟩
  | tup cs =>
    obtain ⟨t, vs, rfl, h, r⟩ := r
    exact r.own
  | scr ns => obtain ⟨a, rfl, rfl, _⟩ := r; intro a h; cases h
  | fd f =>
    obtain ⟨a, b, rfl, rfl, h1, h2⟩ := r
    intro c hc
    have hc' : c = a ∨ c = b := by simpa using hc
    rcases hc' with rfl | rfl
    · exact ⟨_, h1, trivial⟩
    · exact ⟨_, h2, trivial⟩
theorem RC.keep {c : C} {v : V} {A : List Addr} (r : RC Z H c v A) (z : Same Z Z') (k : ∀ a ∈ A, ∀ o, H a = some o → H' a = some o) : RC Z' H' c v A := by
  cases c with
  | p d => exact ⟨r.1.mono z, r.2⟩
  | l ds =>
    obtain ⟨a, vs, rfl, rfl, h, q⟩ := r
    exact ⟨a, vs, rfl, rfl, k a (by simp) _ h, q.mono z⟩
theorem RCs.keep : ∀ {cs : List C} {vs : List V} {A : List Addr}, RCs Z H cs vs A → Same Z Z' → (∀ a ∈ A, ∀ o, H a = some o → H' a = some o) → RCs Z' H' cs vs A
  | [], [], A, r, _, _ => r
  | c :: cs, v :: vs, A, r, z, k => by
    obtain ⟨A1, A2, r1, r2, rfl⟩ := r
    exact ⟨A1, A2, r1.keep z fun a h => k a (List.mem_append_left _ h), r2.keep z fun a h => k a (List.mem_append_right _ h), rfl⟩
  | [], _ :: _, _, r, _, _ => r.elim
  | _ :: _, [], _, r, _, _ => r.elim
/-- kept where its own objects and all tuples are kept -/
theorem RM.keep {m : M} {v : V} {A : List Addr} (r : RM K Z H m v A) (z : Same Z Z') (k : ∀ a ∈ A, ∀ o, H a = some o → H' a = some o) (t : ∀ a xs, H a = some (.tup xs) → H' a = some (.tup xs)) : RM K Z' H' m v A := by
  cases m with
  | p d => exact ⟨r.1.mono z, r.2⟩
  | lst ds =>
    obtain ⟨a, vs, rfl, rfl, h, q⟩ := r
    exact ⟨a, vs, rfl, rfl, k a (by simp) _ h, q.mono z⟩
  | dct es =>
    obtain ⟨a, rfl, rfl, h⟩ := r
    refine ⟨a, rfl, rfl, ?_⟩
    rcases h with ⟨kvs, h, q⟩ | ⟨kvs, h, q⟩
    · exact .inl ⟨kvs, k a (by simp) _ h, q.mono' z⟩
    · exact .inr ⟨kvs, k a (by simp) _ h, q.mono' z⟩
  | tup cs =>
    obtain ⟨a, vs, rfl, h, q⟩ := r
    exact ⟨a, vs, rfl, t _ _ h, q.keep z k⟩
  | scr ns =>
    obtain ⟨a, rfl, rfl, h⟩ := r
    exact ⟨a, rfl, rfl, z.seq h⟩
  | fd f =>
    obtain ⟨a, b, rfl, rfl, h1, h2⟩ := r
    exact ⟨a, b, rfl, rfl, k a (by simp) _ h1, k b (by simp) _ h2⟩
/-- as data, read in a heap that holds both -/
theorem RC.rp {c : C} {v : V} {A : List Addr} (r : RC Z H c v A) (z : Same Z Z') (k : ∀ a ∈ A, ∀ o, H a = some o → Z' a = some o) : Rp Z' v c.dat := by
  cases c with
  | p d => exact r.1.mono z
  | l ds =>
    obtain ⟨a, vs, rfl, rfl, h, q⟩ := r
    exact .lst (k a (by simp) _ h) (q.mono z)
theorem RCs.rp : ∀ {cs : List C} {vs : List V} {A : List Addr}, RCs Z H cs vs A → Same Z Z' → (∀ a ∈ A, ∀ o, H a = some o → Z' a = some o) → RpA Z' vs (cs.map C.dat)
  | [], [], A, r, _, _ => .nil
  | c :: cs, v :: vs, A, r, z, k => by
    obtain ⟨A1, A2, r1, r2, rfl⟩ := r
    exact .cons (r1.rp z fun a h => k a (List.mem_append_left _ h)) (r2.rp z fun a h => k a (List.mem_append_right _ h))
  | [], _ :: _, _, r, _, _ => r.elim
  | _ :: _, [], _, r, _, _ => r.elim
/-- not the script, no source of draws -/
def M.ok : M → Bool
  | .scr _ => false
  | .fd _ => false
  | _ => true
theorem RM.rp {m : M} {v : V} {A : List Addr} (r : RM K Z H m v A) (o : m.ok = true) (z : Same Z Z') (k : ∀ a ∈ A, ∀ o, H a = some o → Z' a = some o) (t : ∀ a xs, H a = some (.tup xs) → Z' a = some (.tup xs)) : Rp Z' v m.dat := by
  cases m with
  | p d => exact r.1.mono z
  | lst ds =>
    obtain ⟨a, vs, rfl, rfl, h, q⟩ := r
    exact .lst (k a (by simp) _ h) (q.mono z)
  | dct es =>
    obtain ⟨a, rfl, rfl, h⟩ := r
    rcases h with ⟨kvs, h, q⟩ | ⟨kvs, h, q⟩
    · exact .dic (k a (by simp) _ h) (q.mono' z)
    · exact .diT (k a (by simp) _ h) (q.mono' z)
  | tup cs =>
    obtain ⟨a, vs, rfl, h, q⟩ := r
    exact .tup (t a vs h) (q.rp z k)
  | scr ns => cases o
  | fd f => cases o
end
end Iv

set_option Elab.async false
set_option linter.all false
set_option maxRecDepth 100000
/-! Iv, part 2: slots, steps, the judgements. -/
namespace Iv
open PySem PySem.Spec L2

/-- the slots ρ stand in the slots σ; slot i owns the objects at F i -/
structure RS (K : PySem.W.Frag) (Z H : Hp) (ρ : En) (σ : St) (F : Nat → List Addr) : Prop where
  len : ρ.length = σ.length
  zh : Same Z H
  rep : ∀ i m, ρ[i]? = some (some m) → ∃ v, σ[i]? = some (some v) ∧ RM K Z H m v (F i)
  emp : ∀ i, (∀ m, ρ[i]? ≠ some (some m)) → F i = []
  dis : ∀ i j a, a ∈ F i → a ∈ F j → i = j
  nod : ∀ i, (F i).Nodup
  zfr : ∀ i a, a ∈ F i → Z a = none
abbrev Ow (F : Nat → List Addr) (a : Addr) : Prop := ∃ i, a ∈ F i
/-- from (Z, H), where O is owned, the run came to (ρ', Z', H', F') -/
structure Mid (K : PySem.W.Frag) (Z H : Hp) (O : Addr → Prop) (σ' : St) (ρ' : En) (Z' H' : Hp) (F' : Nat → List Addr) : Prop where
  rs : RS K Z' H' ρ' σ' F'
  zz : Same Z Z'
  new : ∀ a, Ow F' a → O a ∨ H a = none
  fro : ∀ a, Z' a ≠ none → Z a ≠ none ∨ O a ∨ H a = none ∨ ∃ xs, H a = some (.tup xs)
  frm : ∀ a o, H a = some o → ¬ O a → H' a = some o
section
variable {K : PySem.W.Frag} {Z Z' Z1 Z2 H H' H1 H2 : Hp} {ρ ρ' ρ1 ρ2 : En} {σ σ' σ1 σ2 : St} {F F' F1 F2 : Nat → List Addr} {O : Addr → Prop}
theorem RS.own (r : RS K Z H ρ σ F) {a : Addr} (h : Ow F a) : ∃ o, H a = some o ∧ Own o := by
  obtain ⟨i, h⟩ := h
  by_cases hm : ∃ m, ρ[i]? = some (some m)
  · obtain ⟨m, e⟩ := hm
    obtain ⟨v, _, q⟩ := r.rep i m e
    exact q.own a h
  · rw [r.emp i fun m e => hm ⟨m, e⟩] at h
    cases h
theorem RS.notup (r : RS K Z H ρ σ F) {a : Addr} {xs : List V} (h : H a = some (.tup xs)) : ¬ Ow F a := fun q => by
  obtain ⟨o, e, w⟩ := r.own q
  rw [h] at e
  cases e
  exact w
theorem RS.zfr' (r : RS K Z H ρ σ F) {a : Addr} (h : Ow F a) : Z a = none := let ⟨i, h⟩ := h; r.zfr i a h
theorem RS.refl (r : RS K Z H ρ σ F) : Mid K Z H (Ow F) σ ρ Z H F := ⟨r, Same.refl _, fun a h => .inl h, fun a h => .inl h, fun _ _ h _ => h⟩
theorem Mid.back (a : Mid K Z H O σ1 ρ1 Z1 H1 F1) {x : Addr} (h : H1 x = none) : O x ∨ H x = none := by
  by_cases q : O x
  · exact .inl q
  · cases e : H x with
    | none => exact .inr rfl
    | some o => rw [a.frm x o e q] at h; cases h
theorem Mid.trans (a : Mid K Z H O σ1 ρ1 Z1 H1 F1) (b : Mid K Z1 H1 (Ow F1) σ2 ρ2 Z2 H2 F2) : Mid K Z H O σ2 ρ2 Z2 H2 F2 := by
  refine ⟨b.rs, a.zz.trans b.zz, fun x h => ?_, fun x h => ?_, fun x o h q => ?_⟩
  · rcases b.new x h with h | h
    · exact a.new x h
    · exact a.back h
  · rcases b.fro x h with h | h | h | ⟨xs, h⟩
    · exact a.fro x h
    · rcases a.new x h with h | h
      · exact .inr (.inl h)
      · exact .inr (.inr (.inl h))
    · rcases a.back h with h | h
      · exact .inr (.inl h)
      · exact .inr (.inr (.inl h))
    · by_cases q : O x
      · exact .inr (.inl q)
      · cases e : H x with
        | none => exact .inr (.inr (.inl rfl))
        | some o =>
          have z := a.frm x o e q
          rw [h] at z
          cases z
          exact .inr (.inr (.inr ⟨xs, rfl⟩))
  · refine b.frm x o (a.frm x o h q) fun z => ?_
    rcases a.new x z with z | z
    · exact q z
    · rw [h] at z; cases z
/-- a tuple is kept -/
theorem Mid.tups (hO : ∀ a xs, H a = some (.tup xs) → ¬ O a) (a : Mid K Z H O σ' ρ' Z' H' F') : ∀ x xs, H x = some (.tup xs) → H' x = some (.tup xs) := fun x xs h => a.frm x _ h (hO x xs h)

/-- what x tells, in the slots as they stand -/
def X.res : X → En → Option M
  | .m x, _ => if x.ok = true then some x else none
  | .r j, ρ => match ρ[j]? with
    | some (some q) => if q.ok = true then some q else none
    | _ => none
  | .rc j k, ρ => match ρ[j]? with
    | some (some (.tup cs)) => match cs[k]? with
      | some (.p d) => some (.p d)
      | some (.l ds) => some (.lst ds)
      | none => none
    | some (some (.p (.tuple ds))) => match ds[k]? with
      | some d => some (.p d)
      | none => none
    | _ => none
/-- the value v is what x tells; a thing of its own owns the objects at A -/
def RX (K : PySem.W.Frag) (Z H : Hp) (F : Nat → List Addr) (σ : St) : X → V → List Addr → Prop
  | .m m, v, A => RM K Z H m v A ∧ A.Nodup ∧ ∀ a ∈ A, Z a = none ∧ ¬ Ow F a
  | .r j, v, A => A = [] ∧ σ[j]? = some (some v)
  | .rc j k, v, A => A = [] ∧ ∃ t vs, σ[j]? = some (some (.ref t)) ∧ H t = some (.tup vs) ∧ vs[k]? = some v
theorem RCs.get {Z H : Hp} : ∀ {cs : List C} {vs : List V} {A : List Addr}, RCs Z H cs vs A → ∀ {k : Nat} {c : C} {v : V}, cs[k]? = some c → vs[k]? = some v → ∃ B, RC Z H c v B ∧ ∀ b ∈ B, b ∈ A
  | [], [], A, r, k, c, v, h, _ => by simp at h
  | c :: cs, v :: vs, A, r, 0, c', v', h1, h2 => by
    obtain ⟨A1, A2, r1, r2, rfl⟩ := r
    simp at h1 h2
    subst h1 h2
    exact ⟨A1, r1, fun b h => List.mem_append_left _ h⟩
  | c :: cs, v :: vs, A, r, k + 1, c', v', h1, h2 => by
    obtain ⟨A1, A2, r1, r2, rfl⟩ := r
    obtain ⟨B, q, s⟩ := r2.get (k := k) (by simpa using h1) (by simpa using h2)
    exact ⟨B, q, fun b h => List.mem_append_right _ (s b h)⟩
  | [], _ :: _, _, r, _, _, _, _, _ => r.elim
  | _ :: _, [], _, r, _, _, _, _, _ => r.elim
/-- the slot that x looks at -/
def X.sl : X → Option Nat
  | .m _ => none
  | .r j => some j
  | .rc j _ => some j
theorem RX.rm {x : X} {v : V} {A : List Addr} {m : M} (h : RX K Z H F σ x v A) (r : RS K Z H ρ σ F) (e : x.res ρ = some m) : m.ok = true ∧ ∃ B, RM K Z H m v B ∧ ∀ b ∈ B, b ∈ A ∨ ∃ j, x.sl = some j ∧ b ∈ F j := by
  cases x with
  | m m' =>
    simp only [X.res] at e
    split at e
    · cases e
      exact ⟨by assumption, A, h.1, fun b h => .inl h⟩
    · cases e
  | r j =>
    simp only [X.res] at e
    split at e
    · rename_i m' e'
      split at e
      · cases e
        obtain ⟨v', e1, q⟩ := r.rep j _ e'
        obtain ⟨_, e2⟩ := h
        rw [e1] at e2
        cases e2
        exact ⟨by assumption, F j, q, fun b h => .inr ⟨j, rfl, h⟩⟩
      · cases e
    · cases e
  | rc j k =>
    obtain ⟨rfl, t, vs, e2, ht, hv⟩ := h
    simp only [X.res] at e
    split at e
    · rename_i cs e'
      obtain ⟨v', e1, t', vs', e3, ht', q⟩ := r.rep j _ e'
      rw [e2] at e1
      cases e1
      cases e3
      rw [ht] at ht'
      cases ht'
      split at e
      · rename_i d ec
        cases e
        obtain ⟨B, q, s⟩ := q.get ec hv
        exact ⟨rfl, B, q, fun b h => .inr ⟨j, rfl, s b h⟩⟩
      · rename_i ds ec
        cases e
        obtain ⟨B, q, s⟩ := q.get ec hv
        exact ⟨rfl, B, q, fun b h => .inr ⟨j, rfl, s b h⟩⟩
      · cases e
    · rename_i ds e'
      obtain ⟨v', e1, q, _⟩ := r.rep j _ e'
      rw [e2] at e1
      cases e1
      cases q with
      | tup h q =>
        have h' := r.zh _ _ h
        rw [ht] at h'
        cases h'
        split at e
        · rename_i d ed
          cases e
          obtain ⟨u, e4, q'⟩ := q.get ed
          rw [hv] at e4
          cases e4
          exact ⟨rfl, [], ⟨q', rfl⟩, fun b h => by cases h⟩
        · cases e
    · cases e
theorem X.res_ok {x : X} {m : M} {j : Nat} (e : x.res ρ = some m) (hj : x.sl = some j) : ∀ q, ρ[j]? = some (some q) → q.ok = true := by
  intro q hq
  cases x with
  | m x => cases hj
  | r i =>
    cases hj
    simp only [X.res, hq] at e
    split at e
    · assumption
    · cases e
  | rc i k =>
    cases hj
    cases q <;> first | rfl | (simp [X.res, hq] at e)
theorem RX.ownA {x : X} {v : V} {A : List Addr} (h : RX K Z H F σ x v A) : ∀ a ∈ A, (∃ o, H a = some o ∧ Own o) ∧ Z a = none ∧ ¬ Ow F a := by
  cases x with
  | m m => exact fun a ha => ⟨h.1.own a ha, h.2.2 a ha⟩
  | r j => obtain ⟨rfl, _⟩ := h; intro a ha; cases ha
  | rc j k => obtain ⟨rfl, _⟩ := h; intro a ha; cases ha
theorem RX.keep {x : X} {v : V} {A : List Addr} (h : RX K Z H F σ x v A) (r : RS K Z H ρ σ F) (a : Mid K Z H (Ow F) σ ρ' Z' H' F') : RX K Z' H' F' σ x v A := by
  cases x with
  | m m =>
    obtain ⟨q, nd, k⟩ := h
    have kk : ∀ b ∈ A, ∀ o, H b = some o → H' b = some o := fun b hb o e => a.frm b o e (k b hb).2
    refine ⟨q.keep a.zz kk (a.tups fun _ _ => r.notup), nd, fun b hb => ?_⟩
    obtain ⟨o, e, w⟩ := q.own b hb
    refine ⟨?_, fun z => ?_⟩
    · cases ez : Z' b with
      | none => rfl
      | some u =>
        rcases a.fro b (by rw [ez]; simp) with q | q | q | ⟨xs, q⟩
        · exact absurd (k b hb).1 q
        · exact absurd q (k b hb).2
        · rw [e] at q; cases q
        · rw [e] at q; cases q; exact w.elim
    · rcases a.new b z with q | q
      · exact (k b hb).2 q
      · rw [e] at q; cases q
  | r j => exact h
  | rc j k =>
    obtain ⟨e, t, vs, e1, ht, hv⟩ := h
    exact ⟨e, t, vs, e1, a.tups (fun _ _ => r.notup) t vs ht, hv⟩

/-- what an expression's run came to -/
structure End (K : PySem.W.Frag) (Z H : Hp) (F : Nat → List Addr) (σ : St) (ρ' : En) (x : X) (v : V) (Z' H' : Hp) (F' : Nat → List Addr) (A : List Addr) : Prop where
  mid : Mid K Z H (Ow F) σ ρ' Z' H' F'
  rx : RX K Z' H' F' σ x v A
  nw : ∀ a ∈ A, Ow F a ∨ H a = none
theorem Mid.then {x : X} {v : V} {A : List Addr} (a : Mid K Z H (Ow F) σ ρ1 Z1 H1 F1) (b : End K Z1 H1 F1 σ ρ2 x v Z2 H2 F2 A) : End K Z H F σ ρ2 x v Z2 H2 F2 A :=
  ⟨a.trans b.mid, b.rx, fun y h => by
    rcases b.nw y h with q | q
    · exact a.new y q
    · exact a.back q⟩

/-- a new thing m stands at w, nothing else changed -/
structure Res (K : PySem.W.Frag) (Z H : Hp) (m : M) (w : V) (Z' H' : Hp) (A : List Addr) : Prop where
  rm : RM K Z' H' m w A
  nd : A.Nodup
  zz : Same Z Z'
  hh : Same H H'
  zh : Same Z' H'
  new : ∀ a ∈ A, H a = none ∧ Z' a = none
  fro : ∀ a, Z' a ≠ none → Z a ≠ none ∨ H a = none
theorem RS.grow (r : RS K Z H ρ σ F) (zz : Same Z Z') (hh : Same H H') (zh : Same Z' H') (fro : ∀ a, Z' a ≠ none → Z a ≠ none ∨ H a = none) : Mid K Z H (Ow F) σ ρ Z' H' F := by
  have own : ∀ {a}, Ow F a → H a ≠ none := fun h => by
    obtain ⟨o, e, _⟩ := r.own h
    rw [e]; simp
  refine ⟨⟨r.len, zh, fun i m e => ?_, r.emp, r.dis, r.nod, fun i a h => ?_⟩, zz, fun a h => .inl h, fun a h => ?_, fun a o h _ => hh a o h⟩
  · obtain ⟨v, e1, k⟩ := r.rep i m e
    exact ⟨v, e1, k.keep zz (fun a _ o e => hh a o e) fun a _ e => hh a _ e⟩
  · cases e : Z' a with
    | none => rfl
    | some o =>
      rcases fro a (by rw [e]; simp) with z | z
      · exact absurd (r.zfr i a h) z
      · exact absurd z (own ⟨i, h⟩)
  · rcases fro a h with z | z
    · exact .inl z
    · exact .inr (.inr (.inl z))
theorem Res.fin {m : M} {w : V} {A : List Addr} (q : Res K Z H m w Z' H' A) (r : RS K Z H ρ σ F) : End K Z H F σ ρ (.m m) w Z' H' F A := by
  have e := r.grow q.zz q.hh q.zh q.fro
  refine ⟨e, ⟨q.rm, q.nd, fun a h => ⟨(q.new a h).2, fun z => ?_⟩⟩, fun a h => .inr (q.new a h).1⟩
  obtain ⟨o, e, _⟩ := r.own z
  rw [(q.new a h).1] at e
  cases e
/-- nothing new: frozen data -/
theorem Res.pure {d : D} {w : V} (zh : Same Z H) (h : Rp Z w d) : Res K Z H (.p d) w Z H [] :=
  ⟨⟨h, rfl⟩, List.nodup_nil, Same.refl _, Same.refl _, zh, (fun a h => by cases h), fun a h => .inl h⟩
theorem same_upd {p : Addr} {o : HO} (h : H p = none) : Same H (upd H p o) := fun b x e => by rw [upd_ne (ne_of_none e h)]; exact e
theorem Same.upd_r {p : Addr} {o : HO} (s : Same Z H) (h : H p = none) : Same Z (upd H p o) := fun b x e => by rw [upd_ne (ne_of_none (s b x e) h)]; exact s b x e
theorem Same.upd_b {p : Addr} {o : HO} (s : Same Z H) : Same (upd Z p o) (upd H p o) := fun b x e => by
  by_cases q : b = p
  · subst q; rw [upd_same] at e ⊢; exact e
  · rw [upd_ne q] at e ⊢; exact s b x e
theorem Same.none (s : Same Z H) {p : Addr} (h : H p = Option.none) : Z p = Option.none := s.free h
/-- a new list -/
theorem Res.list {p : Addr} {vs : List V} {ds : List D} (zh : Same Z H) (h : H p = none) (r : RpA Z vs ds) : Res K Z H (.lst ds) (.ref p) Z (upd H p (.lst vs)) [p] :=
  ⟨⟨p, vs, rfl, rfl, upd_same, r⟩, by simp, Same.refl _, same_upd h, Same.upd_r zh h, (fun a q => by
    obtain rfl : a = p := by simpa using q
    exact ⟨h, Same.none zh h⟩), fun a q => .inl q⟩
/-- a new tuple of frozen data -/
theorem Res.tuple {p : Addr} {vs : List V} {ds : List D} (zh : Same Z H) (h : H p = none) (r : RpA Z vs ds) : Res K Z H (.p (.tuple ds)) (.ref p) (upd Z p (.tup vs)) (upd H p (.tup vs)) [] :=
  ⟨⟨.tup upd_same (r.mono (same_upd (Same.none zh h))), rfl⟩, List.nodup_nil, same_upd (Same.none zh h), same_upd h, Same.upd_b zh, (fun a q => by cases q), fun a q => by
    by_cases e : a = p
    · subst e; exact .inr h
    · rw [upd_ne e] at q; exact .inl q⟩

/-! ### freezing -/
open Classical in
/-- Z and what S tells of H, and all tuples -/
noncomputable def Zx (Z H : Hp) (S : Addr → Prop) : Hp := fun a => match Z a with
  | some o => some o
  | none => if S a ∨ ∃ xs, H a = some (.tup xs) then H a else none
theorem Zx.zz {S : Addr → Prop} : Same Z (Zx Z H S) := fun a o e => by unfold Zx; rw [e]
theorem Zx.zh {S : Addr → Prop} (s : Same Z H) : Same (Zx Z H S) H := fun a o e => by
  unfold Zx at e
  cases q : Z a with
  | some u => rw [q] at e; cases e; exact s a o q
  | none =>
    rw [q] at e
    dsimp only at e
    split at e
    · exact e
    · cases e
theorem Zx.at {S : Addr → Prop} (s : Same Z H) {a : Addr} {o : HO} (h : H a = some o) (hs : S a ∨ ∃ xs, H a = some (.tup xs)) : Zx Z H S a = some o := by
  unfold Zx
  cases q : Z a with
  | some u => dsimp only; rw [← s a u q, h]
  | none => dsimp only; rw [if_pos hs, h]
theorem Zx.fro {S : Addr → Prop} {a : Addr} (h : Zx Z H S a ≠ none) : Z a ≠ none ∨ S a ∨ ∃ xs, H a = some (.tup xs) := by
  unfold Zx at h
  cases q : Z a with
  | some u => exact .inl (by simp)
  | none =>
    rw [q] at h
    dsimp only at h
    split at h
    · exact .inr (by assumption)
    · exact absurd rfl h
/-- a thing of its own becomes frozen data -/
theorem RM.frozen {S : Addr → Prop} {m : M} {v : V} {B : List Addr} (r : RM K Z H m v B) (ok : m.ok = true) (s : Same Z H) (hb : ∀ b ∈ B, S b ∨ Z b ≠ none) : Rp (Zx Z H S) v m.dat := by
  refine r.rp ok Zx.zz (fun a ha o e => ?_) fun a xs e => Zx.at s e (.inr ⟨xs, e⟩)
  rcases hb a ha with q | q
  · exact Zx.at s e (.inl q)
  · cases ez : Z a with
    | none => exact absurd ez q
    | some u =>
      have e2 := s a u ez
      rw [e] at e2
      cases e2
      exact Zx.zz a _ ez
/-- slot j's thing, frozen -/
def frz (j : Nat) (ρ : En) : En := match ρ[j]? with
  | some (some m) => if m.ok = true then ρ.set j (some (.p m.dat)) else ρ
  | _ => ρ
theorem frz_len (j : Nat) (ρ : En) : (frz j ρ).length = ρ.length := by
  unfold frz
  split
  · split <;> simp
  · rfl
/-- a part S that some slots J own whole (or that no slot owns) is frozen, its slots with it -/
theorem RS.frz1 (r : RS K Z H ρ σ F) (j : Nat) (hok : ∀ m, ρ[j]? = some (some m) → m.ok = true) : ∃ F', Mid K Z H (Ow F) σ (frz j ρ) (Zx Z H fun a => a ∈ F j) H F' := by
  cases e : ρ[j]? with
  | none =>
    have hj : F j = [] := r.emp j fun m q => by rw [e] at q; cases q
    have e1 : frz j ρ = ρ := by unfold frz; rw [e]
    rw [e1]
    refine ⟨F, ?_⟩
    refine ⟨⟨r.len, Zx.zh r.zh, fun i m q => ?_, r.emp, r.dis, r.nod, fun i a h => ?_⟩, Zx.zz, fun a h => .inl h, fun a h => ?_, fun _ _ h _ => h⟩
    · obtain ⟨v, e1, k⟩ := r.rep i m q
      exact ⟨v, e1, k.keep Zx.zz (fun _ _ _ e => e) fun _ _ e => e⟩
    · cases q : Zx Z H (fun a => a ∈ F j) a with
      | none => rfl
      | some o =>
        rcases Zx.fro (by rw [q]; simp : Zx Z H (fun a => a ∈ F j) a ≠ none) with z | z | ⟨xs, z⟩
        · exact absurd (r.zfr i a h) z
        · rw [hj] at z; cases z
        · exact absurd ⟨i, h⟩ (r.notup z)
    · rcases Zx.fro h with z | z | z
      · exact .inl z
      · exact .inr (.inl ⟨j, z⟩)
      · exact .inr (.inr (.inr z))
  | some om =>
    cases om with
    | none =>
      have hj : F j = [] := r.emp j fun m q => by rw [e] at q; cases q
      have e1 : frz j ρ = ρ := by unfold frz; rw [e]
      rw [e1]
      refine ⟨F, ?_⟩
      refine ⟨⟨r.len, Zx.zh r.zh, fun i m q => ?_, r.emp, r.dis, r.nod, fun i a h => ?_⟩, Zx.zz, fun a h => .inl h, fun a h => ?_, fun _ _ h _ => h⟩
      · obtain ⟨v, e1, k⟩ := r.rep i m q
        exact ⟨v, e1, k.keep Zx.zz (fun _ _ _ e => e) fun _ _ e => e⟩
      · cases q : Zx Z H (fun a => a ∈ F j) a with
        | none => rfl
        | some o =>
          rcases Zx.fro (by rw [q]; simp : Zx Z H (fun a => a ∈ F j) a ≠ none) with z | z | ⟨xs, z⟩
          · exact absurd (r.zfr i a h) z
          · rw [hj] at z; cases z
          · exact absurd ⟨i, h⟩ (r.notup z)
      · rcases Zx.fro h with z | z | z
        · exact .inl z
        · exact .inr (.inl ⟨j, z⟩)
        · exact .inr (.inr (.inr z))
    | some m =>
      obtain ⟨v, ev, rm⟩ := r.rep j m e
      by_cases ok : m.ok = true
      · have e1 : frz j ρ = ρ.set j (some (.p m.dat)) := by unfold frz; rw [e]; simp [ok]
        rw [e1]
        have hjl : j < ρ.length := (List.getElem?_eq_some_iff.mp e).1
        refine ⟨fun i => if i = j then [] else F i, ?_⟩
        · refine ⟨⟨by simpa using r.len, Zx.zh r.zh, fun i m' q => ?_, fun i q => ?_, fun i k a h1 h2 => ?_, fun i => ?_, fun i a h => ?_⟩, Zx.zz, fun a ⟨i, h⟩ => ?_, fun a h => ?_, fun _ _ h _ => h⟩
          · by_cases hi : i = j
            · subst hi
              rw [List.getElem?_set_self hjl] at q
              cases q
              refine ⟨v, ev, ?_⟩
              show RM K _ H (.p m.dat) v (if i = i then [] else F i)
              rw [if_pos rfl]
              exact ⟨rm.frozen ok r.zh fun b h => .inl h, rfl⟩
            · rw [List.getElem?_set_ne (Ne.symm hi)] at q
              obtain ⟨u, e2, k⟩ := r.rep i m' q
              refine ⟨u, e2, ?_⟩
              show RM K _ H m' u (if i = j then [] else F i)
              rw [if_neg hi]
              exact k.keep Zx.zz (fun _ _ _ e => e) fun _ _ e => e
          · show (if i = j then [] else F i) = []
            by_cases hi : i = j
            · rw [if_pos hi]
            · rw [if_neg hi]
              refine r.emp i fun m' z => q m' ?_
              rw [List.getElem?_set_ne (Ne.symm hi)]
              exact z
          · by_cases hi : i = j
            · simp [hi] at h1
            · by_cases hk : k = j
              · simp [hk] at h2
              · simp [hi] at h1
                simp [hk] at h2
                exact r.dis i k a h1 h2
          · by_cases hi : i = j
            · simp [hi]
            · simp [hi, r.nod i]
          · by_cases hi : i = j
            · simp [hi] at h
            · simp [hi] at h
              cases q : Zx Z H (fun a => a ∈ F j) a with
              | none => rfl
              | some o =>
                rcases Zx.fro (by rw [q]; simp : Zx Z H (fun a => a ∈ F j) a ≠ none) with z | z | ⟨xs, z⟩
                · exact absurd (r.zfr i a h) z
                · exact absurd (r.dis i j a h z) hi
                · exact absurd ⟨i, h⟩ (r.notup z)
          · by_cases hi : i = j
            · simp [hi] at h
            · simp [hi] at h
              exact .inl ⟨i, h⟩
          · rcases Zx.fro h with z | z | z
            · exact .inl z
            · exact .inr (.inl ⟨j, z⟩)
            · exact .inr (.inr (.inr z))
      · exact absurd (hok m e) ok
end
end Iv

set_option Elab.async false
set_option linter.all false
set_option maxRecDepth 100000
/-! Iv, part 3: expressions. -/
namespace Iv
open PySem PySem.Spec L2

abbrev Ev := En → Option (X × En)
abbrev Fv := En → Option (D × En)
abbrev Et := En → Option (Bool × En)
inductive Fl where
  | nx | bk | ct
  | rt (m : M)
abbrev Es := En → Option (Fl × En)
section
variable {K : PySem.W.Frag} {Z Z' Z1 Z2 H H' H1 H2 : Hp} {ρ ρ' ρ1 ρ2 : En} {σ σ' σ1 σ2 : St} {F F' F1 F2 : Nat → List Addr} {O : Addr → Prop}
/-- things of their own (S, that no slot has) are frozen -/
theorem Mid.more (a : Mid K Z H O σ ρ Z1 H1 F1) {S : Addr → Prop} (hS : ∀ x, S x → O x ∨ H x = none) (hF : ∀ x, S x → ¬ Ow F1 x) : Mid K Z H O σ ρ (Zx Z1 H1 S) H1 F1 := by
  refine ⟨⟨a.rs.len, Zx.zh a.rs.zh, fun i m e => ?_, a.rs.emp, a.rs.dis, a.rs.nod, fun i x h => ?_⟩, a.zz.trans Zx.zz, a.new, fun x h => ?_, a.frm⟩
  · obtain ⟨v, e1, k⟩ := a.rs.rep i m e
    exact ⟨v, e1, k.keep Zx.zz (fun _ _ _ e => e) fun _ _ e => e⟩
  · cases q : Zx Z1 H1 S x with
    | none => rfl
    | some o =>
      rcases Zx.fro (by rw [q]; simp : Zx Z1 H1 S x ≠ none) with z | z | ⟨xs, z⟩
      · exact absurd (a.rs.zfr i x h) z
      · exact absurd ⟨i, h⟩ (hF x z)
      · exact absurd ⟨i, h⟩ (a.rs.notup z)
  · rcases Zx.fro h with z | z | ⟨xs, z⟩
    · exact a.fro x z
    · rcases hS x z with q | q
      · exact .inr (.inl q)
      · exact .inr (.inr (.inl q))
    · by_cases q : O x
      · exact .inr (.inl q)
      · cases e : H x with
        | none => exact .inr (.inr (.inl rfl))
        | some o =>
          have w := a.frm x o e q
          rw [z] at w
          cases w
          exact .inr (.inr (.inr ⟨xs, rfl⟩))
def X.frz : X → En → En
  | .m _, ρ => ρ
  | .r j, ρ => Iv.frz j ρ
  | .rc j _, ρ => Iv.frz j ρ
/-- what x tells becomes frozen data -/
theorem End.frozen {x : X} {v : V} {A : List Addr} {m : M} (e : End K Z H F σ ρ x v Z' H' F' A) (hm : x.res ρ = some m) : ∃ Z2 F2, Mid K Z H (Ow F) σ (x.frz ρ) Z2 H' F2 ∧ Rp Z2 v m.dat := by
  obtain ⟨ok, B, q, hB⟩ := e.rx.rm e.mid.rs hm
  have slot : ∀ j, x.sl = some j → x.frz ρ = Iv.frz j ρ → A = [] → ∃ Z2 F2, Mid K Z H (Ow F) σ (x.frz ρ) Z2 H' F2 ∧ Rp Z2 v m.dat := fun j hj hf hA => by
    obtain ⟨F2, M2⟩ := e.mid.rs.frz1 j (X.res_ok hm hj)
    refine ⟨_, F2, by rw [hf]; exact e.mid.trans M2, q.frozen ok e.mid.rs.zh fun b hb => ?_⟩
    rcases hB b hb with z | ⟨k, z, z2⟩
    · rw [hA] at z; cases z
    · rw [hj] at z; cases z; exact .inl z2
  cases x with
  | m m' =>
    refine ⟨_, F', e.mid.more (S := fun a => a ∈ A) (fun a h => e.nw a h) (fun a h => (e.rx.ownA a h).2.2), q.frozen ok e.mid.rs.zh fun b hb => ?_⟩
    rcases hB b hb with z | ⟨k, z, z2⟩
    · exact .inl z
    · cases z
  | r j => exact slot j rfl rfl e.rx.1
  | rc j k => exact slot j rfl rfl e.rx.1
end

/-! ### judgements -/
def rdE (K : PySem.W.Frag) (d : Ev) : TE := fun σ H Q => ∃ Z ρ F x ρ', RS K Z H ρ σ F ∧ d ρ = some (x, ρ') ∧ ∀ v Z' H' F' A, End K Z H F σ ρ' x v Z' H' F' A → Q v H'
def rdF (K : PySem.W.Frag) (d : Fv) : TE := fun σ H Q => ∃ Z ρ F x ρ', RS K Z H ρ σ F ∧ d ρ = some (x, ρ') ∧ ∀ v Z' H' F', Mid K Z H (Ow F) σ ρ' Z' H' F' → Rp Z' v x → Q v H'
def rdT (K : PySem.W.Frag) (d : Et) : TT := fun σ H Q => ∃ Z ρ F b ρ', RS K Z H ρ σ F ∧ d ρ = some (b, ρ') ∧ ∀ Z' H' F', Mid K Z H (Ow F) σ ρ' Z' H' F' → Q b H'
def VE (X : Cx) (e : Expr) (d : Ev) : Prop := PE X e (rdE X.K d)
def VF (X : Cx) (e : Expr) (d : Fv) : Prop := PE X e (rdF X.K d)
def VT (X : Cx) (e : Expr) (d : Et) : Prop := PT X e (rdT X.K d)
theorem pe_mono {X : Cx} {e : Expr} {t t' : TE} (h : PE X e t) (k : ∀ σ H Q, t' σ H Q → t σ H Q) : PE X e t' := ⟨fun pins s σ H Q I q => h.run pins s σ H Q I (k σ H Q q)⟩
theorem pt_mono {X : Cx} {e : Expr} {t t' : TT} (h : PT X e t) (k : ∀ σ H Q, t' σ H Q → t σ H Q) : PT X e t' := ⟨fun pins s σ H Q I q => h.run pins s σ H Q I (k σ H Q q)⟩
theorem pw_mono {X : Cx} {e : Expr} {t t' : TT} (h : PW X e t) (k : ∀ σ H Q, t' σ H Q → t σ H Q) : PW X e t' := ⟨fun wh pins s σ H Q I q => h.run wh pins s σ H Q I (k σ H Q q)⟩
theorem pa_mono {X : Cx} {e : List Expr} {t t' : TA} (h : PA X e t) (k : ∀ σ H Q, t' σ H Q → t σ H Q) : PA X e t' := ⟨fun pos pins s σ H Q I q => h.run pos pins s σ H Q I (k σ H Q q)⟩
theorem ps_mono {X : Cx} {e : Stmt} {t t' : TS} (h : PS X e t) (k : ∀ D σ H, t' D σ H → t D σ H) : PS X e t' := ⟨fun pins s σ H D I q => h.run pins s σ H D I (k D σ H q)⟩
theorem pss_mono {X : Cx} {e : List Stmt} {t t' : TS} (h : PSs X e t) (k : ∀ D σ H, t' D σ H → t D σ H) : PSs X e t' := ⟨fun pins s σ H D I q => h.run pins s σ H D I (k D σ H q)⟩

/-! ### frozen -/
def dF (d : Ev) : Fv := fun ρ => (d ρ).bind fun p => (p.1.res p.2).bind fun m => some (m.dat, p.1.frz p.2)
theorem F_rd {K : PySem.W.Frag} {d : Ev} : ∀ σ H Q, rdF K (dF d) σ H Q → rdE K d σ H Q := by
  rintro σ H Q ⟨Z, ρ, F, x, ρ2, rs, ed, q⟩
  obtain ⟨⟨y, ρ1⟩, e1, ed⟩ := Option.bind_eq_some_iff.mp ed
  obtain ⟨m, e2, ed⟩ := Option.bind_eq_some_iff.mp ed
  cases ed
  refine ⟨Z, ρ, F, y, ρ1, rs, e1, fun v Z' H' F' A E => ?_⟩
  obtain ⟨Z2, F2, M2, r⟩ := E.frozen e2
  exact q v Z2 H' F2 M2 r
theorem ve_F {X : Cx} {e : Expr} {d : Ev} (h : VE X e d) : VF X e (dF d) := pe_mono h F_rd

/-! ### two operands -/
def dBin (g : M → M → Option M) (a b : Ev) : Ev := fun ρ => (a ρ).bind fun p => (b p.2).bind fun q => (p.1.res q.2).bind fun x => (q.1.res q.2).bind fun y => (g x y).bind fun z => some (.m z, q.2)
/-- an operation r by values does g -/
def OpV (K : PySem.W.Frag) (r : R2) (g : M → M → Option M) : Prop := ∀ (Z H : Hp) (m1 m2 m : M) (v u : V) (A B : List Addr) (Q : VK), Same Z H → m1.ok = true → m2.ok = true → RM K Z H m1 v A → RM K Z H m2 u B → g m1 m2 = some m →
  (∀ w Z' H' A', Res K Z H m w Z' H' A' → Q w H') → r v u H Q
section
variable {X : Cx} {e a b : Expr} {pos : Pos}
theorem bin_rd {K : PySem.W.Frag} {r : R2} {g : M → M → Option M} {da db : Ev} (ho : OpV K r g) : ∀ σ H Q, rdE K (dBin g da db) σ H Q → tOp r (rdE K da) (rdE K db) σ H Q := by
  rintro σ H Q ⟨Z, ρ, F, x, ρ2, rs, ed, q⟩
  obtain ⟨⟨xa, ρa⟩, ea, ed⟩ := Option.bind_eq_some_iff.mp ed
  obtain ⟨⟨xb, ρb⟩, eb, ed⟩ := Option.bind_eq_some_iff.mp ed
  obtain ⟨m1, e1, ed⟩ := Option.bind_eq_some_iff.mp ed
  obtain ⟨m2, e2, ed⟩ := Option.bind_eq_some_iff.mp ed
  obtain ⟨m, eg, ed⟩ := Option.bind_eq_some_iff.mp ed
  cases ed
  refine ⟨Z, ρ, F, xa, ρa, rs, ea, fun v Z1 H1 F1 A1 E1 => ⟨Z1, ρa, F1, xb, _, E1.mid.rs, eb, fun u Z2 H2 F2 A2 E2 => ?_⟩⟩
  obtain ⟨k1, B1, q1, _⟩ := (E1.rx.keep E1.mid.rs E2.mid).rm E2.mid.rs e1
  obtain ⟨k2, B2, q2, _⟩ := E2.rx.rm E2.mid.rs e2
  have M12 := E1.mid.trans E2.mid
  exact ho Z2 H2 _ _ _ v u B1 B2 Q M12.rs.zh k1 k2 q1 q2 eg fun w Z3 H3 A3 res => q w Z3 H3 _ A3 (M12.then (res.fin M12.rs))
theorem ve_bin {op : Operator} {r : R2} {g : M → M → Option M} {da db : Ev} (hr : OpR X (binaryOp op) r) (ho : OpV X.K r g) (ha : VE X a da) (hb : VE X b db) : VE X (.BinOp a op b pos) (dBin g da db) := pe_mono (pe_op hr ha hb) (bin_rd ho)
theorem ve_cmp {op : CmpOp} {r : R2} {g : M → M → Option M} {da db : Ev} (hr : OpR X (compareOp op) r) (ho : OpV X.K r g) (hm : behindInMarks op b = false) (ha : VE X a da) (hb : VE X b db) : VE X (.Compare a [op] [b] pos) (dBin g da db) :=
  pe_mono (pe_cmpR hr ha hb hm) (bin_rd ho)
theorem OpV.or {K : PySem.W.Frag} {r r' : R2} {g g' : M → M → Option M} (h : OpV K r g) (h' : OpV K r' g') : OpV K (fun x y H Q => r x y H Q ∨ r' x y H Q) (fun x y => match g x y with | some z => some z | none => g' x y) := by
  intro Z H m1 m2 m v u A B Q zh k1 k2 q1 q2 e q
  dsimp only at e
  cases e1 : g m1 m2 with
  | some z => rw [e1] at e; cases e; exact .inl (h Z H m1 m2 _ v u A B Q zh k1 k2 q1 q2 e1 q)
  | none => rw [e1] at e; exact .inr (h' Z H m1 m2 m v u A B Q zh k1 k2 q1 q2 e q)

/-! ### constants, names -/
def dC (d : D) : Ev := fun ρ => some (.m (.p d), ρ)
theorem const_rd {K : PySem.W.Frag} {v : V} {d : D} (h : ∀ Z, Rp Z v d) : ∀ σ H Q, rdE K (dC d) σ H Q → tC v σ H Q := by
  rintro σ H Q ⟨Z, ρ, F, x, ρ2, rs, ed, q⟩
  cases ed
  exact q v Z H F [] ⟨rs.refl, ⟨⟨h Z, rfl⟩, List.nodup_nil, (fun a h => by cases h)⟩, fun a h => by cases h⟩
theorem ve_int {i : Int} {j : Nat} : VE X (.Constant (.int i) j pos) (dC (.int i)) := pe_mono pe_int (const_rd fun _ => .int i)
theorem ve_bl {i : Bool} {j : Nat} : VE X (.Constant (.bool i) j pos) (dC (.bool i)) := pe_mono pe_bl (const_rd fun _ => .bl i)
theorem ve_non {j : Nat} : VE X (.Constant .none j pos) (dC .none) := pe_mono pe_non (const_rd fun _ => .non)
theorem ve_str {i : Str} {j : Nat} : VE X (.Constant (.str i) j pos) (dC (.str i)) := pe_mono pe_str (const_rd fun _ => .str i)
theorem ve_gint {x : Str} {i : Int} (hg : Gl X x) (hm : ∃ t, X.mg x = some (.int i t)) (hd : (x == ("__debug__" : Str)) = false) : VE X (.Name x pos) (dC (.int i)) := by
  obtain ⟨t, hm⟩ := hm
  exact pe_mono (pe_glob (v := .int i) hg hm ⟨t, rfl⟩ hd) (const_rd fun _ => .int i)
theorem ve_gstr {x i : Str} (hg : Gl X x) (hm : ∃ t, X.mg x = some (.str i t)) (hd : (x == ("__debug__" : Str)) = false) : VE X (.Name x pos) (dC (.str i)) := by
  obtain ⟨t, hm⟩ := hm
  exact pe_mono (pe_glob (v := .str i) hg hm ⟨t, rfl⟩ hd) (const_rd fun _ => .str i)
def dVar (i : Nat) : Ev := fun ρ => match ρ[i]? with
  | some (some (.p d)) => some (.m (.p d), ρ)
  | some (some _) => some (.r i, ρ)
  | _ => none
theorem var_rd {K : PySem.W.Frag} {i : Nat} : ∀ σ H Q, rdE K (dVar i) σ H Q → tVar i σ H Q := by
  rintro σ H Q ⟨Z, ρ, F, x, ρ2, rs, ed, q⟩
  unfold dVar at ed
  split at ed
  · rename_i d e
    cases ed
    obtain ⟨v, e1, r, e2⟩ := rs.rep i _ e
    exact ⟨v, e1, q v Z H F [] ⟨rs.refl, ⟨⟨r, rfl⟩, List.nodup_nil, (fun a h => by cases h)⟩, fun a h => by cases h⟩⟩
  · rename_i m n2 e
    cases ed
    obtain ⟨v, e1, r⟩ := rs.rep i _ e
    exact ⟨v, e1, q v Z H F [] ⟨rs.refl, ⟨rfl, e1⟩, fun a h => by cases h⟩⟩
  · cases ed
theorem ve_var {i : Nat} {x : Str} (hN : X.N[i]? = some x) (hv : Vis X.env.scope x) (hd : (x == ("__debug__" : Str)) = false) (hcd : (x == ("__classdict__" : Str)) = false) : VE X (.Name x pos) (dVar i) :=
  pe_mono (pe_var hN hv hd hcd) var_rd

/-! ### one operand -/
def dUn (g : M → Option M) (a : Ev) : Ev := fun ρ => (a ρ).bind fun p => (p.1.res p.2).bind fun x => (g x).bind fun z => some (.m z, p.2)
def UnV (K : PySem.W.Frag) (r : V → Hp → VK → Prop) (g : M → Option M) : Prop := ∀ (Z H : Hp) (m1 m : M) (v : V) (A : List Addr) (Q : VK), Same Z H → m1.ok = true → RM K Z H m1 v A → g m1 = some m →
  (∀ w Z' H' A', Res K Z H m w Z' H' A' → Q w H') → r v H Q
theorem un_rd {K : PySem.W.Frag} {r : V → Hp → VK → Prop} {g : M → Option M} {da : Ev} (ho : UnV K r g) : ∀ σ H Q, rdE K (dUn g da) σ H Q → rdE K da σ H (fun x H1 => r x H1 Q) := by
  rintro σ H Q ⟨Z, ρ, F, x, ρ2, rs, ed, q⟩
  obtain ⟨⟨xa, ρa⟩, ea, ed⟩ := Option.bind_eq_some_iff.mp ed
  obtain ⟨m1, e1, ed⟩ := Option.bind_eq_some_iff.mp ed
  obtain ⟨m, eg, ed⟩ := Option.bind_eq_some_iff.mp ed
  cases ed
  refine ⟨Z, ρ, F, xa, _, rs, ea, fun v Z1 H1 F1 A1 E1 => ?_⟩
  obtain ⟨k1, B1, q1, _⟩ := E1.rx.rm E1.mid.rs e1
  exact ho Z1 H1 _ _ v B1 Q E1.mid.rs.zh k1 q1 eg fun w Z3 H3 A3 res => q w Z3 H3 _ A3 (E1.mid.then (res.fin E1.mid.rs))
theorem ve_un {op : UnaryOp} {r : V → Hp → VK → Prop} {g : M → Option M} {da : Ev} (hr : UnR X (unaryOp op) r) (ho : UnV X.K r g) (ha : VE X a da) : VE X (.UnaryOp op a pos) (dUn g da) := pe_mono (pe_un hr ha) (un_rd ho)

/-! ### truth -/
def gBl : M → Option Bool
  | .p (.bool b) => some b
  | _ => none
theorem gBl_rm {K : PySem.W.Frag} {Z H : Hp} {m : M} {v : V} {A : List Addr} {b : Bool} (r : RM K Z H m v A) (h : gBl m = some b) : v = .bl b := by
  unfold gBl at h
  split at h
  · cases h
    obtain ⟨q, _⟩ := r
    cases q
    rfl
  · cases h
/-- a value that is a bool, as a test -/
def dT (a : Ev) : Et := fun ρ => (a ρ).bind fun p => (p.1.res p.2).bind fun x => (gBl x).bind fun b => some (b, p.2)
theorem T_rd {K : PySem.W.Frag} {da : Ev} : ∀ σ H Q, rdT K (dT da) σ H Q → tB (rdE K da) σ H Q := by
  rintro σ H Q ⟨Z, ρ, F, b, ρ2, rs, ed, q⟩
  obtain ⟨⟨xa, ρa⟩, ea, ed⟩ := Option.bind_eq_some_iff.mp ed
  obtain ⟨m1, e1, ed⟩ := Option.bind_eq_some_iff.mp ed
  obtain ⟨c, eg, ed⟩ := Option.bind_eq_some_iff.mp ed
  cases ed
  refine ⟨Z, ρ, F, xa, _, rs, ea, fun v Z1 H1 F1 A1 E1 => ?_⟩
  obtain ⟨k1, B1, q1, _⟩ := E1.rx.rm E1.mid.rs e1
  exact ⟨_, gBl_rm q1 eg, q Z1 H1 F1 E1.mid⟩
theorem vt_val {da : Ev} (h : VE X e da) (he : ∀ whole, isTrue e X.env whole = (do let v ← whole; standAt e.pos; holding [v] (truthy v))) : VT X e (dT da) := pt_mono (pt_val h he) T_rd
theorem vt_cmp {op : CmpOp} {r : R2} {g : M → M → Option M} {da db : Ev} (hr : OpR X (compareOp op) r) (ho : OpV X.K r g) (hm : behindInMarks op b = false) (ha : VE X a da) (hb : VE X b db) : VT X (.Compare a [op] [b] pos) (dT (dBin g da db)) := by
  refine pt_mono (pt_cmpR hr ha hb hm) fun σ H Q h => ?_
  obtain ⟨Z, ρ, F, x, ρ', rs, ed, q⟩ := T_rd σ H Q h
  exact bin_rd ho σ H _ ⟨Z, ρ, F, x, ρ', rs, ed, q⟩
def dNotT (a : Et) : Et := fun ρ => (a ρ).bind fun p => some (!p.1, p.2)
theorem vt_not {da : Et} (h : VT X a da) : VT X (.UnaryOp .Not a pos) (dNotT da) := pt_mono (pt_not h) fun σ H Q ⟨Z, ρ, F, b, ρ2, rs, ed, q⟩ => by
  obtain ⟨⟨xa, ρa⟩, ea, ed⟩ := Option.bind_eq_some_iff.mp ed
  cases ed
  exact ⟨Z, ρ, F, xa, _, rs, ea, fun Z1 H1 F1 M1 => q Z1 H1 F1 M1⟩
def dAndT (a b : Et) : Et := fun ρ => (a ρ).bind fun p => if p.1 = true then b p.2 else some (false, p.2)
def dOrT (a b : Et) : Et := fun ρ => (a ρ).bind fun p => if p.1 = true then some (true, p.2) else b p.2
/-- and, or, whatever the whole is -/
def VW (X : Cx) (e : Expr) (d : Et) : Prop := PW X e (rdT X.K d)
variable {rest : List Expr}
theorem vw_and1 {da : Et} (h : VT X a da) : VW X (.BoolOp .And [a] pos) da := pw_and1 h
theorem vw_or1 {da : Et} (h : VT X a da) : VW X (.BoolOp .Or [a] pos) da := pw_or1 h
theorem vw_and {da db : Et} (ha : VT X a da) (hb : VW X (.BoolOp .And (b :: rest) pos) db) : VW X (.BoolOp .And (a :: b :: rest) pos) (dAndT da db) := pw_mono (pw_and ha hb) fun σ H Q ⟨Z, ρ, F, c, ρ2, rs, ed, q⟩ => by
  obtain ⟨⟨xa, ρa⟩, ea, ed⟩ := Option.bind_eq_some_iff.mp ed
  refine ⟨Z, ρ, F, xa, ρa, rs, ea, fun Z1 H1 F1 M1 => ?_⟩
  cases xa with
  | true => exact ⟨Z1, ρa, F1, c, ρ2, M1.rs, ed, fun Z2 H2 F2 M2 => q Z2 H2 F2 (M1.trans M2)⟩
  | false => cases ed; exact q Z1 H1 F1 M1
theorem vw_or {da db : Et} (ha : VT X a da) (hb : VW X (.BoolOp .Or (b :: rest) pos) db) : VW X (.BoolOp .Or (a :: b :: rest) pos) (dOrT da db) := pw_mono (pw_or ha hb) fun σ H Q ⟨Z, ρ, F, c, ρ2, rs, ed, q⟩ => by
  obtain ⟨⟨xa, ρa⟩, ea, ed⟩ := Option.bind_eq_some_iff.mp ed
  refine ⟨Z, ρ, F, xa, ρa, rs, ea, fun Z1 H1 F1 M1 => ?_⟩
  cases xa with
  | false => exact ⟨Z1, ρa, F1, c, ρ2, M1.rs, ed, fun Z2 H2 F2 M2 => q Z2 H2 F2 (M1.trans M2)⟩
  | true => cases ed; exact q Z1 H1 F1 M1
theorem VW.vt {d : Et} (h : VW X e d) : VT X e d := PW.pt h
/-- .. as values -/
def dBl (a : Et) : Ev := fun ρ => (a ρ).bind fun p => some (.m (.p (.bool p.1)), p.2)
def dAnd (a b : Ev) : Ev := fun ρ => (dT a ρ).bind fun p => if p.1 = true then b p.2 else some (.m (.p (.bool false)), p.2)
def dOr (a b : Ev) : Ev := fun ρ => (dT a ρ).bind fun p => if p.1 = true then some (.m (.p (.bool true)), p.2) else b p.2
def dNot (a : Ev) : Ev := dBl (dNotT (dT a))
theorem ve_one {op : BoolOp} {d : Ev} (h : VE X a d) : VE X (.BoolOp op [a] pos) d := pe_one h
theorem End.bl {K : PySem.W.Frag} {Z H Z' H' : Hp} {F F' : Nat → List Addr} {σ : St} {ρ' : En} (b : Bool) (m : Mid K Z H (Ow F) σ ρ' Z' H' F') : End K Z H F σ ρ' (.m (.p (.bool b))) (.bl b) Z' H' F' [] :=
  ⟨m, ⟨⟨.bl b, rfl⟩, List.nodup_nil, (fun a h => by cases h)⟩, fun a h => by cases h⟩
theorem ve_and {da db : Ev} (ha : VE X a da) (hb : VE X (.BoolOp .And (b :: rest) pos) db) : VE X (.BoolOp .And (a :: b :: rest) pos) (dAnd da db) := pe_mono (pe_and ha hb) fun σ H Q ⟨Z, ρ, F, x, ρ2, rs, ed, q⟩ => by
  obtain ⟨⟨c, ρa⟩, ea, ed⟩ := Option.bind_eq_some_iff.mp ed
  refine T_rd σ H (fun c H1 => if c = true then rdE X.K db σ H1 Q else Q (.bl false) H1) ⟨Z, ρ, F, c, ρa, rs, ea, fun Z1 H1 F1 M1 => ?_⟩
  cases c with
  | true => exact ⟨Z1, ρa, F1, x, ρ2, M1.rs, ed, fun v Z2 H2 F2 A E2 => q v Z2 H2 F2 A (M1.then E2)⟩
  | false => cases ed; exact q _ Z1 H1 F1 _ (End.bl false M1)
theorem ve_or {da db : Ev} (ha : VE X a da) (hb : VE X (.BoolOp .Or (b :: rest) pos) db) : VE X (.BoolOp .Or (a :: b :: rest) pos) (dOr da db) := pe_mono (pe_or ha hb) fun σ H Q ⟨Z, ρ, F, x, ρ2, rs, ed, q⟩ => by
  obtain ⟨⟨c, ρa⟩, ea, ed⟩ := Option.bind_eq_some_iff.mp ed
  refine T_rd σ H (fun c H1 => if c = true then Q (.bl true) H1 else rdE X.K db σ H1 Q) ⟨Z, ρ, F, c, ρa, rs, ea, fun Z1 H1 F1 M1 => ?_⟩
  cases c with
  | false => exact ⟨Z1, ρa, F1, x, ρ2, M1.rs, ed, fun v Z2 H2 F2 A E2 => q v Z2 H2 F2 A (M1.then E2)⟩
  | true => cases ed; exact q _ Z1 H1 F1 _ (End.bl true M1)
theorem ve_not {da : Ev} (ha : VE X a da) : VE X (.UnaryOp .Not a pos) (dNot da) := pe_mono (pe_not ha) fun σ H Q ⟨Z, ρ, F, x, ρ2, rs, ed, q⟩ => by
  obtain ⟨⟨c, ρa⟩, ea, ed⟩ := Option.bind_eq_some_iff.mp ed
  obtain ⟨⟨c', ρa'⟩, ea', ec⟩ := Option.bind_eq_some_iff.mp ea
  cases ec
  cases ed
  exact T_rd σ H (fun c H1 => Q (.bl (!c)) H1) ⟨Z, ρ, F, c', _, rs, ea', fun Z1 H1 F1 M1 => q _ Z1 H1 F1 _ (End.bl (!c') M1)⟩
def dIfE (t : Et) (a b : Ev) : Ev := fun ρ => (t ρ).bind fun p => if p.1 = true then a p.2 else b p.2
theorem ve_if {c : Expr} {dt : Et} {da db : Ev} (hc : VT X c dt) (ha : VE X a da) (hb : VE X b db) : VE X (.IfExp c a b pos) (dIfE dt da db) := pe_mono (pe_ifExp hc ha hb) fun σ H Q ⟨Z, ρ, F, x, ρ2, rs, ed, q⟩ => by
  obtain ⟨⟨c, ρa⟩, ea, ed⟩ := Option.bind_eq_some_iff.mp ed
  refine ⟨Z, ρ, F, c, ρa, rs, ea, fun Z1 H1 F1 M1 => ?_⟩
  cases c with
  | false => exact ⟨Z1, ρa, F1, x, ρ2, M1.rs, ed, fun v Z2 H2 F2 A E2 => q v Z2 H2 F2 A (M1.then E2)⟩
  | true => exact ⟨Z1, ρa, F1, x, ρ2, M1.rs, ed, fun v Z2 H2 F2 A E2 => q v Z2 H2 F2 A (M1.then E2)⟩
end
end Iv

set_option Elab.async false
set_option linter.all false
set_option maxRecDepth 100000
/-! Iv, part 4: operators. -/
namespace Iv
open PySem PySem.Spec L2

def M.ls : M → Option (List D)
  | .p (.list ds) => some ds
  | .lst ds => some ds
  | _ => none
/-- a list or a frozen tuple: its items -/
def M.its : M → Option (List D)
  | .p (.list ds) => some ds
  | .p (.tuple ds) => some ds
  | .lst ds => some ds
  | _ => none
section
variable {K : PySem.W.Frag} {Z H : Hp} {m : M} {v : V} {A : List Addr} {ds : List D} {i : Int} {s : Str} {b : Bool}
theorem ls_rm (r : RM K Z H m v A) (zh : Same Z H) (h : m.ls = some ds) : ∃ a vs, v = .ref a ∧ H a = some (.lst vs) ∧ RpA Z vs ds := by
  cases m with
  | p d =>
    cases d <;> simp [M.ls] at h
    subst h
    obtain ⟨q, _⟩ := r
    cases q with
    | lst h q => exact ⟨_, _, rfl, zh _ _ h, q⟩
  | lst ds' =>
    simp [M.ls] at h
    subst h
    obtain ⟨a, vs, rfl, _, h, q⟩ := r
    exact ⟨a, vs, rfl, h, q⟩
  | _ => simp [M.ls] at h
theorem its_rm (r : RM K Z H m v A) (zh : Same Z H) (h : m.its = some ds) : ∃ a vs, v = .ref a ∧ (H a = some (.lst vs) ∨ H a = some (.tup vs)) ∧ RpA Z vs ds := by
  cases m with
  | p d =>
    cases d <;> simp [M.its] at h
    all_goals subst h
    all_goals obtain ⟨q, _⟩ := r
    · cases q with
      | lst h q => exact ⟨_, _, rfl, .inl (zh _ _ h), q⟩
    · cases q with
      | tup h q => exact ⟨_, _, rfl, .inr (zh _ _ h), q⟩
  | lst ds' =>
    simp [M.its] at h
    subst h
    obtain ⟨a, vs, rfl, _, h, q⟩ := r
    exact ⟨a, vs, rfl, .inl h, q⟩
  | _ => simp [M.its] at h
theorem int_rm (r : RM K Z H (.p (.int i)) v A) : v = .int i := by obtain ⟨q, _⟩ := r; cases q; rfl
theorem str_rm (r : RM K Z H (.p (.str s)) v A) : v = .str s := by obtain ⟨q, _⟩ := r; cases q; rfl
theorem bl_rm (r : RM K Z H (.p (.bool b)) v A) : v = .bl b := by obtain ⟨q, _⟩ := r; cases q; rfl
theorem non_rm (r : RM K Z H (.p .none) v A) : v = .non := by obtain ⟨q, _⟩ := r; cases q; rfl
end
/-- two ints -/
def gII (c : Int → Int → Bool) (f : Int → Int → D) : M → M → Option M
  | .p (.int i), .p (.int j) => if c i j = true then some (.p (f i j)) else none
  | _, _ => none
theorem opv_ii {K : PySem.W.Frag} {C : Int → Int → Prop} {g : Int → Int → V} {c : Int → Int → Bool} {f : Int → Int → D} (hc : ∀ i j, c i j = true → C i j) (hf : ∀ Z i j, Rp Z (g i j) (f i j)) : OpV K (rI C g) (gII c f) := by
  intro Z H m1 m2 m v u A B Q zh k1 k2 q1 q2 e q
  unfold gII at e
  split at e
  · split at e
    · cases e
      obtain rfl := int_rm q1
      obtain rfl := int_rm q2
      exact ⟨_, _, rfl, rfl, hc _ _ (by assumption), q _ Z H [] (Res.pure zh (hf Z _ _))⟩
    · cases e
  · cases e
theorem opv_ii0 {K : PySem.W.Frag} {g : Int → Int → V} {f : Int → Int → D} (hf : ∀ Z i j, Rp Z (g i j) (f i j)) : OpV K (rI0 g) (gII (fun _ _ => true) f) := by
  intro Z H m1 m2 m v u A B Q zh k1 k2 q1 q2 e q
  unfold gII at e
  split at e
  · split at e
    · cases e
      obtain rfl := int_rm q1
      obtain rfl := int_rm q2
      exact ⟨_, _, rfl, rfl, q _ Z H [] (Res.pure zh (hf Z _ _))⟩
    · cases e
  · cases e
/-! ### + -/
def gAdd : M → M → Option M
  | .p (.int i), .p (.int j) => some (.p (.int (i + j)))
  | .p (.str a), .p (.str b) => if a.length + b.length ≤ sizeLine then some (.p (.str (a ++ b))) else none
  | x, y => x.ls.bind fun xs => y.ls.bind fun ys => if xs.length + ys.length ≤ sizeLine then some (.lst (xs ++ ys)) else none
def rAdd' : R2 := fun x y H Q => rI0 (fun i j => .int (i + j)) x y H Q ∨ (∃ i j, x = .str i ∧ y = .str j ∧ i.length + j.length ≤ sizeLine ∧ Q (.str (i ++ j)) H) ∨ rCat x y H Q
theorem op_addA {X : Cx} : OpR X (binaryOp .Add) rAdd' := op_add.or (op_add_str.or op_cat)
theorem opv_add {K : PySem.W.Frag} : OpV K rAdd' gAdd := by
  intro Z H m1 m2 m v u A B Q zh k1 k2 q1 q2 e q
  unfold gAdd at e
  split at e
  · cases e
    obtain rfl := int_rm q1
    obtain rfl := int_rm q2
    exact .inl ⟨_, _, rfl, rfl, q _ Z H [] (Res.pure zh (.int _))⟩
  · split at e
    · cases e
      obtain rfl := str_rm q1
      obtain rfl := str_rm q2
      exact .inr (.inl ⟨_, _, rfl, rfl, by assumption, q _ Z H [] (Res.pure zh (.str _))⟩)
    · cases e
  · obtain ⟨xs, e1, e⟩ := Option.bind_eq_some_iff.mp e
    obtain ⟨ys, e2, e⟩ := Option.bind_eq_some_iff.mp e
    split at e
    · cases e
      obtain ⟨a, vs, rfl, h1, r1⟩ := ls_rm q1 zh e1
      obtain ⟨b, ws, rfl, h2, r2⟩ := ls_rm q2 zh e2
      exact .inr (.inr ⟨a, b, vs, ws, rfl, rfl, h1, h2, by rw [r1.length, r2.length]; assumption, fun p hp => q _ _ _ _ (Res.list zh hp (r1.append r2))⟩)
    · cases e
/-! ### - * // % ** -/
def gSub : M → M → Option M := gII (fun _ _ => true) fun i j => .int (i - j)
def rSub' : R2 := rI0 fun i j => .int (i - j)
theorem opv_sub {K : PySem.W.Frag} : OpV K rSub' gSub := opv_ii0 fun _ _ _ => .int _
def cMul (i j : Int) : Bool := decide ((-(2 ^ 64) < i ∧ i < 2 ^ 64) ∨ (-(2 ^ 64) < j ∧ j < 2 ^ 64))
theorem cMul_ok (i j : Int) (h : cMul i j = true) : CMul i j := by
  have q := of_decide_eq_true h
  exact q
def gMul : M → M → Option M
  | .p (.int i), .p (.int j) => if cMul i j = true then some (.p (.int (i * j))) else none
  | x, .p (.int k) => x.ls.bind fun xs => if -(2 ^ 63) ≤ k ∧ k < 2 ^ 63 ∧ xs.length * k.toNat ≤ sizeLine then some (.lst (List.replicate k.toNat xs).flatten) else none
  | _, _ => none
def rMul' : R2 := fun x y H Q => rI CMul (fun i j => .int (i * j)) x y H Q ∨ rRep x y H Q
theorem op_mulA {X : Cx} : OpR X (binaryOp .Mult) rMul' := op_mul.or op_rep
theorem RpA.rep {Z : Hp} {vs : List V} {ds : List D} (r : RpA Z vs ds) : ∀ k : Nat, RpA Z (List.replicate k vs).flatten (List.replicate k ds).flatten
  | 0 => .nil
  | k + 1 => by rw [List.replicate_succ, List.replicate_succ, List.flatten_cons, List.flatten_cons]; exact r.append (r.rep k)
theorem opv_mul {K : PySem.W.Frag} : OpV K rMul' gMul := by
  intro Z H m1 m2 m v u A B Q zh k1 k2 q1 q2 e q
  unfold gMul at e
  split at e
  · split at e
    · cases e
      obtain rfl := int_rm q1
      obtain rfl := int_rm q2
      exact .inl ⟨_, _, rfl, rfl, cMul_ok _ _ (by assumption), q _ Z H [] (Res.pure zh (.int _))⟩
    · cases e
  · obtain ⟨xs, e1, e⟩ := Option.bind_eq_some_iff.mp e
    split at e
    · rename_i hc
      cases e
      obtain ⟨a, vs, rfl, h1, r1⟩ := ls_rm q1 zh e1
      obtain rfl := int_rm q2
      exact .inr ⟨a, _, vs, rfl, rfl, h1, hc.1, hc.2.1, by rw [r1.length]; exact hc.2.2, fun p hp => q _ _ _ _ (Res.list zh hp (r1.rep _))⟩
    · cases e
  · cases e
def cDiv (i j : Int) : Bool := decide (0 < j ∧ j < 18446744073709551616)
def gDiv : M → M → Option M := gII cDiv fun i j => .int (i / j)
def rDiv' : R2 := rI CDivW fun i j => .int (i / j)
theorem cDiv_ok (i j : Int) (h : cDiv i j = true) : CDivW i j := by
  obtain ⟨h1, h2⟩ := of_decide_eq_true h
  exact wide_div (b := 64) h1 (by omega) (by decide) (by decide)
theorem opv_div {K : PySem.W.Frag} : OpV K rDiv' gDiv := opv_ii cDiv_ok fun _ _ _ => .int _
def gMod : M → M → Option M := gII (fun _ j => decide (0 < j)) fun i j => .int (i % j)
def rMod' : R2 := rI (fun _ j => 0 < j) fun i j => .int (i % j)
theorem opv_mod {K : PySem.W.Frag} : OpV K rMod' gMod := opv_ii (fun _ _ h => of_decide_eq_true h) fun _ _ _ => .int _
def cPow (i j : Int) : Bool := decide (0 ≤ j ∧ j ≤ 1000000 ∧ i.natAbs < 2 ^ 64)
def gPow : M → M → Option M := gII cPow fun i j => .int (i ^ j.toNat)
def rPow' : R2 := rI CPow fun i j => .int (i ^ j.toNat)
theorem opv_pow {K : PySem.W.Frag} : OpV K rPow' gPow := opv_ii (fun _ _ h => by have q := of_decide_eq_true h; exact q) fun _ _ _ => .int _
/-! ### < <= > >= of ints -/
def gLt : M → M → Option M := gII (fun _ _ => true) fun i j => .bool (decide (i < j))
def gLe : M → M → Option M := gII (fun _ _ => true) fun i j => .bool (decide (i ≤ j))
def gGt : M → M → Option M := gII (fun _ _ => true) fun i j => .bool (decide (j < i))
def gGe : M → M → Option M := gII (fun _ _ => true) fun i j => .bool (decide (j ≤ i))
def rLt' : R2 := rI0 fun i j => .bl (decide (i < j))
def rLe' : R2 := rI0 fun i j => .bl (decide (i ≤ j))
def rGt' : R2 := rI0 fun i j => .bl (decide (j < i))
def rGe' : R2 := rI0 fun i j => .bl (decide (j ≤ i))
theorem opv_lt {K : PySem.W.Frag} : OpV K rLt' gLt := opv_ii0 fun _ _ _ => .bl _
theorem opv_le {K : PySem.W.Frag} : OpV K rLe' gLe := opv_ii0 fun _ _ _ => .bl _
theorem opv_gt {K : PySem.W.Frag} : OpV K rGt' gGt := opv_ii0 fun _ _ _ => .bl _
theorem opv_ge {K : PySem.W.Frag} : OpV K rGe' gGe := opv_ii0 fun _ _ _ => .bl _
/-! ### == != -/
def eqD : M → M → Option Bool
  | .p (.int i), .p (.int j) => some (decide (i = j))
  | .p (.str a), .p (.str b) => some (decide (a = b))
  | .p (.bool a), .p (.bool b) => some (decide (a = b))
  | x, y => if SeqAt.shaped x.dat = true ∧ SeqAt.shaped y.dat = true then some (PyData.eqv x.dat y.dat) else none
def gEq (x y : M) : Option M := (eqD x y).map fun b => .p (.bool b)
def gNe (x y : M) : Option M := (eqD x y).map fun b => .p (.bool (!b))
theorem noDic_lay : ∀ (d : D), d.canLay0 = true → noDic d = true := by
  intro d
  refine PyData.rec (motive_1 := fun d => d.canLay0 = true → noDic d = true) (motive_2 := fun ds => PyData.canLayAll0 ds = true → noDicA ds = true) (motive_3 := fun _ => True) (motive_4 := fun _ => True) ?_ ?_ ?_ ?_ ?_ ?_ ?_ ?_ ?_ ?_ ?_ ?_ d
  · intro _; rfl
  · intro _ _; rfl
  · intro _ _; rfl
  · intro _ _; rfl
  · intro xs ih h
    simp only [PyData.canLay0] at h
    simpa [noDic] using ih h
  · intro xs ih h
    simp only [PyData.canLay0] at h
    simpa [noDic] using ih h
  · intro kvs _ h
    simp [PyData.canLay0] at h
  · intro _; rfl
  · intro x xs h1 h2 h
    simp only [PyData.canLayAll0, Bool.and_eq_true] at h
    simp only [noDicA, Bool.and_eq_true]
    exact ⟨h1 h.1, h2 h.2⟩
  · trivial
  · intros; trivial
  · intros; trivial
theorem noDic_shaped {d : D} (h : SeqAt.shaped d = true) : noDic d = true := noDic_lay d (SeqAt.canLay_of_shaped h)
def rEq' (K : PySem.W.Frag) : R2 := fun x y H Q => rEq x y H Q ∨ rEqD K x y H Q
def rNe' (K : PySem.W.Frag) : R2 := fun x y H Q => rNe x y H Q ∨ rNeD K x y H Q
theorem op_eqA {X : Cx} (hu : X.A.units + 64 < cLine) : OpR X (compareOp .Eq) (rEq' X.K) := op_eq.or (op_eqD hu)
theorem op_neA {X : Cx} (hu : X.A.units + 64 < cLine) : OpR X (compareOp .NotEq) (rNe' X.K) := op_ne.or (op_neD hu)
theorem eqd_ok {K : PySem.W.Frag} {Z H : Hp} {m1 m2 : M} {v u : V} {A B : List Addr} {k : Bool} (zh : Same Z H) (k1 : m1.ok = true) (k2 : m2.ok = true) (q1 : RM K Z H m1 v A) (q2 : RM K Z H m2 u B) (e : eqD m1 m2 = some k) :
    (scal v u = true ∧ decide (v = u) = k) ∨ ∃ d e, Dp K H v d ∧ Dp K H u e ∧ SeqAt.shaped d = true ∧ SeqAt.shaped e = true ∧ PyData.eqv d e = k := by
  unfold eqD at e
  split at e
  · cases e
    obtain rfl := int_rm q1
    obtain rfl := int_rm q2
    exact .inl ⟨rfl, by simp⟩
  · cases e
    obtain rfl := str_rm q1
    obtain rfl := str_rm q2
    exact .inl ⟨rfl, by simp⟩
  · cases e
    obtain rfl := bl_rm q1
    obtain rfl := bl_rm q2
    exact .inl ⟨rfl, by simp⟩
  · split at e
    · rename_i h
      cases e
      have r1 : Rp H v m1.dat := q1.rp k1 zh (fun _ _ _ e => e) fun _ _ e => e
      have r2 : Rp H u m2.dat := q2.rp k2 zh (fun _ _ _ e => e) fun _ _ e => e
      exact .inr ⟨_, _, r1.dp (Same.refl _) (noDic_shaped h.1), r2.dp (Same.refl _) (noDic_shaped h.2), h.1, h.2, rfl⟩
    · cases e
theorem opv_eq {K : PySem.W.Frag} : OpV K (rEq' K) gEq := by
  intro Z H m1 m2 m v u A B Q zh k1 k2 q1 q2 e q
  obtain ⟨k, e1, rfl⟩ := Option.map_eq_some_iff.mp e
  rcases eqd_ok zh k1 k2 q1 q2 e1 with ⟨h1, h2⟩ | ⟨d, e, h1, h2, h3, h4, h5⟩
  · exact .inl ⟨h1, by rw [h2]; exact q _ Z H [] (Res.pure zh (.bl _))⟩
  · exact .inr ⟨d, e, h1, h2, h3, h4, by rw [h5]; exact q _ Z H [] (Res.pure zh (.bl _))⟩
theorem opv_ne {K : PySem.W.Frag} : OpV K (rNe' K) gNe := by
  intro Z H m1 m2 m v u A B Q zh k1 k2 q1 q2 e q
  obtain ⟨k, e1, rfl⟩ := Option.map_eq_some_iff.mp e
  rcases eqd_ok zh k1 k2 q1 q2 e1 with ⟨h1, h2⟩ | ⟨d, e, h1, h2, h3, h4, h5⟩
  · exact .inl ⟨h1, by rw [h2]; exact q _ Z H [] (Res.pure zh (.bl _))⟩
  · exact .inr ⟨d, e, h1, h2, h3, h4, by rw [h5]; exact q _ Z H [] (Res.pure zh (.bl _))⟩
/-! ### is -/
def isD : M → M → Option Bool
  | x, .p .none => some (match x with
    | .p .none => true
    | _ => false)
  | .p (.bool a), .p (.bool b) => some (decide (a = b))
  | _, _ => none
def gIs (x y : M) : Option M := (isD x y).map fun b => .p (.bool b)
def gIsN (x y : M) : Option M := (isD x y).map fun b => .p (.bool (!b))
def rIs' : R2 := fun x y H Q => (y = .non ∧ Q (.bl (decide (x = .non))) H) ∨ rIsB x y H Q
def rIsN' : R2 := fun x y H Q => (y = .non ∧ Q (.bl (!decide (x = .non))) H) ∨ rNotB x y H Q
theorem op_isA {X : Cx} : OpR X (compareOp .Is) rIs' := op_isN.or op_isBl
theorem op_isnA {X : Cx} : OpR X (compareOp .IsNot) rIsN' := op_notN.or op_notBl
theorem isd_ok {K : PySem.W.Frag} {Z H : Hp} {m1 m2 : M} {v u : V} {A B : List Addr} {k : Bool} (q1 : RM K Z H m1 v A) (q2 : RM K Z H m2 u B) (e : isD m1 m2 = some k) :
    (u = .non ∧ decide (v = .non) = k) ∨ ∃ a b : Bool, v = .bl a ∧ u = .bl b ∧ decide (a = b) = k := by
  unfold isD at e
  split at e
  · cases e
    obtain rfl := non_rm q2
    refine .inl ⟨rfl, ?_⟩
    split
    · obtain rfl := non_rm q1
      simp
    · rename_i hn
      refine decide_eq_false ?_
      rintro rfl
      cases m1 with
      | p d =>
        obtain ⟨q, _⟩ := q1
        cases q
        exact hn rfl
      | lst ds => obtain ⟨a, vs, e, _⟩ := q1; cases e
      | dct ds => obtain ⟨a, e, _⟩ := q1; cases e
      | tup ds => obtain ⟨a, vs, e, _⟩ := q1; cases e
      | scr ds => obtain ⟨a, e, _⟩ := q1; cases e
      | fd f => obtain ⟨a, b, e, _⟩ := q1; cases e
  · cases e
    exact .inr ⟨_, _, bl_rm q1, bl_rm q2, rfl⟩
  · cases e
theorem opv_is {K : PySem.W.Frag} : OpV K rIs' gIs := by
  intro Z H m1 m2 m v u A B Q zh k1 k2 q1 q2 e q
  obtain ⟨k, e1, rfl⟩ := Option.map_eq_some_iff.mp e
  rcases isd_ok q1 q2 e1 with ⟨h1, h2⟩ | ⟨a, b, h1, h2, h3⟩
  · exact .inl ⟨h1, by rw [h2]; exact q _ Z H [] (Res.pure zh (.bl _))⟩
  · exact .inr ⟨a, b, h1, h2, by rw [h3]; exact q _ Z H [] (Res.pure zh (.bl _))⟩
theorem opv_isn {K : PySem.W.Frag} : OpV K rIsN' gIsN := by
  intro Z H m1 m2 m v u A B Q zh k1 k2 q1 q2 e q
  obtain ⟨k, e1, rfl⟩ := Option.map_eq_some_iff.mp e
  rcases isd_ok q1 q2 e1 with ⟨h1, h2⟩ | ⟨a, b, h1, h2, h3⟩
  · exact .inl ⟨h1, by rw [h2]; exact q _ Z H [] (Res.pure zh (.bl _))⟩
  · exact .inr ⟨a, b, h1, h2, by rw [h3]; exact q _ Z H [] (Res.pure zh (.bl _))⟩
/-! ### - not of ints -/
def gNeg : M → Option M
  | .p (.int i) => some (.p (.int (-i)))
  | _ => none
theorem unv_neg {K : PySem.W.Frag} : UnV K (rU fun i => .int (-i)) gNeg := by
  intro Z H m1 m v A Q zh k1 q1 e q
  unfold gNeg at e
  split at e
  · cases e
    obtain rfl := int_rm q1
    exact ⟨_, rfl, q _ Z H [] (Res.pure zh (.int _))⟩
  · cases e
end Iv

set_option Elab.async false
set_option linter.all false
set_option maxRecDepth 100000
/-! Iv, part 5: subscripts, slices, displays, calls of built-ins. -/
namespace Iv
open PySem PySem.Spec L2

theorem ixN_lt {n : Nat} {i : Int} {k : Nat} (h : ixN n i = some k) : k < n := by
  unfold ixN at h
  split at h
  · split at h
    · cases h; omega
    · cases h
  · split at h
    · cases h; omega
    · cases h
theorem RpA.atI {Z : Hp} {vs : List V} {ds : List D} (r : RpA Z vs ds) {i : Int} {d : D} (h : atI ds i = some d) : ∃ v, L2.atI vs i = some v ∧ Rp Z v d := by
  unfold L2.atI at h ⊢
  rw [r.length]
  obtain ⟨k, h1, h2⟩ := Option.bind_eq_some_iff.mp h
  obtain ⟨v, h3, h4⟩ := r.get h2
  exact ⟨v, by rw [h1]; exact h3, h4⟩
theorem RCs.len {Z H : Hp} : ∀ {cs : List C} {vs : List V} {A : List Addr}, RCs Z H cs vs A → cs.length = vs.length
  | [], [], _, _ => rfl
  | c :: cs, v :: vs, A, r => by
    obtain ⟨A1, A2, r1, r2, rfl⟩ := r
    simp [r2.len]
  | [], _ :: _, _, r => r.elim
  | _ :: _, [], _, r => r.elim
/-! ### a[b], b an int -/
def ixX (x : X) (m : M) (i : Int) : Option X := match m with
  | .tup cs => (ixN cs.length i).bind fun k => match cs[k]? with
    | some (.p d) => some (.m (.p d))
    | some (.l ds) => match x with
      | .m _ => some (.m (.lst ds))
      | .r j => some (.rc j k)
      | .rc _ _ => none
    | none => none
  | .p (.str s) => if s.length ≤ sizeLine then (atI s.cps.toList i).map fun c => .m (.p (.str ⟨#[c]⟩)) else none
  | .p (.list ds) => (atI ds i).map fun d => .m (.p d)
  | .p (.tuple ds) => (atI ds i).map fun d => .m (.p d)
  | .lst ds => (atI ds i).map fun d => .m (.p d)
  | _ => none
def dIx (a b : Ev) : Ev := fun ρ => (a ρ).bind fun p => (b p.2).bind fun q => (p.1.res q.2).bind fun m => (q.1.res q.2).bind fun k => match k with
  | .p (.int i) => (ixX p.1 m i).map fun x => (x, q.2)
  | _ => none
theorem End.p {K : PySem.W.Frag} {Z H Z' H' : Hp} {F F' : Nat → List Addr} {σ : St} {ρ' : En} {v : V} {d : D} (r : Rp Z' v d) (m : Mid K Z H (Ow F) σ ρ' Z' H' F') : End K Z H F σ ρ' (.m (.p d)) v Z' H' F' [] :=
  ⟨m, ⟨⟨r, rfl⟩, List.nodup_nil, (fun a h => by cases h)⟩, fun a h => by cases h⟩
section
variable {X : Cx} {e a b : Expr} {pos : Pos}
theorem ve_ix {da db : Ev} (hs : PlainIx b) (ha : VE X a da) (hb : VE X b db) : VE X (.Subscript a b pos) (dIx da db) := pe_mono (pe_ix ix_seq ha hb hs) fun σ H Q ⟨Z, ρ, F, x, ρ2, rs, ed, q⟩ => by
  obtain ⟨⟨xa, ρa⟩, ea, ed⟩ := Option.bind_eq_some_iff.mp ed
  obtain ⟨⟨xb, ρb⟩, eb, ed⟩ := Option.bind_eq_some_iff.mp ed
  obtain ⟨m1, e1, ed⟩ := Option.bind_eq_some_iff.mp ed
  obtain ⟨m2, e2, ed⟩ := Option.bind_eq_some_iff.mp ed
  dsimp only at ed e1 e2
  split at ed
  · rename_i i
    obtain ⟨x', ex, ed⟩ := Option.map_eq_some_iff.mp ed
    cases ed
    refine ⟨Z, ρ, F, xa, ρa, rs, ea, fun v Z1 H1 F1 A1 E1 => ⟨Z1, ρa, F1, xb, _, E1.mid.rs, eb, fun u Z2 H2 F2 A2 E2 => ?_⟩⟩
    have R1 := E1.rx.keep E1.mid.rs E2.mid
    obtain ⟨k1, B1, q1, hB1⟩ := R1.rm E2.mid.rs e1
    obtain ⟨k2, B2, q2, _⟩ := E2.rx.rm E2.mid.rs e2
    obtain rfl := int_rm q2
    have M12 := E1.mid.trans E2.mid
    have seq : ∀ {ds : List D} {d : D}, m1.its = some ds → atI ds i = some d → x = .m (.p d) → rIx X.K v (.int i) H2 Q := fun hi hd hx => by
      subst hx
      obtain ⟨p, vs, rfl, h, r⟩ := its_rm q1 M12.rs.zh hi
      obtain ⟨z, hz, rz⟩ := r.atI hd
      have fin := q z Z2 H2 F2 [] (End.p rz M12)
      rcases h with h | h
      · exact .inl ⟨p, vs, i, z, rfl, rfl, SqL.of h, hz, fin⟩
      · exact .inr (.inl ⟨p, vs, i, z, rfl, rfl, SqT.of h, hz, fin⟩)
    cases m1 with
    | tup cs =>
      simp only [ixX] at ex
      obtain ⟨k, hk, ex⟩ := Option.bind_eq_some_iff.mp ex
      obtain ⟨t, vs, rfl, ht, rc⟩ := q1
      have hl := rc.len
      obtain ⟨w, hv⟩ : ∃ w, vs[k]? = some w := ⟨_, List.getElem?_eq_getElem (by rw [← hl]; exact ixN_lt hk)⟩
      have at_ : atI vs i = some w := by
        unfold atI
        rw [← hl, hk]
        exact hv
      have goal : (∀ B, (∃ c, cs[k]? = some c ∧ RC Z2 H2 c w B ∧ ∀ b ∈ B, b ∈ B1) → Q w H2) → rIx X.K (.ref t) (.int i) H2 Q := fun g => by
        refine .inr (.inl ⟨t, vs, i, _, rfl, rfl, SqT.of ht, at_, ?_⟩)
        have hc : cs[k]? = some (cs[k]'(ixN_lt hk)) := List.getElem?_eq_getElem _
        obtain ⟨B, r, s⟩ := rc.get hc hv
        exact g B ⟨_, hc, r, s⟩
      split at ex
      · rename_i d hc
        cases ex
        refine goal fun B ⟨c, hc', r, s⟩ => ?_
        rw [hc] at hc'
        cases hc'
        exact q _ Z2 H2 F2 [] (End.p r.1 M12)
      · rename_i ds hc
        cases xa with
        | m m' =>
          cases ex
          refine goal fun B ⟨c, hc', r, s⟩ => ?_
          rw [hc] at hc'
          cases hc'
          obtain ⟨a, ws, e, rfl, h, ra⟩ := r
          have ha : a ∈ A1 := by
            rcases hB1 a (s a (by simp)) with z | ⟨j, z, _⟩
            · exact z
            · cases z
          refine q _ Z2 H2 F2 [a] ⟨M12, ⟨⟨a, ws, e, rfl, h, ra⟩, by simp, fun b hb => ?_⟩, fun b hb => ?_⟩
          · obtain rfl : b = a := by simpa using hb
            exact (R1.ownA _ ha).2
          · obtain rfl : b = a := by simpa using hb
            rcases E1.nw _ ha with z | z
            · exact .inl z
            · exact .inr z
        | r j =>
          cases ex
          refine goal fun B _ => q _ Z2 H2 F2 [] ⟨M12, ⟨rfl, t, vs, R1.2, ht, hv⟩, fun b hb => by cases hb⟩
        | rc j k' => cases ex
      · cases ex
    | p d =>
      cases d with
      | str s =>
        simp only [ixX] at ex
        split at ex
        · rename_i hz
          obtain ⟨c, hc, ex⟩ := Option.map_eq_some_iff.mp ex
          subst ex
          obtain rfl := str_rm q1
          exact .inr (.inr ⟨s, i, c, rfl, rfl, hz, hc, q _ Z2 H2 F2 [] (End.p (.str _) M12)⟩)
        · cases ex
      | list ds =>
        obtain ⟨d, hd, ex⟩ := Option.map_eq_some_iff.mp ex
        exact seq rfl hd ex.symm
      | tuple ds =>
        obtain ⟨d, hd, ex⟩ := Option.map_eq_some_iff.mp ex
        exact seq rfl hd ex.symm
      | _ => cases ex
    | lst ds =>
      obtain ⟨d, hd, ex⟩ := Option.map_eq_some_iff.mp ex
      exact seq rfl hd ex.symm
    | _ => cases ex
  · cases ed
/-! ### a[lo:hi] -/
def cut {α : Type} (xs : List α) (lo hi : Option Int) : List α := (xs.drop (HT.sIx xs.length 0 lo)).take (HT.sIx xs.length xs.length hi - HT.sIx xs.length 0 lo)
def gSl (lo hi : Option Int) : M → Option M
  | .p (.str s) => if s.length ≤ sizeLine then some (.p (.str (cutS s lo hi))) else none
  | .p (.list ds) => some (.lst (cut ds lo hi))
  | .lst ds => some (.lst (cut ds lo hi))
  | _ => none
abbrev Ov := En → Option (Option Int × En)
def dNo : Ov := fun ρ => some (none, ρ)
def dPt (a : Ev) : Ov := fun ρ => (a ρ).bind fun p => (p.1.res p.2).bind fun m => match m with
  | .p (.int i) => some (some i, p.2)
  | _ => none
def dSl (a : Ev) (lo hi : Ov) : Ev := fun ρ => (a ρ).bind fun p => (lo p.2).bind fun l => (hi l.2).bind fun h => (p.1.res h.2).bind fun m => (gSl l.1 h.1 m).map fun z => (.m z, h.2)
def rdO (K : PySem.W.Frag) (d : Ov) : TO := fun σ H Q => ∃ Z ρ F b ρ', RS K Z H ρ σ F ∧ d ρ = some (b, ρ') ∧ ∀ Z' H' F', Mid K Z H (Ow F) σ ρ' Z' H' F' → Q b H'
def VO (X : Cx) (e : Option Expr) (d : Ov) : Prop := PO X e (rdO X.K d)
theorem po_mono {e : Option Expr} {t t' : TO} (h : PO X e t) (k : ∀ σ H Q, t' σ H Q → t σ H Q) : PO X e t' := ⟨fun pins s σ H Q I q => h.run pins s σ H Q I (k σ H Q q)⟩
theorem vo_none : VO X none dNo := po_mono po_none fun σ H Q ⟨Z, ρ, F, x, ρ2, rs, ed, q⟩ => by
  cases ed
  exact q Z H F rs.refl
theorem vo_some {da : Ev} (h : VE X a da) : VO X (some a) (dPt da) := po_mono (po_some h) fun σ H Q ⟨Z, ρ, F, x, ρ2, rs, ed, q⟩ => by
  obtain ⟨⟨xa, ρa⟩, ea, ed⟩ := Option.bind_eq_some_iff.mp ed
  obtain ⟨m1, e1, ed⟩ := Option.bind_eq_some_iff.mp ed
  split at ed
  · cases ed
    refine ⟨Z, ρ, F, xa, _, rs, ea, fun v Z1 H1 F1 A1 E1 => ?_⟩
    obtain ⟨k1, B1, q1, hB1⟩ := E1.rx.rm E1.mid.rs e1
    exact ⟨_, int_rm q1, q Z1 H1 F1 E1.mid⟩
  · cases ed
theorem ve_sl {da : Ev} {lo hi : Option Expr} {dl dh : Ov} {p2 : Pos} (ha : VE X a da) (hl : VO X lo dl) (hh : VO X hi dh) : VE X (.Subscript a (.Slice lo hi none p2) pos) (dSl da dl dh) := pe_mono (pe_slice (sl_list.or sl_str) ha hl hh) fun σ H Q ⟨Z, ρ, F, x, ρ2, rs, ed, q⟩ => by
  obtain ⟨⟨xa, ρa⟩, ea, ed⟩ := Option.bind_eq_some_iff.mp ed
  obtain ⟨⟨l, ρl⟩, el, ed⟩ := Option.bind_eq_some_iff.mp ed
  obtain ⟨⟨h, ρh⟩, eh, ed⟩ := Option.bind_eq_some_iff.mp ed
  obtain ⟨m1, e1, ed⟩ := Option.bind_eq_some_iff.mp ed
  obtain ⟨z, ez, ed⟩ := Option.map_eq_some_iff.mp ed
  cases ed
  refine ⟨Z, ρ, F, xa, ρa, rs, ea, fun v Z1 H1 F1 A1 E1 => ⟨Z1, ρa, F1, l, ρl, E1.mid.rs, el, fun Z2 H2 F2 M2 => ⟨Z2, ρl, F2, h, _, M2.rs, eh, fun Z3 H3 F3 M3 => ?_⟩⟩⟩
  have R1 := (E1.rx.keep E1.mid.rs M2).keep M2.rs M3
  obtain ⟨k1, B1, q1, hB1⟩ := R1.rm M3.rs e1
  have MM := (E1.mid.trans M2).trans M3
  have lis : ∀ {ds : List D}, m1.ls = some ds → z = .lst (cut ds l h) → rSlL X.K v l h H3 Q := fun hi hz => by
    subst hz
    obtain ⟨p, vs, rfl, hp, r⟩ := ls_rm q1 MM.rs.zh hi
    refine ⟨p, vs, rfl, SqL.of hp, fun p' hp' => q _ _ _ _ _ (MM.then (Res.fin (Res.list MM.rs.zh hp' ?_) MM.rs))⟩
    unfold cut cutV
    rw [r.length]
    exact (r.drop _).take _
  unfold gSl at ez
  split at ez
  · split at ez
    · cases ez
      obtain rfl := str_rm q1
      exact .inr ⟨_, rfl, by assumption, q _ Z3 H3 F3 [] (End.p (.str _) MM)⟩
    · cases ez
  · cases ez; exact .inl (lis rfl rfl)
  · cases ez; exact .inl (lis rfl rfl)
  · cases ez
/-- xs[::-1] -/
def gRev (m : M) : Option M := m.ls.map fun ds => .lst ds.reverse
theorem ve_rev {da : Ev} {k : Nat} {p1 p2 p3 : Pos} (ha : VE X a da) : VE X (.Subscript a (.Slice none none (some (.UnaryOp .USub (.Constant (.int 1) k p1) p2)) p3) pos) (dUn gRev da) := pe_mono (pe_revL ha) (un_rd (by
  intro Z H m1 m v A Q zh k1 q1 e q
  obtain ⟨ds, e1, rfl⟩ := Option.map_eq_some_iff.mp e
  obtain ⟨p, vs, rfl, hp, r⟩ := ls_rm q1 zh e1
  exact ⟨p, vs, rfl, SqL.of hp, fun p' hp' => q _ _ _ _ (Res.list zh hp' r.reverse)⟩))

/-! ### displays -/
abbrev Lv := En → Option (List D × En)
def dNil : Lv := fun ρ => some ([], ρ)
def dCons (a : Fv) (r : Lv) : Lv := fun ρ => (a ρ).bind fun p => (r p.2).bind fun q => some (p.1 :: q.1, q.2)
def rdL (K : PySem.W.Frag) (d : Lv) : TA := fun σ H Q => ∃ Z ρ F b ρ', RS K Z H ρ σ F ∧ d ρ = some (b, ρ') ∧ ∀ vs Z' H' F', Mid K Z H (Ow F) σ ρ' Z' H' F' → RpA Z' vs b → Q vs H'
def VL (X : Cx) (es : List Expr) (d : Lv) : Prop := PA X es (rdL X.K d)
variable {es : List Expr}
theorem vl_nil : VL X [] dNil := pa_mono pa_nil fun σ H Q ⟨Z, ρ, F, x, ρ2, rs, ed, q⟩ => by
  cases ed
  exact q [] Z H F rs.refl .nil
theorem vl_cons {da : Fv} {dr : Lv} (hs : starEach (e :: es) X.env = (false, eval e X.env) :: starEach es X.env) (ha : VF X e da) (hr : VL X es dr) : VL X (e :: es) (dCons da dr) := pa_mono (pa_cons ha hr hs) fun σ H Q ⟨Z, ρ, F, x, ρ2, rs, ed, q⟩ => by
  obtain ⟨⟨xa, ρa⟩, ea, ed⟩ := Option.bind_eq_some_iff.mp ed
  obtain ⟨⟨xr, ρr⟩, er, ed⟩ := Option.bind_eq_some_iff.mp ed
  cases ed
  exact ⟨Z, ρ, F, xa, ρa, rs, ea, fun v Z1 H1 F1 M1 R1 => ⟨Z1, ρa, F1, xr, _, M1.rs, er, fun vs Z2 H2 F2 M2 R2 => q _ Z2 H2 F2 (M1.trans M2) (.cons (R1.mono M2.zz) R2)⟩⟩
def dLst (d : Lv) : Ev := fun ρ => (d ρ).bind fun p => if p.1.length ≤ sizeLine then some (.m (.lst p.1), p.2) else none
def dTup (d : Lv) : Ev := fun ρ => (d ρ).bind fun p => if p.1.length ≤ sizeLine then some (.m (.p (.tuple p.1)), p.2) else none
theorem ve_lst {d : Lv} (h : VL X es d) : VE X (.List es pos) (dLst d) := pe_mono (pe_lst h) fun σ H Q ⟨Z, ρ, F, x, ρ2, rs, ed, q⟩ => by
  obtain ⟨⟨xa, ρa⟩, ea, ed⟩ := Option.bind_eq_some_iff.mp ed
  split at ed
  · cases ed
    exact ⟨Z, ρ, F, xa, _, rs, ea, fun vs Z1 H1 F1 M1 R1 => ⟨by rw [R1.length]; assumption, fun p hp => q _ _ _ _ _ (M1.then (Res.fin (Res.list M1.rs.zh hp R1) M1.rs))⟩⟩
  · cases ed
theorem ve_tup {d : Lv} {k : Nat} (h : VL X es d) : VE X (.Tuple es k pos) (dTup d) := pe_mono (pe_tup h) fun σ H Q ⟨Z, ρ, F, x, ρ2, rs, ed, q⟩ => by
  obtain ⟨⟨xa, ρa⟩, ea, ed⟩ := Option.bind_eq_some_iff.mp ed
  split at ed
  · cases ed
    exact ⟨Z, ρ, F, xa, _, rs, ea, fun vs Z1 H1 F1 M1 R1 => ⟨by rw [R1.length]; assumption, fun p hp => q _ _ _ _ _ (M1.then (Res.fin (Res.tuple M1.rs.zh hp R1) M1.rs))⟩⟩
  · cases ed

/-! ### calls of built-ins -/
theorem ve_b1 {x : Str} {p : Pos} {id : String} {r : List V → Hp → VK → Prop} {g : M → Option M} {da : Ev} (hc : CallR X (.builtin id) r) (ho : UnV X.K (fun v H Q => r [v] H Q) g) (hg : Gl X x) (hm : X.mg x = none) (hv : bootBuiltins x = some (.builtin id)) (hn : x ≠ "__name__") (hdb : (x == ("__debug__" : Str)) = false)
    (hs : starEach [a] X.env = [(false, eval a X.env)]) (ha : VE X a da) : VE X (.Call (.Name x p) [a] [] pos) (dUn g da) :=
  pe_mono (pe_callB hc hg hm hv (pa_cons ha pa_nil hs) hn hdb hs rfl) fun σ H Q h => un_rd ho σ H Q h
theorem ve_t1 {x : Str} {p : Pos} {id : String} {r : List V → Hp → VK → Prop} {g : M → Option M} {da : Ev} (hc : CallR X (.type id) r) (ho : UnV X.K (fun v H Q => r [v] H Q) g) (hg : Gl X x) (hm : X.mg x = none) (hv : bootBuiltins x = some (.type id)) (hn : x ≠ "__name__") (hdb : (x == ("__debug__" : Str)) = false)
    (hs : starEach [a] X.env = [(false, eval a X.env)]) (ha : VE X a da) : VE X (.Call (.Name x p) [a] [] pos) (dUn g da) :=
  pe_mono (pe_callTy hc hg hm hv (pa_cons ha pa_nil hs) hn hdb hs rfl) fun σ H Q h => un_rd ho σ H Q h
theorem ve_b2 {x : Str} {p : Pos} {id : String} {r : List V → Hp → VK → Prop} {g : M → M → Option M} {da db : Ev} (hc : CallR X (.builtin id) r) (ho : OpV X.K (fun v u H Q => r [v, u] H Q) g) (hg : Gl X x) (hm : X.mg x = none) (hv : bootBuiltins x = some (.builtin id)) (hn : x ≠ "__name__") (hdb : (x == ("__debug__" : Str)) = false)
    (hs : starEach [a, b] X.env = [(false, eval a X.env), (false, eval b X.env)]) (hs2 : starEach [b] X.env = [(false, eval b X.env)]) (ha : VE X a da) (hb : VE X b db) : VE X (.Call (.Name x p) [a, b] [] pos) (dBin g da db) :=
  pe_mono (pe_callB hc hg hm hv (pa_cons ha (pa_cons hb pa_nil hs2) (by rw [hs, hs2])) hn hdb (by rw [hs, hs2]) (by rw [hs2]; rfl)) fun σ H Q h => bin_rd ho σ H Q h
end
section
variable {K : PySem.W.Frag}
def gInt1 (f : Int → D) : M → Option M
  | .p (.int i) => some (.p (f i))
  | _ => none
theorem unv_abs : UnV K (fun v H Q => ∃ i, [v] = [.int i] ∧ Q (.int (if i < 0 then -i else i)) H) (gInt1 fun i => .int (if i < 0 then -i else i)) := by
  intro Z H m1 m v A Q zh k1 q1 e q
  unfold gInt1 at e
  split at e
  · cases e
    obtain rfl := int_rm q1
    exact ⟨_, rfl, q _ Z H [] (Res.pure zh (.int _))⟩
  · cases e
def gInt : M → Option M
  | .p (.int i) => some (.p (.int i))
  | .p (.bool b) => some (.p (.int (if b then 1 else 0)))
  | _ => none
theorem unv_int : UnV K (fun v H Q => (∃ i, [v] = [.int i] ∧ Q (.int i) H) ∨ ∃ k, [v] = [.bl k] ∧ Q (.int (if k then 1 else 0)) H) gInt := by
  intro Z H m1 m v A Q zh k1 q1 e q
  unfold gInt at e
  split at e
  · cases e
    obtain rfl := int_rm q1
    exact .inl ⟨_, rfl, q _ Z H [] (Res.pure zh (.int _))⟩
  · cases e
    obtain rfl := bl_rm q1
    exact .inr ⟨_, rfl, q _ Z H [] (Res.pure zh (.int _))⟩
  · cases e
def lenM : M → Option Nat
  | .p (.str s) => if s.length ≤ sizeLine then some s.length else none
  | .p (.list ds) => some ds.length
  | .p (.tuple ds) => some ds.length
  | .lst ds => some ds.length
  | .tup cs => some cs.length
  | _ => none
def gLen (m : M) : Option M := (lenM m).map fun (n : Nat) => .p (.int (n : Int))
theorem unv_len : UnV K (fun v H Q => ∃ x n, [v] = [x] ∧ LenV K x H n ∧ Q (.int n) H) gLen := by
  intro Z H m1 m v A Q zh k1 q1 e q
  obtain ⟨n, en, rfl⟩ := Option.map_eq_some_iff.mp e
  refine ⟨v, n, rfl, ?_, q _ Z H [] (Res.pure zh (.int _))⟩
  have seq : ∀ {ds : List D}, m1.its = some ds → ds.length = n → LenV K v H n := fun hi hd => by
    obtain ⟨p, vs, rfl, h, r⟩ := its_rm q1 zh hi
    rcases h with h | h
    · exact .inl ⟨vs, SqL.of h, by rw [r.length, hd]⟩
    · exact .inr ⟨vs, SqT.of h, by rw [r.length, hd]⟩
  unfold lenM at en
  split at en
  · split at en
    · cases en
      obtain rfl := str_rm q1
      exact ⟨by assumption, rfl⟩
    · cases en
  · cases en; exact seq rfl rfl
  · cases en; exact seq rfl rfl
  · cases en; exact seq rfl rfl
  · cases en
    obtain ⟨t, vs, rfl, ht, rc⟩ := q1
    exact .inr ⟨vs, SqT.of ht, rc.len⟩
  · cases en
/-- list(x) -/
def gList (m : M) : Option M := m.its.map fun ds => .lst ds
theorem unv_list : UnV K (fun v H Q => ∃ p ys, [v] = [.ref p] ∧ (SqL K H p ys ∨ SqT K H p ys) ∧ ∀ l, H l = none → Q (.ref l) (upd H l (.lst ys))) gList := by
  intro Z H m1 m v A Q zh k1 q1 e q
  obtain ⟨ds, en, rfl⟩ := Option.map_eq_some_iff.mp e
  obtain ⟨p, vs, rfl, h, r⟩ := its_rm q1 zh en
  exact ⟨p, vs, rfl, h.imp SqL.of SqT.of, fun l hl => q _ _ _ _ (Res.list zh hl r)⟩
/-- tuple(x) -/
def gTuple : M → Option M
  | .p (.tuple ds) => some (.p (.tuple ds))
  | m => m.ls.map fun ds => .p (.tuple ds)
theorem unv_tuple : UnV K (fun v H Q => ∃ p ys, [v] = [.ref p] ∧ ((SqL K H p ys ∧ ∀ l, H l = none → Q (.ref l) (upd H l (.tup ys))) ∨ (SqT K H p ys ∧ Q (.ref p) H))) gTuple := by
  intro Z H m1 m v A Q zh k1 q1 e q
  unfold gTuple at e
  split at e
  · cases e
    obtain ⟨q1, _⟩ := q1
    cases q1 with
    | tup h r => exact ⟨_, _, rfl, .inr ⟨SqT.of (zh _ _ h), q _ Z H [] (Res.pure zh (.tup h r))⟩⟩
  · obtain ⟨ds, en, rfl⟩ := Option.map_eq_some_iff.mp e
    obtain ⟨p, vs, rfl, h, r⟩ := ls_rm q1 zh en
    exact ⟨p, vs, rfl, .inl ⟨SqL.of h, fun l hl => q _ _ _ _ (Res.tuple zh hl r)⟩⟩
/-- the ints of data -/
def intsD : List D → Option (List Int)
  | [] => some []
  | .int i :: ds => (intsD ds).map (i :: ·)
  | _ :: _ => none
theorem intsD_ok : ∀ {ds : List D} {ns : List Int}, intsD ds = some ns → ds = ns.map .int
  | [], ns, h => by cases h; rfl
  | .int i :: ds, ns, h => by
    obtain ⟨r, h1, rfl⟩ := Option.map_eq_some_iff.mp (show (intsD ds).map (i :: ·) = some ns from h)
    rw [intsD_ok h1]
    rfl
  | .none :: _, _, h => by cases h
  | .bool _ :: _, _, h => by cases h
  | .str _ :: _, _, h => by cases h
  | .list _ :: _, _, h => by cases h
  | .tuple _ :: _, _, h => by cases h
  | .dict _ :: _, _, h => by cases h
theorem intsD_map (ns : List Int) : intsD (ns.map .int) = some ns := by
  induction ns with
  | nil => rfl
  | cons n ns ih => simp [intsD, ih]
def gSum (m : M) : Option M := m.ls.bind fun ds => (intsD ds).map fun ns => .p (.int ns.sum)
theorem ints_rm {Z H : Hp} {m : M} {v : V} {A : List Addr} {ds : List D} {ns : List Int} (r : RM K Z H m v A) (zh : Same Z H) (h : m.ls = some ds) (h2 : intsD ds = some ns) : ∃ a, v = .ref a ∧ SqL K H a (ns.map V.int) := by
  obtain ⟨p, vs, rfl, h, r⟩ := ls_rm r zh h
  rw [intsD_ok h2] at r
  rw [r.ints] at h
  exact ⟨p, rfl, SqL.of h⟩
theorem unv_sum : UnV K (fun v H Q => rSum K [v] H Q) gSum := by
  intro Z H m1 m v A Q zh k1 q1 e q
  obtain ⟨ds, e1, e⟩ := Option.bind_eq_some_iff.mp e
  obtain ⟨ns, e2, rfl⟩ := Option.map_eq_some_iff.mp e
  obtain ⟨a, rfl, h⟩ := ints_rm q1 zh e1 e2
  exact ⟨a, ns, rfl, h, q _ Z H [] (Res.pure zh (.int _))⟩
def maxL : List Int → Option Int
  | [] => none
  | x :: xs => match maxL xs with
    | none => some x
    | some y => some (if x < y then y else x)
def minL : List Int → Option Int
  | [] => none
  | x :: xs => match minL xs with
    | none => some x
    | some y => some (if y < x then y else x)
theorem maxL_ok : ∀ {ns : List Int} {m : Int}, maxL ns = some m → m ∈ ns ∧ ∀ y ∈ ns, y ≤ m
  | [], m, h => by cases h
  | x :: xs, m, h => by
    unfold maxL at h
    split at h
    · cases h
      rename_i hn
      cases xs with
      | nil => simp
      | cons z zs => unfold maxL at hn; split at hn <;> cases hn
    · rename_i y hy
      obtain ⟨h1, h2⟩ := maxL_ok hy
      cases h
      split
      · exact ⟨List.mem_cons_of_mem _ h1, fun z hz => by
          rcases List.mem_cons.mp hz with rfl | hz
          · omega
          · exact h2 z hz⟩
      · exact ⟨List.mem_cons_self, fun z hz => by
          rcases List.mem_cons.mp hz with rfl | hz
          · exact Int.le_refl _
          · have := h2 z hz; omega⟩
theorem minL_ok : ∀ {ns : List Int} {m : Int}, minL ns = some m → m ∈ ns ∧ ∀ y ∈ ns, m ≤ y
  | [], m, h => by cases h
  | x :: xs, m, h => by
    unfold minL at h
    split at h
    · cases h
      rename_i hn
      cases xs with
      | nil => simp
      | cons z zs => unfold minL at hn; split at hn <;> cases hn
    · rename_i y hy
      obtain ⟨h1, h2⟩ := minL_ok hy
      cases h
      split
      · exact ⟨List.mem_cons_of_mem _ h1, fun z hz => by
          rcases List.mem_cons.mp hz with rfl | hz
          · omega
          · exact h2 z hz⟩
      · exact ⟨List.mem_cons_self, fun z hz => by
          rcases List.mem_cons.mp hz with rfl | hz
          · exact Int.le_refl _
          · have := h2 z hz; omega⟩
def gMaxI (m : M) : Option M := m.ls.bind fun ds => (intsD ds).bind fun ns => (maxL ns).map fun k => .p (.int k)
def gMinI (m : M) : Option M := m.ls.bind fun ds => (intsD ds).bind fun ns => (minL ns).map fun k => .p (.int k)
theorem unv_maxI : UnV K (fun v H Q => rMax K [v] H Q) gMaxI := by
  intro Z H m1 m v A Q zh k1 q1 e q
  obtain ⟨ds, e1, e⟩ := Option.bind_eq_some_iff.mp e
  obtain ⟨ns, e2, e⟩ := Option.bind_eq_some_iff.mp e
  obtain ⟨k, e3, rfl⟩ := Option.map_eq_some_iff.mp e
  obtain ⟨a, rfl, h⟩ := ints_rm q1 zh e1 e2
  obtain ⟨h1, h2⟩ := maxL_ok e3
  refine ⟨a, ns, rfl, h, List.length_pos_of_mem h1, fun z hz hy => ?_⟩
  have : z = k := Int.le_antisymm (h2 z hz) (hy k h1)
  subst this
  exact q _ Z H [] (Res.pure zh (.int _))
theorem unv_minI : UnV K (fun v H Q => rMin K [v] H Q) gMinI := by
  intro Z H m1 m v A Q zh k1 q1 e q
  obtain ⟨ds, e1, e⟩ := Option.bind_eq_some_iff.mp e
  obtain ⟨ns, e2, e⟩ := Option.bind_eq_some_iff.mp e
  obtain ⟨k, e3, rfl⟩ := Option.map_eq_some_iff.mp e
  obtain ⟨a, rfl, h⟩ := ints_rm q1 zh e1 e2
  obtain ⟨h1, h2⟩ := minL_ok e3
  refine ⟨a, ns, rfl, h, List.length_pos_of_mem h1, fun z hz hy => ?_⟩
  have : z = k := Int.le_antisymm (hy k h1) (h2 z hz)
  subst this
  exact q _ Z H [] (Res.pure zh (.int _))
/-- the truth values of data -/
def blsD : List D → Option (List Bool)
  | [] => some []
  | .bool b :: ds => (blsD ds).map (b :: ·)
  | _ :: _ => none
theorem blsD_ok : ∀ {ds : List D} {bs : List Bool}, blsD ds = some bs → ds = bs.map .bool
  | [], ns, h => by cases h; rfl
  | .bool i :: ds, ns, h => by
    obtain ⟨r, h1, rfl⟩ := Option.map_eq_some_iff.mp (show (blsD ds).map (i :: ·) = some ns from h)
    rw [blsD_ok h1]
    rfl
  | .none :: _, _, h => by cases h
  | .int _ :: _, _, h => by cases h
  | .str _ :: _, _, h => by cases h
  | .list _ :: _, _, h => by cases h
  | .tuple _ :: _, _, h => by cases h
  | .dict _ :: _, _, h => by cases h
theorem blsD_map (ns : List Bool) : blsD (ns.map .bool) = some ns := by
  induction ns with
  | nil => rfl
  | cons n ns ih => simp [blsD, ih]
theorem RpA.bls {Z : Hp} : ∀ {vs : List V} {ns : List Bool}, RpA Z vs (ns.map .bool) → vs = ns.map V.bl
  | _, [], .nil => rfl
  | _, _ :: _, .cons (.bl i) r => by simp [r.bls]
def gAny (m : M) : Option M := m.ls.bind fun ds => (blsD ds).map fun bs => .p (.bool (bs.any id))
def gAll (m : M) : Option M := m.ls.bind fun ds => (blsD ds).map fun bs => .p (.bool (bs.all id))
theorem unv_any : UnV K (fun v H Q => rAny K [v] H Q) gAny := by
  intro Z H m1 m v A Q zh k1 q1 e q
  obtain ⟨ds, e1, e⟩ := Option.bind_eq_some_iff.mp e
  obtain ⟨ns, e2, rfl⟩ := Option.map_eq_some_iff.mp e
  obtain ⟨p, vs, rfl, h, r⟩ := ls_rm q1 zh e1
  rw [blsD_ok e2] at r
  rw [r.bls] at h
  exact ⟨p, ns, rfl, SqL.of h, q _ Z H [] (Res.pure zh (.bl _))⟩
theorem unv_all : UnV K (fun v H Q => rAll K [v] H Q) gAll := by
  intro Z H m1 m v A Q zh k1 q1 e q
  obtain ⟨ds, e1, e⟩ := Option.bind_eq_some_iff.mp e
  obtain ⟨ns, e2, rfl⟩ := Option.map_eq_some_iff.mp e
  obtain ⟨p, vs, rfl, h, r⟩ := ls_rm q1 zh e1
  rw [blsD_ok e2] at r
  rw [r.bls] at h
  exact ⟨p, ns, rfl, SqL.of h, q _ Z H [] (Res.pure zh (.bl _))⟩
/-- max(a, b), min(a, b) -/
def gMax2 : M → M → Option M := gII (fun _ _ => true) fun i j => .int (if j > i then j else i)
def gMin2 : M → M → Option M := gII (fun _ _ => true) fun i j => .int (if j < i then j else i)
theorem opv_ii2 {g : Int → Int → Int} : OpV K (fun x y H Q => ∃ i j, [x, y] = [.int i, .int j] ∧ Q (.int (g i j)) H) (gII (fun _ _ => true) fun i j => .int (g i j)) := by
  intro Z H m1 m2 m v u A B Q zh k1 k2 q1 q2 e q
  unfold gII at e
  split at e
  · split at e
    · cases e
      obtain rfl := int_rm q1
      obtain rfl := int_rm q2
      exact ⟨_, _, rfl, q _ Z H [] (Res.pure zh (.int _))⟩
    · cases e
  · cases e
/-- sorted(ints) -/
def insI (x : Int) : List Int → List Int
  | [] => [x]
  | y :: ys => if x ≤ y then x :: y :: ys else y :: insI x ys
def srtI : List Int → List Int
  | [] => []
  | x :: xs => insI x (srtI xs)
theorem insI_perm (x : Int) : ∀ ys, (insI x ys).Perm (x :: ys)
  | [] => .refl _
  | y :: ys => by
    unfold insI
    split
    · exact .refl _
    · exact ((insI_perm x ys).cons y).trans (.swap x y ys)
theorem srtI_perm : ∀ xs, (srtI xs).Perm xs
  | [] => .refl _
  | x :: xs => (insI_perm x _).trans ((srtI_perm xs).cons x)
theorem insI_pw (x : Int) : ∀ {ys : List Int}, ys.Pairwise (· ≤ ·) → (insI x ys).Pairwise (· ≤ ·)
  | [], _ => by simp [insI]
  | y :: ys, h => by
    have h' := List.pairwise_cons.mp h
    unfold insI
    split
    · rename_i hx
      refine List.pairwise_cons.mpr ⟨fun z hz => ?_, h⟩
      rcases List.mem_cons.mp hz with rfl | hz
      · exact hx
      · have := h'.1 z hz; omega
    · rename_i hx
      refine List.pairwise_cons.mpr ⟨fun z hz => ?_, insI_pw x h'.2⟩
      rcases List.mem_cons.mp ((insI_perm x ys).mem_iff.mp hz) with rfl | hz
      · omega
      · exact h'.1 z hz
theorem srtI_pw : ∀ xs : List Int, (srtI xs).Pairwise (· ≤ ·)
  | [] => .nil
  | x :: xs => insI_pw x (srtI_pw xs)
theorem pw_uniq : ∀ {xs ys : List Int}, xs.Perm ys → xs.Pairwise (· ≤ ·) → ys.Pairwise (· ≤ ·) → xs = ys
  | [], ys, p, _, _ => by rw [List.nil_perm.mp p]
  | x :: xs, [], p, _, _ => by have := p.length_eq; simp at this
  | x :: xs, y :: ys, p, h1, h2 => by
    have h1' := List.pairwise_cons.mp h1
    have h2' := List.pairwise_cons.mp h2
    have e : x = y := by
      have a : x ∈ y :: ys := p.mem_iff.mp List.mem_cons_self
      have b : y ∈ x :: xs := p.mem_iff.mpr List.mem_cons_self
      rcases List.mem_cons.mp a with a | a
      · exact a
      · rcases List.mem_cons.mp b with b | b
        · exact b.symm
        · have := h1'.1 y b
          have := h2'.1 x a
          omega
    subst e
    rw [pw_uniq (List.perm_cons x |>.mp p) h1'.2 h2'.2]
def gSortI (m : M) : Option M := m.ls.bind fun ds => (intsD ds).map fun ns => .lst ((srtI ns).map .int)
theorem unv_sortI : UnV K (fun v H Q => rSortedI K [v] H Q) gSortI := by
  intro Z H m1 m v A Q zh k1 q1 e q
  obtain ⟨ds, e1, e⟩ := Option.bind_eq_some_iff.mp e
  obtain ⟨ns, e2, rfl⟩ := Option.map_eq_some_iff.mp e
  obtain ⟨a, rfl, h⟩ := ints_rm q1 zh e1 e2
  refine ⟨a, ns, rfl, h, fun ns' p hp hs hn => ?_⟩
  rw [pw_uniq (hp.trans (srtI_perm ns).symm) hs (srtI_pw ns)]
  exact q _ _ _ _ (Res.list zh hn (RpA.of_ints _))
end
/-! ### isinstance -/
def tyD : D → String
  | .none => "NoneType"
  | .bool _ => "bool"
  | .int _ => "int"
  | .str _ => "str"
  | .list _ => "list"
  | .tuple _ => "tuple"
  | .dict _ => "dict"
/-- isinstance of built-in types -/
def tyT : List String := ["int", "bool", "str", "list", "tuple"]
def isTy (T : String) (d : D) : Option Bool := if T ∈ tyT then some (tyD d == T || (tyD d == "bool" && T == "int")) else none
theorem ty_tab : ∀ a ∈ ["NoneType", "bool", "int", "str", "list", "tuple", "dict"], ∀ T ∈ tyT, kitB a T = some (a == T || (a == "bool" && T == "int")) := by decide +kernel
theorem tyD_mem (d : D) : tyD d ∈ ["NoneType", "bool", "int", "str", "list", "tuple", "dict"] := by cases d <;> simp [tyD]
theorem isTy_kit {T : String} {d : D} {b : Bool} (h : isTy T d = some b) : kitB (tyD d) T = some b := by
  unfold isTy at h
  split at h
  · rename_i q
    rw [← h]
    exact ty_tab _ (tyD_mem d) _ q
  · cases h
theorem Rp.ty {K : PySem.W.Frag} {H : Hp} {v : V} {d : D} (r : Rp H v d) : TyX K H v (.type (tyD d)) := by
  cases r with
  | non => exact .base .non
  | bl b => exact .base (.bl b)
  | int i => exact .base (.int i)
  | str s => exact .base (.str s)
  | lst h _ => exact .base (.lst h)
  | tup h _ => exact .base (.tup h)
  | dic h _ => exact .base (.dK h)
  | diT h _ => exact .base (.dT h)
def gIsI (T : String) (m : M) : Option M := (isTy T m.dat).map fun b => .p (.bool b)
theorem ve_isi {X : Cx} {a : Expr} {x t : Str} {p p2 pos : Pos} {T : String} {da : Ev} (hx : x = "isinstance") (hg : Gl X x) (hm : X.mg x = none) (hgt : Gl X t) (hmt : X.mg t = none) (hvt : bootBuiltins t = some (.type T)) (hn2 : t ≠ "__name__") (hdb2 : (t == ("__debug__" : Str)) = false)
    (hs : starEach [a, .Name t p2] X.env = [(false, eval a X.env), (false, eval (.Name t p2) X.env)]) (ha : VE X a da) : VE X (.Call (.Name x p) [a, .Name t p2] [] pos) (dUn (gIsI T) da) := by
  subst hx
  have hs2 : starEach [.Name t p2] X.env = [(false, eval (.Name t p2) X.env)] := rfl
  refine pe_mono (pe_callB call_isi hg hm (by decide +kernel) (pa_cons ha (pa_cons (pe_bltn hgt hmt hvt (v := .ty T) rfl hn2 hdb2) pa_nil hs2) (by rw [hs, hs2])) (by decide) (by decide) (by rw [hs, hs2]) rfl) fun σ H Q h => ?_
  refine un_rd (r := fun v H Q => rIsi X.K [v, .ty T] H Q) ?_ σ H Q h
  intro Z H m1 m v A Q zh k1 q1 e q
  obtain ⟨b, e1, rfl⟩ := Option.map_eq_some_iff.mp e
  have r : Rp H v m1.dat := q1.rp k1 zh (fun _ _ _ e => e) fun _ _ e => e
  exact ⟨v, .ty T, _, _, b, rfl, .ty T, r.ty, kit_ty (isTy_kit e1), q _ Z H [] (Res.pure zh (.bl _))⟩
end Iv

set_option Elab.async false
set_option linter.all false
set_option maxRecDepth 100000
/-! Iv, part 6: targets, statements, loops. -/
namespace Iv
open PySem PySem.Spec L2

section
variable {K : PySem.W.Frag} {Z Z' Z1 Z2 H H' H1 H2 : Hp} {ρ ρ' ρ1 ρ2 : En} {σ σ' σ1 σ2 : St} {F F' F1 F2 : Nat → List Addr} {O O1 O' : Addr → Prop} {P : List Nat}
theorem Mid.trans' (a : Mid K Z H O σ1 ρ1 Z1 H1 F1) (b : Mid K Z1 H1 O1 σ2 ρ2 Z2 H2 F2) (hO : ∀ x, O x → O' x) (h1 : ∀ x, O1 x → O' x ∨ H x = none) : Mid K Z H O' σ2 ρ2 Z2 H2 F2 := by
  have back : ∀ {x}, H1 x = none → O' x ∨ H x = none := fun h => (a.back h).imp (hO _) id
  refine ⟨b.rs, a.zz.trans b.zz, fun x h => ?_, fun x h => ?_, fun x o h q => ?_⟩
  · rcases b.new x h with h | h
    · exact h1 x h
    · exact back h
  · rcases b.fro x h with h | h | h | ⟨xs, h⟩
    · rcases a.fro x h with h | h | h
      · exact .inl h
      · exact .inr (.inl (hO _ h))
      · exact .inr (.inr h)
    · rcases h1 x h with h | h
      · exact .inr (.inl h)
      · exact .inr (.inr (.inl h))
    · rcases back h with h | h
      · exact .inr (.inl h)
      · exact .inr (.inr (.inl h))
    · by_cases q : O' x
      · exact .inr (.inl q)
      · cases e : H x with
        | none => exact .inr (.inr (.inl rfl))
        | some o =>
          have z := a.frm x o e fun w => q (hO _ w)
          rw [h] at z
          cases z
          exact .inr (.inr (.inr ⟨xs, rfl⟩))
  · refine b.frm x o (a.frm x o h fun w => q (hO _ w)) fun z => ?_
    rcases h1 x z with z | z
    · exact q z
    · rw [h] at z; cases z
/-- the slots in P hold what they held -/
def Keep (P : List Nat) (σ σ' : St) : Prop := σ'.length = σ.length ∧ ∀ i ∈ P, σ'[i]? = σ[i]?
theorem Keep.refl : Keep P σ σ := ⟨rfl, fun _ _ => rfl⟩
theorem Keep.trans (a : Keep P σ σ1) (b : Keep P σ1 σ2) : Keep P σ σ2 := ⟨b.1.trans a.1, fun i h => (b.2 i h).trans (a.2 i h)⟩
theorem Keep.set {i : Nat} {o : Option V} (h : i ∉ P) : Keep P σ (σ.set i o) := ⟨by simp, fun j hj => List.getElem?_set_ne fun z => h (by rw [z]; exact hj)⟩
/-- a thing is put in slot i -/
theorem RS.put (r : RS K Z H ρ σ F) {i : Nat} {m : M} {v : V} {A : List Addr} (h : RX K Z H F σ (.m m) v A) : ∃ F', Mid K Z H (fun a => Ow F a ∨ a ∈ A) (σ.set i (some v)) (ρ.set i (some m)) Z H F' := by
  by_cases hi : i < ρ.length
  · have hi' : i < σ.length := by rw [← r.len]; exact hi
    refine ⟨fun k => if k = i then A else F k, ⟨by simpa using r.len, r.zh, fun k m' q => ?_, fun k q => ?_, fun k l a h1 h2 => ?_, fun k => ?_, fun k a q => ?_⟩, Same.refl _, fun a ⟨k, q⟩ => ?_, fun a q => .inl q, fun _ _ q _ => q⟩
    · by_cases hk : k = i
      · subst hk
        rw [List.getElem?_set_self hi] at q
        cases q
        refine ⟨v, List.getElem?_set_self hi', ?_⟩
        simp only [if_true]
        exact h.1
      · rw [List.getElem?_set_ne (Ne.symm hk)] at q
        obtain ⟨u, e, w⟩ := r.rep k m' q
        refine ⟨u, by rw [List.getElem?_set_ne (Ne.symm hk)]; exact e, ?_⟩
        simp only [if_neg hk]
        exact w
    · by_cases hk : k = i
      · subst hk
        exact absurd (List.getElem?_set_self hi) (q m)
      · simp only [if_neg hk]
        exact r.emp k fun m' z => q m' (by rw [List.getElem?_set_ne (Ne.symm hk)]; exact z)
    · by_cases hk : k = i
      · by_cases hl : l = i
        · exact hk.trans hl.symm
        · simp only [if_pos hk] at h1
          simp only [if_neg hl] at h2
          exact absurd ⟨l, h2⟩ (h.2.2 a h1).2
      · by_cases hl : l = i
        · simp only [if_neg hk] at h1
          simp only [if_pos hl] at h2
          exact absurd ⟨k, h1⟩ (h.2.2 a h2).2
        · simp only [if_neg hk] at h1
          simp only [if_neg hl] at h2
          exact r.dis k l a h1 h2
    · by_cases hk : k = i
      · simp only [if_pos hk]; exact h.2.1
      · simp only [if_neg hk]; exact r.nod k
    · by_cases hk : k = i
      · simp only [if_pos hk] at q; exact (h.2.2 a q).1
      · simp only [if_neg hk] at q; exact r.zfr k a q
    · by_cases hk : k = i
      · simp only [if_pos hk] at q; exact .inl (.inr q)
      · simp only [if_neg hk] at q; exact .inl (.inl ⟨k, q⟩)
  · have e1 : ρ.set i (some m) = ρ := List.set_eq_of_length_le (by omega)
    have e2 : σ.set i (some v) = σ := List.set_eq_of_length_le (by rw [← r.len]; omega)
    rw [e1, e2]
    exact ⟨F, r, Same.refl _, fun a q => .inl (.inl q), fun a q => .inl q, fun _ _ q _ => q⟩
/-- slot i is forgotten -/
theorem RS.drop (r : RS K Z H ρ σ F) (i : Nat) : RS K Z H (ρ.set i none) σ (fun k => if k = i then [] else F k) := by
  refine ⟨by simpa using r.len, r.zh, fun k m' q => ?_, fun k q => ?_, fun k l a h1 h2 => ?_, fun k => ?_, fun k a q => ?_⟩
  · by_cases hk : k = i
    · subst hk
      by_cases hi : k < ρ.length
      · rw [List.getElem?_set_self hi] at q; cases q
      · rw [List.getElem?_eq_none (by simpa using hi)] at q; cases q
    · rw [List.getElem?_set_ne (Ne.symm hk)] at q
      obtain ⟨u, e, w⟩ := r.rep k m' q
      refine ⟨u, e, ?_⟩
      simp only [if_neg hk]
      exact w
  · by_cases hk : k = i
    · simp [hk]
    · simp only [if_neg hk]
      exact r.emp k fun m' z => q m' (by rw [List.getElem?_set_ne (Ne.symm hk)]; exact z)
  · by_cases hk : k = i
    · simp [hk] at h1
    · by_cases hl : l = i
      · simp [hl] at h2
      · simp only [if_neg hk] at h1
        simp only [if_neg hl] at h2
        exact r.dis k l a h1 h2
  · by_cases hk : k = i
    · simp [hk]
    · simp only [if_neg hk]; exact r.nod k
  · by_cases hk : k = i
    · simp [hk] at q
    · simp only [if_neg hk] at q; exact r.zfr k a q
theorem RS.dropM (r : RS K Z H ρ σ F) (i : Nat) : Mid K Z H (Ow F) σ (ρ.set i none) Z H (fun k => if k = i then [] else F k) :=
  ⟨r.drop i, Same.refl _, fun a ⟨k, q⟩ => by
    by_cases hk : k = i
    · simp [hk] at q
    · simp only [if_neg hk] at q; exact .inl ⟨k, q⟩, fun a q => .inl q, fun _ _ q _ => q⟩
end

/-! ### targets -/
abbrev Gv := M → En → Option En
abbrev GCv := List C → En → Option En
def C.m : C → M
  | .p d => .p d
  | .l ds => .lst ds
theorem RC.m {K : PySem.W.Frag} {Z H : Hp} {c : C} {v : V} {A : List Addr} (r : RC Z H c v A) : RM K Z H c.m v A := by
  cases c <;> exact r
def rdG (K : PySem.W.Frag) (P : List Nat) (g : Gv) : TG := fun v σ H Q => ∃ Z ρ F m A ρ', RS K Z H ρ σ F ∧ RX K Z H F σ (.m m) v A ∧ g m ρ = some ρ' ∧
  ∀ σ' Z' H' F', Mid K Z H (fun a => Ow F a ∨ a ∈ A) σ' ρ' Z' H' F' → Keep P σ σ' → Q σ' H'
def rdGs (K : PySem.W.Frag) (P : List Nat) (g : GCv) : TGs := fun vs σ H Q => ∃ Z ρ F cs A ρ', RS K Z H ρ σ F ∧ RCs Z H cs vs A ∧ A.Nodup ∧ (∀ a ∈ A, Z a = none ∧ ¬ Ow F a) ∧ g cs ρ = some ρ' ∧
  ∀ σ' Z' H' F', Mid K Z H (fun a => Ow F a ∨ a ∈ A) σ' ρ' Z' H' F' → Keep P σ σ' → Q σ' H'
def VG (X : Cx) (P : List Nat) (t : Expr) (g : Gv) : Prop := PG X t (rdG X.K P g)
def VGs (X : Cx) (P : List Nat) (t : List Expr) (g : GCv) : Prop := PGs X t (rdGs X.K P g)
theorem pg_mono {X : Cx} {e : Expr} {t t' : TG} (h : PG X e t) (k : ∀ v σ H Q, t' v σ H Q → t v σ H Q) : PG X e t' := ⟨fun pins s σ H v u Q I r q => h.run pins s σ H v u Q I r (k v σ H Q q)⟩
theorem pgs_mono {X : Cx} {e : List Expr} {t t' : TGs} (h : PGs X e t) (k : ∀ v σ H Q, t' v σ H Q → t v σ H Q) : PGs X e t' := ⟨fun pins s σ H v u Q I r q => h.run pins s σ H v u Q I r (k v σ H Q q)⟩
def gSet (i : Nat) : Gv := fun m ρ => some (ρ.set i (some m))
def gcNil : GCv := fun cs ρ => match cs with
  | [] => some ρ
  | _ => none
def gcCons (g : Gv) (r : GCv) : GCv := fun cs ρ => match cs with
  | c :: cs => (g c.m ρ).bind fun ρ1 => r cs ρ1
  | [] => none
def gTupT (n : Nat) (g : GCv) : Gv := fun m ρ => match m with
  | .p (.tuple ds) => if ds.length = n then g (ds.map C.p) ρ else none
  | .tup cs => if cs.length = n then g cs ρ else none
  | _ => none
section
variable {X : Cx} {P : List Nat} {e : Expr} {es : List Expr} {pos : Pos}
theorem vg_name {i : Nat} {x : Str} (hP : i ∉ P) (hN : X.N.Nodup) (hi : X.N[i]? = some x) (hx : Loc X.env.scope x) (hf : X.fn x = true ∨ X.env.scope.names.lookup x = some .local) : VG X P (.Name x pos) (gSet i) :=
  pg_mono (pg_name hN hi hx hf) fun v σ H Q ⟨Z, ρ, F, m, A, ρ', rs, rx, ed, q⟩ => by
    cases ed
    obtain ⟨F', M1⟩ := rs.put (i := i) rx
    exact q _ Z H F' M1 (Keep.set hP)
theorem vgs_nil : VGs X P [] gcNil := pgs_mono pgs_nil fun vs σ H Q ⟨Z, ρ, F, cs, A, ρ', rs, rc, nd, k, ed, q⟩ => by
  cases cs with
  | nil =>
    cases ed
    cases vs with
    | nil => exact ⟨rfl, q σ Z H F ⟨rs, Same.refl _, fun a h => .inl (.inl h), fun a h => .inl h, fun _ _ h _ => h⟩ Keep.refl⟩
    | cons v vs => exact rc.elim
  | cons c cs => cases ed
theorem vgs_cons {g : Gv} {r : GCv} (h1 : VG X P e g) (h2 : VGs X P es r) (hs : (assignEach (e :: es) X.env).map (·.2) = assign e X.env :: (assignEach es X.env).map (·.2)) : VGs X P (e :: es) (gcCons g r) :=
  pgs_mono (pgs_cons h1 h2 hs) fun vs σ H Q ⟨Z, ρ, F, cs, A, ρ', rs, rc, nd, k, ed, q⟩ => by
    cases cs with
    | nil => cases ed
    | cons c cs =>
      cases vs with
      | nil => exact rc.elim
      | cons v vs =>
        obtain ⟨A1, A2, r1, r2, rfl⟩ := rc
        obtain ⟨ρ1, e1, e2⟩ := Option.bind_eq_some_iff.mp ed
        obtain ⟨nd1, nd2, nd3⟩ := List.nodup_append.mp nd
        refine ⟨v, vs, rfl, Z, ρ, F, c.m, A1, ρ1, rs, ⟨r1.m, nd1, fun a h => k a (List.mem_append_left _ h)⟩, e1, fun σ1 Z1 H1 F1 M1 K1 => ?_⟩
        have out : ∀ a ∈ A2, ¬ (Ow F a ∨ a ∈ A1) := fun a h z => by
          rcases z with z | z
          · exact (k a (List.mem_append_right _ h)).2 z
          · exact nd3 a z a h rfl
        have r2' : RCs Z1 H1 cs vs A2 := r2.keep M1.zz fun a h o eo => M1.frm a o eo (out a h)
        refine ⟨Z1, ρ1, F1, cs, A2, ρ', M1.rs, r2', nd2, fun a h => ⟨?_, fun z => ?_⟩, e2, fun σ2 Z2 H2 F2 M2 K2 => q σ2 Z2 H2 F2 (M1.trans' M2 ?_ ?_) (K1.trans K2)⟩
        · obtain ⟨o, eo, w⟩ := r2.own a h
          cases ez : Z1 a with
          | none => rfl
          | some u =>
            rcases M1.fro a (by rw [ez]; simp) with z | z | z | ⟨xs, z⟩
            · exact absurd (k a (List.mem_append_right _ h)).1 z
            · exact absurd z (out a h)
            · rw [eo] at z; cases z
            · rw [eo] at z; cases z; exact w.elim
        · obtain ⟨o, eo, w⟩ := r2.own a h
          rcases M1.new a z with z | z
          · exact out a h z
          · rw [eo] at z; cases z
        · exact fun x z => z.imp id fun z => List.mem_append_left _ z
        · intro x z
          rcases z with z | z
          · rcases M1.new x z with z | z
            · exact .inl (z.imp id fun z => List.mem_append_left _ z)
            · exact .inr z
          · exact .inl (.inr (List.mem_append_right _ z))
theorem RpA.cs {K : PySem.W.Frag} {Z H : Hp} : ∀ {vs : List V} {ds : List D}, RpA Z vs ds → RCs Z H (ds.map C.p) vs []
  | _, _, .nil => rfl
  | _, _, .cons h r => ⟨[], [], ⟨h, rfl⟩, RpA.cs (K := K) r, rfl⟩
theorem vg_tup {k n : Nat} {g : GCv} (hc : X.calm = true) (h : VGs X P es g) (hn : (assignEach es X.env).length = n) (hst : (assignEach es X.env).findIdx? (·.1) = none) : VG X P (.Tuple es k pos) (gTupT n g) :=
  pg_mono (pg_tup hc h hn hst) fun v σ H Q ⟨Z, ρ, F, m, A, ρ', rs, rx, ed, q⟩ => by
    unfold gTupT at ed
    split at ed
    · split at ed
      · obtain ⟨⟨r, rfl⟩, _, _⟩ := rx
        cases r with
        | tup h r => exact ⟨_, _, rfl, SqT.of (rs.zh _ _ h), by rw [r.length]; assumption, Z, ρ, F, _, [], ρ', rs, RpA.cs (K := X.K) r, List.nodup_nil, (fun a h => by cases h), ed, q⟩
      · cases ed
    · split at ed
      · obtain ⟨⟨t, vs, rfl, ht, r⟩, nd, k⟩ := rx
        exact ⟨t, vs, rfl, SqT.of ht, by rw [← r.len]; assumption, Z, ρ, F, _, A, ρ', rs, r, nd, k, ed, q⟩
      · cases ed
    · cases ed
end

/-! ### statements -/
/-- what x tells, to be kept: a thing of its own stays so; a slot's is frozen with the slot -/
def X.tk : X → En → Option (M × En)
  | .m x, ρ => some (x, ρ)
  | x, ρ => (x.res ρ).map fun m => (.p m.dat, x.frz ρ)
/-- return e: a slot's thing that is no protected slot's goes along -/
def X.mv (P : List Nat) : X → En → Option (M × En)
  | .r j, ρ => if j ∈ P then X.tk (.r j) ρ else (X.res (.r j) ρ).map fun m => (m, ρ.set j none)
  | x, ρ => x.tk ρ
/-- what is wanted behind a statement that came to f -/
def SEnd (K : PySem.W.Frag) (P : List Nat) (Z H : Hp) (F : Nat → List Addr) (σ : St) (ρ' : En) (D : Ends) : Fl → Prop
  | .nx => ∀ σ' Z' H' F', Mid K Z H (Ow F) σ' ρ' Z' H' F' → Keep P σ σ' → D.nx σ' H'
  | .bk => ∀ σ' Z' H' F', Mid K Z H (Ow F) σ' ρ' Z' H' F' → Keep P σ σ' → D.bk σ' H'
  | .ct => ∀ σ' Z' H' F', Mid K Z H (Ow F) σ' ρ' Z' H' F' → Keep P σ σ' → D.ct σ' H'
  | .rt m => ∀ v σ' Z' H' F' A, End K Z H F σ' ρ' (.m m) v Z' H' F' A → Keep P σ σ' → D.rt v H'
def rdS (K : PySem.W.Frag) (P : List Nat) (d : Es) : TS := fun D σ H => ∃ Z ρ F f ρ', RS K Z H ρ σ F ∧ d ρ = some (f, ρ') ∧ SEnd K P Z H F σ ρ' D f
def VS (X : Cx) (P : List Nat) (s : Stmt) (d : Es) : Prop := PS X s (rdS X.K P d)
def VB (X : Cx) (P : List Nat) (s : List Stmt) (d : Es) : Prop := PSs X s (rdS X.K P d)
def sNx : Es := fun ρ => some (.nx, ρ)
def sSeq (a b : Es) : Es := fun ρ => (a ρ).bind fun p => match p.1 with
  | .nx => b p.2
  | f => some (f, p.2)
theorem SEnd.of {K : PySem.W.Frag} {P : List Nat} {Z H Z1 H1 : Hp} {F F1 : Nat → List Addr} {σ σ1 : St} {ρ1 ρ' : En} {D : Ends} {f : Fl} (m : Mid K Z H (Ow F) σ1 ρ1 Z1 H1 F1) (k : Keep P σ σ1) (h : SEnd K P Z H F σ ρ' D f) : SEnd K P Z1 H1 F1 σ1 ρ' D f := by
  cases f with
  | nx => exact fun σ' Z' H' F' M' K' => h σ' Z' H' F' (m.trans M') (k.trans K')
  | bk => exact fun σ' Z' H' F' M' K' => h σ' Z' H' F' (m.trans M') (k.trans K')
  | ct => exact fun σ' Z' H' F' M' K' => h σ' Z' H' F' (m.trans M') (k.trans K')
  | rt x => exact fun v σ' Z' H' F' A E' K' => h v σ' Z' H' F' A ⟨m.trans E'.mid, E'.rx, fun a ha => (E'.nw a ha).elim (m.new a) m.back⟩ (k.trans K')
section
variable {X : Cx} {P : List Nat} {e : Expr} {s : Stmt} {ss : List Stmt} {pos : Pos}
theorem vb_nil : VB X P [] sNx := pss_mono pss_nil fun D σ H ⟨Z, ρ, F, f, ρ', rs, ed, q⟩ => by
  cases ed
  exact q σ Z H F rs.refl Keep.refl
theorem vb_cons {a b : Es} (h1 : VS X P s a) (h2 : VB X P ss b) : VB X P (s :: ss) (sSeq a b) := pss_mono (pss_cons h1 h2) fun D σ H ⟨Z, ρ, F, f, ρ', rs, ed, q⟩ => by
  obtain ⟨⟨f1, ρ1⟩, e1, ed⟩ := Option.bind_eq_some_iff.mp ed
  refine ⟨Z, ρ, F, f1, ρ1, rs, e1, ?_⟩
  cases f1 with
  | nx => exact fun σ1 Z1 H1 F1 M1 K1 => ⟨Z1, ρ1, F1, f, ρ', M1.rs, ed, q.of M1 K1⟩
  | bk => cases ed; exact q
  | ct => cases ed; exact q
  | rt m => cases ed; exact q
theorem vb_one {a : Es} (h1 : VS X P s a) : VB X P [s] a := pss_one h1
theorem vs_pass : VS X P (.Pass pos) sNx := ps_mono ps_pass fun D σ H ⟨Z, ρ, F, f, ρ', rs, ed, q⟩ => by
  cases ed
  exact q σ Z H F rs.refl Keep.refl
def sBk : Es := fun ρ => some (.bk, ρ)
def sCt : Es := fun ρ => some (.ct, ρ)
theorem vs_break : VS X P (.Break pos) sBk := ps_mono ps_break fun D σ H ⟨Z, ρ, F, f, ρ', rs, ed, q⟩ => by
  cases ed
  exact q σ Z H F rs.refl Keep.refl
theorem vs_continue : VS X P (.Continue pos) sCt := ps_mono ps_continue fun D σ H ⟨Z, ρ, F, f, ρ', rs, ed, q⟩ => by
  cases ed
  exact q σ Z H F rs.refl Keep.refl
def sExpr (a : Ev) : Es := fun ρ => (a ρ).map fun p => (.nx, p.2)
theorem vs_expr {d : Ev} (he : VE X e d) (hs : swapsWith e none pos.line X.env = pure false) : VS X P (.Expr e pos) (sExpr d) := ps_mono (ps_expr he hs) fun D σ H ⟨Z, ρ, F, f, ρ', rs, ed, q⟩ => by
  obtain ⟨⟨x, ρ1⟩, e1, ed⟩ := Option.map_eq_some_iff.mp ed
  cases ed
  exact ⟨Z, ρ, F, x, ρ1, rs, e1, fun v Z1 H1 F1 A E => q σ Z1 H1 F1 E.mid Keep.refl⟩
def sIf (c : Et) (a b : Es) : Es := fun ρ => (c ρ).bind fun p => if p.1 = true then a p.2 else b p.2
theorem vs_if {c : Expr} {ss' : List Stmt} {dc : Et} {a b : Es} (hc : VT X c dc) (ha : VB X P ss a) (hb : VB X P ss' b) : VS X P (.If c ss ss' pos) (sIf dc a b) := ps_mono (ps_if hc ha hb) fun D σ H ⟨Z, ρ, F, f, ρ', rs, ed, q⟩ => by
  obtain ⟨⟨t, ρ1⟩, e1, ed⟩ := Option.bind_eq_some_iff.mp ed
  refine ⟨Z, ρ, F, t, ρ1, rs, e1, fun Z1 H1 F1 M1 => ?_⟩
  cases t with
  | true => exact ⟨Z1, ρ1, F1, f, ρ', M1.rs, ed, q.of M1 Keep.refl⟩
  | false => exact ⟨Z1, ρ1, F1, f, ρ', M1.rs, ed, q.of M1 Keep.refl⟩
theorem End.tk {K : PySem.W.Frag} {Z H Z' H' : Hp} {F F' : Nat → List Addr} {σ : St} {ρ ρ2 : En} {x : Iv.X} {v : V} {A : List Addr} {m : M} (E : End K Z H F σ ρ x v Z' H' F' A) (h : x.tk ρ = some (m, ρ2)) : ∃ Z2 F2 A2, End K Z H F σ ρ2 (.m m) v Z2 H' F2 A2 := by
  cases x with
  | m x =>
    cases h
    exact ⟨Z', F', A, E⟩
  | r j =>
    obtain ⟨m', e1, e2⟩ := Option.map_eq_some_iff.mp h
    cases e2
    obtain ⟨Z2, F2, M2, r⟩ := E.frozen e1
    exact ⟨Z2, F2, [], End.p r M2⟩
  | rc j k =>
    obtain ⟨m', e1, e2⟩ := Option.map_eq_some_iff.mp h
    cases e2
    obtain ⟨Z2, F2, M2, r⟩ := E.frozen e1
    exact ⟨Z2, F2, [], End.p r M2⟩
/-- target = e -/
def sAsg (a : Ev) (g : Gv) : Es := fun ρ => (a ρ).bind fun p => (p.1.tk p.2).bind fun q => (g q.1 q.2).map fun ρ' => (.nx, ρ')
theorem asg_rd {K : PySem.W.Frag} {a : Ev} {g : Gv} : ∀ D σ H, rdS K P (sAsg a g) D σ H → tAsg (rdE K a) (rdG K P g) D σ H := by
  rintro D σ H ⟨Z, ρ, F, f, ρ', rs, ed, q⟩
  obtain ⟨⟨x, ρ1⟩, e1, ed⟩ := Option.bind_eq_some_iff.mp ed
  obtain ⟨⟨m, ρ2⟩, e2, ed⟩ := Option.bind_eq_some_iff.mp ed
  obtain ⟨ρ3, e3, ed⟩ := Option.map_eq_some_iff.mp ed
  cases ed
  refine ⟨Z, ρ, F, x, ρ1, rs, e1, fun v Z1 H1 F1 A E => ?_⟩
  obtain ⟨Z2, F2, A2, E2⟩ := E.tk e2
  exact ⟨Z2, ρ2, F2, m, A2, _, E2.mid.rs, E2.rx, e3, fun σ' Z' H' F' M' K' => q σ' Z' H' F' (E2.mid.trans' M' (fun _ h => h) fun x (z : Ow F2 x ∨ x ∈ A2) => z.elim (E2.mid.new x) (E2.nw x)) K'⟩
theorem vs_asg {tg : Expr} {a : Ev} {g : Gv} (he : VE X e a) (hg : VG X P tg g) (hs : swapsWithSole [tg] e pos.line X.env = pure false) (hw : swappedStores [tg] e X.env = pure none) (h1 : (assignEach [tg] X.env).map (·.2) = [assign tg X.env]) : VS X P (.Assign [tg] e pos) (sAsg a g) :=
  ps_mono (ps_asg he hg hs hw h1) asg_rd
theorem vs_set {i : Nat} {x : Str} {a : Ev} {pos' : Pos} (hP : i ∉ P) (hN : X.N.Nodup) (hi : X.N[i]? = some x) (hx : Loc X.env.scope x) (he : VE X e a) (hs : swapsWith e (some (.Name x pos')) pos.line X.env = pure false) (hf : X.fn x = true ∨ X.env.scope.names.lookup x = some .local) :
    VS X P (.Assign [.Name x pos'] e pos) (sAsg a (gSet i)) := ps_mono (ps_set hN hi hx he hs hf) fun D σ H h => by
  obtain ⟨Z, ρ, F, x, ρ1, rs, e1, k⟩ := asg_rd (K := X.K) (P := P) (a := a) (g := gSet i) D σ H h
  refine ⟨Z, ρ, F, x, ρ1, rs, e1, fun v Z1 H1 F1 A E => ?_⟩
  obtain ⟨Z2, ρ2, F2, m, A2, ρ3, r2, rx, e3, k3⟩ := k v Z1 H1 F1 A E
  cases e3
  obtain ⟨F', M1⟩ := r2.put (i := i) rx
  exact k3 _ _ _ F' M1 (Keep.set hP)
theorem End.mv {K : PySem.W.Frag} {Z H Z' H' : Hp} {F F' : Nat → List Addr} {σ : St} {ρ ρ2 : En} {x : Iv.X} {v : V} {A : List Addr} {m : M} (E : End K Z H F σ ρ x v Z' H' F' A) (h : x.mv P ρ = some (m, ρ2)) : ∃ Z2 F2 A2, End K Z H F σ ρ2 (.m m) v Z2 H' F2 A2 := by
  cases x with
  | m x => exact E.tk h
  | rc j k => exact E.tk h
  | r j =>
    simp only [X.mv] at h
    split at h
    · exact E.tk h
    · obtain ⟨m', e1, e2⟩ := Option.map_eq_some_iff.mp h
      cases e2
      obtain ⟨ok, B, q, hB⟩ := E.rx.rm E.mid.rs e1
      have sub : ∀ b ∈ B, b ∈ F' j := fun b hb => by
        rcases hB b hb with z | ⟨k, z, z2⟩
        · rw [E.rx.1] at z; cases z
        · cases z; exact z2
      simp only [X.res] at e1
      split at e1
      · rename_i m1 em
        split at e1
        · cases e1
          obtain ⟨u, eu, rm⟩ := E.mid.rs.rep j _ em
          have ev := E.rx.2
          rw [eu] at ev
          cases ev
          refine ⟨Z', _, F' j, E.mid.trans (E.mid.rs.dropM j), ⟨rm, E.mid.rs.nod j, fun a ha => ⟨E.mid.rs.zfr j a ha, fun ⟨k, z⟩ => ?_⟩⟩, fun a ha => E.mid.new a ⟨j, ha⟩⟩
          by_cases hk : k = j
          · simp [hk] at z
          · simp only [if_neg hk] at z
            exact hk (E.mid.rs.dis k j a z ha)
        · cases e1
      · cases e1
def sRet (P : List Nat) (a : Ev) : Es := fun ρ => (a ρ).bind fun p => (p.1.mv P p.2).map fun q => (.rt q.1, q.2)
theorem vs_ret {a : Ev} (he : VE X e a) : VS X P (.Return (some e) pos) (sRet P a) := ps_mono (ps_ret he) fun D σ H ⟨Z, ρ, F, f, ρ', rs, ed, q⟩ => by
  obtain ⟨⟨x, ρ1⟩, e1, ed⟩ := Option.bind_eq_some_iff.mp ed
  obtain ⟨⟨m, ρ2⟩, e2, ed⟩ := Option.map_eq_some_iff.mp ed
  cases ed
  refine ⟨Z, ρ, F, x, ρ1, rs, e1, fun v Z1 H1 F1 A E => ?_⟩
  obtain ⟨Z2, F2, A2, E2⟩ := E.mv e2
  exact q v σ Z2 H1 F2 A2 E2 Keep.refl
def sRetN : Es := fun ρ => some (.rt (.p .none), ρ)
theorem vs_retN : VS X P (.Return none pos) sRetN := ps_mono ps_retN fun D σ H ⟨Z, ρ, F, f, ρ', rs, ed, q⟩ => by
  cases ed
  exact q .non σ Z H F [] (End.p .non rs.refl) Keep.refl

/-! ### name op= e (ints, texts) -/
def sAug (i : Nat) (g : M → M → Option M) (a : Ev) : Es := fun ρ => match ρ[i]? with
  | some (some _) => (a ρ).bind fun p => (Iv.X.res (.r i) p.2).bind fun x => (p.1.res p.2).bind fun y => (g x y).map fun z => (.nx, p.2.set i (some z))
  | _ => none
theorem vs_aug {i : Nat} {x : Str} {op : Operator} {r : R2} {g : M → M → Option M} {a : Ev} {pos' : Pos} (hP : i ∉ P) (hN : X.N.Nodup) (hi : X.N[i]? = some x) (hx : Loc X.env.scope x) (hr : PIp X op r) (ho : OpV X.K r g) (he : VE X e a)
    (hf : X.fn x = true ∨ X.env.scope.names.lookup x = some .local) : VS X P (.AugAssign (.Name x pos') op e pos) (sAug i g a) :=
  ps_mono (ps_aug hN hi hx he hr hf) fun D σ H ⟨Z, ρ, F, f, ρ', rs, ed, q⟩ => by
    unfold sAug at ed
    split at ed
    · rename_i m0 e0
      obtain ⟨⟨xa, ρa⟩, e1, ed⟩ := Option.bind_eq_some_iff.mp ed
      obtain ⟨m1, e2, ed⟩ := Option.bind_eq_some_iff.mp ed
      obtain ⟨m2, e3, ed⟩ := Option.bind_eq_some_iff.mp ed
      obtain ⟨m, e4, ed⟩ := Option.map_eq_some_iff.mp ed
      cases ed
      obtain ⟨v, ev, rv⟩ := rs.rep i m0 e0
      refine ⟨v, ev, Z, ρ, F, xa, _, rs, e1, fun u Z1 H1 F1 A E => ?_⟩
      obtain ⟨k2, B2, q2, _⟩ := E.rx.rm E.mid.rs e3
      obtain ⟨k1, B1, q1, _⟩ := RX.rm (x := .r i) (A := []) ⟨rfl, ev⟩ E.mid.rs e2
      refine ho Z1 H1 m1 m2 m v u B1 B2 _ E.mid.rs.zh k1 k2 q1 q2 e4 fun w Z3 H3 A3 res => ?_
      have E3 := E.mid.then (res.fin E.mid.rs)
      obtain ⟨F', M1⟩ := E3.mid.rs.put (i := i) E3.rx
      exact q _ _ _ F' (E3.mid.trans' M1 (fun _ h => h) fun x (z : Ow _ x ∨ x ∈ A3) => z.elim (E3.mid.new x) (E3.nw x)) (Keep.set hP)
    · cases ed
end
end Iv

set_option Elab.async false
set_option linter.all false
set_option maxRecDepth 100000
/-! Iv, part 7: loops, changes of lists. -/
namespace Iv
open PySem PySem.Spec L2

/-! ### what is walked -/
def WalkD (Z : Hp) (J : It) (ds : List D) : Prop := ∀ (i : Nat) (H : Hp), Same Z H → (∀ d, ds[i]? = some d → J.go i H ∧ ∀ x H', J.yld i H x H' → (H' = H ∧ Rp Z x d) ∨ ∃ T vs es, x = .ref T ∧ H T = none ∧ H' = upd H T (.tup vs) ∧ d = .tuple es ∧ RpA Z vs es) ∧ (ds.length ≤ i → J.stop i H)
abbrev Itv' := En → Option (List D × En)
def rdI (K : PySem.W.Frag) (d : Itv') : TI := fun σ H R => ∃ Z ρ F ds ρ', RS K Z H ρ σ F ∧ d ρ = some (ds, ρ') ∧ ∀ J Z' H' F', Mid K Z H (Ow F) σ ρ' Z' H' F' → WalkD Z' J ds → R J H'
def VI (X : Cx) (tg e : Expr) (d : Itv') : Prop := PI X tg e (rdI X.K d)
theorem pi_mono {X : Cx} {tg e : Expr} {t t' : TI} (h : PI X tg e t) (k : ∀ σ H R, t' σ H R → t σ H R) : PI X tg e t' := ⟨fun pins s σ H R I q => h.run pins s σ H R I (k σ H R q)⟩
theorem PI.or {X : Cx} {tg e : Expr} {t t' : TI} (h : PI X tg e t) (h' : PI X tg e t') : PI X tg e (fun σ H R => t σ H R ∨ t' σ H R) := ⟨fun pins s σ H R I q => q.elim (h.run pins s σ H R I) (h'.run pins s σ H R I)⟩
theorem WalkD.next {K : PySem.W.Frag} {Zc Z H H' : Hp} {J : It} {ds : List D} {i : Nat} {d : D} {x : V} (w : WalkD Zc J ds) (zz : Same Zc Z) (zh : Same Z H) (hd : ds[i]? = some d) (y : J.yld i H x H') : ∃ Z', Res K Z H (.p d) x Z' H' [] := by
  rcases ((w i H (zz.trans zh)).1 d hd).2 x H' y with ⟨rfl, r⟩ | ⟨T, vs, es, rfl, hT, rfl, rfl, r⟩
  · exact ⟨Z, Res.pure zh (r.mono zz)⟩
  · exact ⟨_, Res.tuple zh hT (r.mono zz)⟩
section
variable {X : Cx} {tg e a b c : Expr} {pos p : Pos}
def dIt (a : Fv) : Itv' := fun ρ => (a ρ).bind fun p => match p.1 with
  | .list ds => some (ds, p.2)
  | .tuple ds => some (ds, p.2)
  | .str s => some (s.cps.toList.map fun c => .str ⟨#[c]⟩, p.2)
  | _ => none
theorem seq_get {Z H : Hp} {vs : List V} {ds : List D} (r : RpA Z vs ds) {i : Nat} {d : D} (hd : ds[i]? = some d) {x : V} (hx : vs[i]? = some x) : Rp Z x d := by
  obtain ⟨v, e, q⟩ := r.get hd
  rw [hx] at e
  cases e
  exact q
theorem vi_seq {da : Fv} (ha : VF X e da) : VI X tg e (dIt da) := pi_mono (PI.or (pi_list ha) (PI.or (pi_tup ha) (pi_str ha))) fun σ H R ⟨Z, ρ, F, ds, ρ', rs, ed, q⟩ => by
  obtain ⟨⟨d, ρ1⟩, e1, ed⟩ := Option.bind_eq_some_iff.mp ed
  dsimp only at ed
  split at ed
  · cases ed
    refine .inl ⟨Z, ρ, F, _, _, rs, e1, fun v Z1 H1 F1 M1 r => ?_⟩
    cases r with
    | lst h r =>
      rename_i a xs
      have h1 := M1.rs.zh _ _ h
      refine ⟨a, rfl, ⟨xs, SqL.of h1⟩, q _ Z1 H1 F1 M1 fun i H2 zh => ⟨fun d hd => ?_, fun hl => ⟨xs, SqL.of (zh _ _ h), by rw [r.length]; exact hl⟩⟩⟩
      obtain ⟨x, hx, rx⟩ := r.get hd
      refine ⟨⟨xs, x, SqL.of (zh _ _ h), hx⟩, fun y H3 ⟨e3, hy⟩ => .inl ⟨e3, ?_⟩⟩
      have := hy xs (SqL.of (zh _ _ h))
      rw [hx] at this
      cases this
      exact rx
  · cases ed
    refine .inr (.inl ⟨Z, ρ, F, _, _, rs, e1, fun v Z1 H1 F1 M1 r => ?_⟩)
    cases r with
    | tup h r =>
      rename_i a xs
      have h1 := M1.rs.zh _ _ h
      refine ⟨a, rfl, ⟨xs, SqT.of h1⟩, q _ Z1 H1 F1 M1 fun i H2 zh => ⟨fun d hd => ?_, fun hl => ⟨xs, SqT.of (zh _ _ h), by rw [r.length]; exact hl⟩⟩⟩
      obtain ⟨x, hx, rx⟩ := r.get hd
      refine ⟨⟨xs, x, SqT.of (zh _ _ h), hx⟩, fun y H3 ⟨e3, hy⟩ => .inl ⟨e3, ?_⟩⟩
      have := hy xs (SqT.of (zh _ _ h))
      rw [hx] at this
      cases this
      exact rx
  · rename_i s
    cases ed
    refine .inr (.inr ⟨Z, ρ, F, _, _, rs, e1, fun v Z1 H1 F1 M1 r => ?_⟩)
    cases r
    refine ⟨_, rfl, q _ Z1 H1 F1 M1 fun i H2 zh => ⟨fun d hd => ?_, fun hl => ?_⟩⟩
    · rw [List.getElem?_map] at hd
      obtain ⟨c, hc, rfl⟩ := Option.map_eq_some_iff.mp hd
      rw [Array.getElem?_toList] at hc
      have hi := (Array.getElem?_eq_some_iff.mp hc).1
      refine ⟨hi, fun y H3 ⟨e3, c', hc', hy⟩ => .inl ⟨e3, ?_⟩⟩
      rw [hc] at hc'
      cases hc'
      rw [hy]
      exact .str _
    · show s.cps.size ≤ i
      simpa using hl
  · cases ed
/-- lo, lo + c, .. -/
def rngD (lo c : Int) (n : Nat) : List D := (List.range n).map fun (i : Nat) => .int (lo + (i : Int) * c)
theorem rngD_get {lo c : Int} {n i : Nat} {d : D} (h : (rngD lo c n)[i]? = some d) : i < n ∧ d = .int (lo + (i : Int) * c) := by
  unfold rngD at h
  rw [List.getElem?_map] at h
  obtain ⟨j, hj, rfl⟩ := Option.map_eq_some_iff.mp h
  obtain ⟨h1, h2⟩ := List.getElem?_eq_some_iff.mp hj
  simp at h1 h2
  subst h2
  exact ⟨h1, rfl⟩
theorem rngD_len {lo c : Int} {n : Nat} : (rngD lo c n).length = n := by simp [rngD]
theorem walk_rng {Z : Hp} {lo : Int} {n : Nat} : WalkD Z (Itr lo n) (rngD lo 1 n) := fun i H zh => ⟨fun d hd => by
  obtain ⟨h1, rfl⟩ := rngD_get hd
  refine ⟨h1, fun x H' ⟨e, hx⟩ => .inl ⟨e, ?_⟩⟩
  rw [hx, Int.mul_one]
  exact .int _, fun hl => by rw [rngD_len] at hl; exact hl⟩
theorem walk_rngC {Z : Hp} {lo c : Int} {n : Nat} : WalkD Z (Itc lo c n) (rngD lo c n) := fun i H zh => ⟨fun d hd => by
  obtain ⟨h1, rfl⟩ := rngD_get hd
  refine ⟨h1, fun x H' ⟨e, hx⟩ => .inl ⟨e, ?_⟩⟩
  rw [hx]
  exact .int _, fun hl => by rw [rngD_len] at hl; exact hl⟩
def dRng1 (a : Fv) : Itv' := fun ρ => (a ρ).bind fun p => match p.1 with
  | .int j => if -(2 ^ 62) ≤ j ∧ j < 2 ^ 62 then some (rngD 0 1 j.toNat, p.2) else none
  | _ => none
def dRng2 (a b : Fv) : Itv' := fun ρ => (a ρ).bind fun p => (b p.2).bind fun q => match p.1, q.1 with
  | .int i, .int j => if -(2 ^ 62) ≤ i ∧ i < 2 ^ 62 ∧ -(2 ^ 62) ≤ j ∧ j < 2 ^ 62 then some (rngD i 1 (j - i).toNat, q.2) else none
  | _, _ => none
/-- range(a, b, -1) -/
def dRngD (a b c : Fv) : Itv' := fun ρ => (a ρ).bind fun p => (b p.2).bind fun q => (c q.2).bind fun r => match p.1, q.1, r.1 with
  | .int i, .int j, .int k => if k = -1 ∧ -(2 ^ 62) ≤ i ∧ i < 2 ^ 62 ∧ -(2 ^ 62) ≤ j ∧ j < 2 ^ 62 then some (rngD i (-1) (i - j).toNat, r.2) else none
  | _, _, _ => none
theorem vi_rng1 {da : Fv} (hg : Gl X "range") (hm : X.mg "range" = none) (hs : starEach [a] X.env = [(false, eval a X.env)]) (ha : VF X a da) : VI X tg (.Call (.Name "range" p) [a] [] pos) (dRng1 da) :=
  pi_mono (pi_range1 hg hm (pa_cons ha pa_nil hs) hs) fun σ H R ⟨Z, ρ, F, ds, ρ', rs, ed, q⟩ => by
    obtain ⟨⟨d, ρ1⟩, e1, ed⟩ := Option.bind_eq_some_iff.mp ed
    dsimp only at ed
    split at ed
    · split at ed
      · rename_i hb
        cases ed
        refine ⟨Z, ρ, F, _, _, rs, e1, fun v Z1 H1 F1 M1 r => ?_⟩
        cases r
        exact ⟨_, rfl, hb.1, hb.2, q _ Z1 H1 F1 M1 walk_rng⟩
      · cases ed
    · cases ed
theorem vi_rng2 {da db : Fv} (hg : Gl X "range") (hm : X.mg "range" = none) (hs : starEach [a, b] X.env = [(false, eval a X.env), (false, eval b X.env)]) (hs2 : starEach [b] X.env = [(false, eval b X.env)]) (ha : VF X a da) (hb : VF X b db) : VI X tg (.Call (.Name "range" p) [a, b] [] pos) (dRng2 da db) :=
  pi_mono (pi_range2 hg hm (pa_cons ha (pa_cons hb pa_nil hs2) (by rw [hs, hs2])) hs hs2) fun σ H R ⟨Z, ρ, F, ds, ρ', rs, ed, q⟩ => by
    obtain ⟨⟨d, ρ1⟩, e1, ed⟩ := Option.bind_eq_some_iff.mp ed
    obtain ⟨⟨d2, ρ2⟩, e2, ed⟩ := Option.bind_eq_some_iff.mp ed
    dsimp only at ed
    split at ed
    · split at ed
      · rename_i hb
        cases ed
        refine ⟨Z, ρ, F, _, _, rs, e1, fun v Z1 H1 F1 M1 r => ⟨Z1, ρ1, F1, _, _, M1.rs, e2, fun u Z2 H2 F2 M2 r2 => ?_⟩⟩
        cases r
        cases r2
        exact ⟨_, _, rfl, hb, q _ Z2 H2 F2 (M1.trans M2) walk_rng⟩
      · cases ed
    · cases ed
theorem vi_rngD {da db dc : Fv} (hg : Gl X "range") (hm : X.mg "range" = none) (hs : starEach [a, b, c] X.env = [(false, eval a X.env), (false, eval b X.env), (false, eval c X.env)]) (hs2 : starEach [b, c] X.env = [(false, eval b X.env), (false, eval c X.env)]) (hs3 : starEach [c] X.env = [(false, eval c X.env)]) (ha : VF X a da) (hb : VF X b db) (hc : VF X c dc) : VI X tg (.Call (.Name "range" p) [a, b, c] [] pos) (dRngD da db dc) :=
  pi_mono (pi_range3 hg hm (pa_cons ha (pa_cons hb (pa_cons hc pa_nil hs3) (by rw [hs2, hs3])) (by rw [hs, hs2])) (by rw [hs, hs2]) (by rw [hs2]; rfl)) fun σ H R ⟨Z, ρ, F, ds, ρ', rs, ed, q⟩ => by
    obtain ⟨⟨d, ρ1⟩, e1, ed⟩ := Option.bind_eq_some_iff.mp ed
    obtain ⟨⟨d2, ρ2⟩, e2, ed⟩ := Option.bind_eq_some_iff.mp ed
    obtain ⟨⟨d3, ρ3⟩, e3, ed⟩ := Option.bind_eq_some_iff.mp ed
    dsimp only at ed
    split at ed
    · split at ed
      · rename_i hb
        obtain ⟨rfl, hb1, hb2, hb3, hb4⟩ := hb
        cases ed
        refine ⟨Z, ρ, F, _, _, rs, e1, fun v Z1 H1 F1 M1 r => ⟨Z1, ρ1, F1, _, _, M1.rs, e2, fun u Z2 H2 F2 M2 r2 => ⟨Z2, ρ2, F2, _, _, M2.rs, e3, fun w Z3 H3 F3 M3 r3 => ?_⟩⟩⟩
        cases r
        cases r2
        cases r3
        exact ⟨_, _, _, _, rfl, RgC.neg hb1 hb2 hb3 hb4, q _ Z3 H3 F3 ((M1.trans M2).trans M3) walk_rngC⟩
      · cases ed
    · cases ed
/-- enumerate(xs) -/
def enumD (ds : List D) : List D := ds.zipIdx.map fun p => .tuple [.int (p.2 : Int), p.1]
def dEnum (a : Fv) : Itv' := fun ρ => (a ρ).bind fun p => match p.1 with
  | .list ds => some (enumD ds, p.2)
  | _ => none
theorem enumD_get {ds : List D} {i : Nat} {d : D} (h : (enumD ds)[i]? = some d) : ∃ x, ds[i]? = some x ∧ d = .tuple [.int (i : Int), x] := by
  unfold enumD at h
  rw [List.getElem?_map] at h
  obtain ⟨p, hp, rfl⟩ := Option.map_eq_some_iff.mp h
  rw [List.getElem?_zipIdx] at hp
  obtain ⟨x, hx, rfl⟩ := Option.map_eq_some_iff.mp hp
  exact ⟨x, hx, by simp⟩
theorem enumD_len {ds : List D} : (enumD ds).length = ds.length := by simp [enumD]
theorem vi_enum {da : Fv} {elts : List Expr} {kk : Nat} {tpos : Pos} (hg : Gl X "enumerate") (hm : X.mg "enumerate" = none) (hs : starEach [a] X.env = [(false, eval a X.env)]) (ha : VF X a da) : VI X (.Tuple elts kk tpos) (.Call (.Name "enumerate" p) [a] [] pos) (dEnum da) :=
  pi_mono (pi_enum hg hm (pa_cons ha pa_nil hs) hs) fun σ H R ⟨Z, ρ, F, ds, ρ', rs, ed, q⟩ => by
    obtain ⟨⟨d, ρ1⟩, e1, ed⟩ := Option.bind_eq_some_iff.mp ed
    dsimp only at ed
    split at ed
    · cases ed
      refine ⟨Z, ρ, F, _, _, rs, e1, fun v Z1 H1 F1 M1 r => ?_⟩
      cases r with
      | lst h r =>
        rename_i a xs
        have h1 := M1.rs.zh _ _ h
        refine ⟨a, xs, rfl, SqL.of h1, q _ Z1 H1 F1 M1 fun i H2 zh => ⟨fun d hd => ?_, fun hl => ⟨xs, SqL.of (zh _ _ h), by rw [r.length]; rw [enumD_len] at hl; exact hl⟩⟩⟩
        obtain ⟨x, hx, rfl⟩ := enumD_get hd
        obtain ⟨w, hw, rw_⟩ := r.get hx
        refine ⟨⟨xs, w, SqL.of (zh _ _ h), hw⟩, fun y H3 ⟨T, z, e1, hT, e3, hy⟩ => .inr ⟨T, _, _, e1, hT, e3, rfl, ?_⟩⟩
        have := hy xs (SqL.of (zh _ _ h))
        rw [hw] at this
        cases this
        exact .cons (.int _) (.cons rw_ .nil)
    · cases ed
/-- zip(xs, ys) -/
def zipD (ds es : List D) : List D := (ds.zip es).map fun p => .tuple [p.1, p.2]
def dZip (a b : Fv) : Itv' := fun ρ => (a ρ).bind fun p => (b p.2).bind fun q => match p.1, q.1 with
  | .list ds, .list es => some (zipD ds es, q.2)
  | _, _ => none
theorem zipD_get {ds es : List D} {i : Nat} {d : D} (h : (zipD ds es)[i]? = some d) : ∃ x y, ds[i]? = some x ∧ es[i]? = some y ∧ d = .tuple [x, y] := by
  unfold zipD at h
  rw [List.getElem?_map] at h
  obtain ⟨p, hp, rfl⟩ := Option.map_eq_some_iff.mp h
  have := List.getElem?_zip_eq_some.mp hp
  exact ⟨_, _, this.1, this.2, rfl⟩
theorem vi_zip {da db : Fv} {elts : List Expr} {kk : Nat} {tpos : Pos} (hg : Gl X "zip") (hm : X.mg "zip" = none) (hs : starEach [a, b] X.env = [(false, eval a X.env), (false, eval b X.env)]) (hs2 : starEach [b] X.env = [(false, eval b X.env)]) (ha : VF X a da) (hb : VF X b db) : VI X (.Tuple elts kk tpos) (.Call (.Name "zip" p) [a, b] [] pos) (dZip da db) :=
  pi_mono (pi_zip hg hm (pa_cons ha (pa_cons hb pa_nil hs2) (by rw [hs, hs2])) (by rw [hs, hs2]) (by rw [hs2]; rfl)) fun σ H R ⟨Z, ρ, F, ds, ρ', rs, ed, q⟩ => by
    obtain ⟨⟨d, ρ1⟩, e1, ed⟩ := Option.bind_eq_some_iff.mp ed
    obtain ⟨⟨d2, ρ2⟩, e2, ed⟩ := Option.bind_eq_some_iff.mp ed
    dsimp only at ed
    split at ed
    · cases ed
      refine ⟨Z, ρ, F, _, _, rs, e1, fun v Z1 H1 F1 M1 r => ⟨Z1, ρ1, F1, _, _, M1.rs, e2, fun u Z2 H2 F2 M2 r2 => ?_⟩⟩
      have r1' := r.mono M2.zz
      cases r1' with
      | lst h r1 =>
        cases r2 with
        | lst h' r2 =>
          rename_i a' xs b' ys
          refine ⟨_, _, _, _, rfl, SqL.of (M2.rs.zh _ _ h), SqL.of (M2.rs.zh _ _ h'), q _ Z2 H2 F2 (M1.trans M2) fun i H3 zh => ⟨fun d hd => ?_, fun hl => ⟨_, _, SqL.of (zh _ _ h), SqL.of (zh _ _ h'), ?_⟩⟩⟩
          · obtain ⟨x, y, hx, hy, rfl⟩ := zipD_get hd
            obtain ⟨w, hw, rw1⟩ := r1.get hx
            obtain ⟨z, hz, rw2⟩ := r2.get hy
            refine ⟨⟨_, _, w, z, SqL.of (zh _ _ h), SqL.of (zh _ _ h'), hw, hz⟩, fun y' H4 ⟨T, x1, y1, ey, hT, eH, k1, k2⟩ => .inr ⟨T, _, _, ey, hT, eH, rfl, ?_⟩⟩
            have q1 := k1 _ (SqL.of (zh _ _ h))
            have q2 := k2 _ (SqL.of (zh _ _ h'))
            rw [hw] at q1
            rw [hz] at q2
            cases q1
            cases q2
            exact .cons rw1 (.cons rw2 .nil)
          · simp only [zipD, List.length_map, List.length_zip] at hl
            rw [r1.length, r2.length]
            omega
    · cases ed
end

/-! ### for, while -/
def forL (g : Gv) (body : Es) : List D → Es
  | [], ρ => some (.nx, ρ)
  | d :: ds, ρ => (g (.p d) ρ).bind fun ρ1 => (body ρ1).bind fun p => match p.1 with
    | .nx => forL g body ds p.2
    | .ct => forL g body ds p.2
    | .bk => some (.nx, p.2)
    | .rt m => some (.rt m, p.2)
def sFor (it : Itv') (g : Gv) (body : Es) : Es := fun ρ => (it ρ).bind fun p => forL g body p.1 p.2
def sWhile (c : Et) (body : Es) : Nat → Es
  | 0, _ => none
  | n + 1, ρ => (c ρ).bind fun p => if p.1 = true then (body p.2).bind fun q => match q.1 with
    | .nx => sWhile c body n q.2
    | .ct => sWhile c body n q.2
    | .bk => some (.nx, q.2)
    | .rt m => some (.rt m, q.2)
    else some (.nx, p.2)
section
variable {X : Cx} {P : List Nat} {tg e : Expr} {ss : List Stmt} {pos : Pos}
theorem vs_for {it : Itv'} {g : Gv} {body : Es} (hp : PassesOwn (model X.prog X.w) X.A X.env X.xe) (hc : X.calm = true) (hi : VI X tg e it) (hg : VG X P tg g) (hb : VB X P ss body) (hs : ∀ x, foldedSetIterable e X.env x = pure x) : VS X P (.For tg e ss [] pos) (sFor it g body) :=
  ps_mono (ps_for hp hc hi hg hb hs) fun D σ H ⟨Z, ρ, F, f, ρ', rs, ed, q⟩ => by
    obtain ⟨⟨ds, ρ1⟩, e1, ed⟩ := Option.bind_eq_some_iff.mp ed
    refine ⟨Z, ρ, F, ds, ρ1, rs, e1, fun J Zc H1 F1 M1 w => ?_⟩
    refine ⟨fun i m σi Hi => m = ds.length - i ∧ i ≤ ds.length ∧ ∃ Zi ρi Fi, Mid X.K Z H (Ow F) σi ρi Zi Hi Fi ∧ Keep P σ σi ∧ Same Zc Zi ∧ forL g body (ds.drop i) ρi = some (f, ρ'), ⟨ds.length, by simp, Nat.zero_le _, Zc, ρ1, F1, M1, Keep.refl, Same.refl _, by simpa using ed⟩, ?_⟩
    rintro i m σi Hi ⟨rfl, hi, Zi, ρi, Fi, Mi, Ki, zc, ei⟩
    by_cases hlt : i < ds.length
    · have hd : ds[i]? = some ds[i] := List.getElem?_eq_getElem hlt
      rw [List.drop_eq_getElem_cons hlt] at ei
      obtain ⟨ρ2, e2, ei⟩ := Option.bind_eq_some_iff.mp (show (g (.p ds[i]) ρi).bind _ = _ from ei)
      obtain ⟨⟨f3, ρ3⟩, e3, ei⟩ := Option.bind_eq_some_iff.mp ei
      refine .inr ⟨((w i Hi (zc.trans Mi.rs.zh)).1 _ hd).1, fun σ' H' => i + 1 ≤ ds.length ∧ ∃ Zi ρi Fi, Mid X.K Z H (Ow F) σ' ρi Zi H' Fi ∧ Keep P σ σ' ∧ Same Zc Zi ∧ forL g body (ds.drop (i + 1)) ρi = some (f, ρ'), fun σ' H' n => ⟨ds.length - (i + 1), by omega, rfl, n⟩, fun x H' y => ?_⟩
      obtain ⟨Z2, res⟩ := w.next (K := X.K) zc Mi.rs.zh hd y
      have E2 := Mi.trans (res.fin Mi.rs).mid
      have E2' := res.fin Mi.rs
      refine ⟨Z2, ρi, Fi, .p ds[i], [], ρ2, E2.rs, E2'.rx, e2, fun σ4 Z4 H4 F4 M4 K4 => ?_⟩
      have M5 : Mid X.K Z H (Ow F) σ4 ρ2 Z4 H4 F4 := E2.trans' M4 (fun _ h => h) fun x z => z.elim (E2.new x) (fun z => by cases z)
      have z5 : Same Zc Z4 := zc.trans (res.zz.trans M4.zz)
      refine ⟨Z4, ρ2, F4, f3, ρ3, M5.rs, e3, ?_⟩
      cases f3 with
      | nx => exact fun σ6 Z6 H6 F6 M6 K6 => ⟨hlt, Z6, ρ3, F6, M5.trans M6, (Ki.trans K4).trans K6, z5.trans M6.zz, ei⟩
      | ct => exact fun σ6 Z6 H6 F6 M6 K6 => ⟨hlt, Z6, ρ3, F6, M5.trans M6, (Ki.trans K4).trans K6, z5.trans M6.zz, ei⟩
      | bk => cases ei; exact fun σ6 Z6 H6 F6 M6 K6 => q σ6 Z6 H6 F6 (M5.trans M6) ((Ki.trans K4).trans K6)
      | rt m =>
        cases ei
        exact fun v σ6 Z6 H6 F6 A E6 K6 => q v σ6 Z6 H6 F6 A ⟨M5.trans E6.mid, E6.rx, fun a ha => (E6.nw a ha).elim (M5.new a) M5.back⟩ ((Ki.trans K4).trans K6)
    · have : i = ds.length := by omega
      subst this
      rw [List.drop_length] at ei
      cases ei
      exact .inl ⟨(w _ Hi (zc.trans Mi.rs.zh)).2 (Nat.le_refl _), q σi Zi Hi Fi Mi Ki⟩
theorem vs_while {n : Nat} {c : Expr} {dc : Et} {body : Es} (hp : PassesOwn (model X.prog X.w) X.A X.env X.xe) (hc : VT X c dc) (hb : VB X P ss body) : VS X P (.While c ss [] pos) (sWhile dc body n) :=
  ps_mono (ps_while hp hc hb) fun D σ H ⟨Z, ρ, F, f, ρ', rs, ed, q⟩ => by
    refine ⟨fun m σi Hi => ∃ Zi ρi Fi, Mid X.K Z H (Ow F) σi ρi Zi Hi Fi ∧ Keep P σ σi ∧ sWhile dc body m ρi = some (f, ρ'), ⟨n, Z, ρ, F, rs.refl, Keep.refl, ed⟩, ?_⟩
    rintro m σi Hi ⟨Zi, ρi, Fi, Mi, Ki, ei⟩
    cases m with
    | zero => cases ei
    | succ m =>
      obtain ⟨⟨t, ρ1⟩, e1, ei⟩ := Option.bind_eq_some_iff.mp (show (dc ρi).bind _ = _ from ei)
      refine ⟨Zi, ρi, Fi, t, ρ1, Mi.rs, e1, fun Z1 H1 F1 M1 => ?_⟩
      have M2 := Mi.trans M1
      cases t with
      | false => cases ei; exact q σi Z1 H1 F1 M2 Ki
      | true =>
        obtain ⟨⟨f3, ρ3⟩, e3, ei⟩ := Option.bind_eq_some_iff.mp (show (body ρ1).bind _ = _ from ei)
        dsimp only
        rw [if_pos rfl]
        refine ⟨fun σ' H' => ∃ Zi ρi Fi, Mid X.K Z H (Ow F) σ' ρi Zi H' Fi ∧ Keep P σ σ' ∧ sWhile dc body m ρi = some (f, ρ'), fun σ' H' w => ⟨m, Nat.lt_succ_self m, w⟩, Z1, ρ1, F1, f3, ρ3, M1.rs, e3, ?_⟩
        cases f3 with
        | nx => exact fun σ6 Z6 H6 F6 M6 K6 => ⟨Z6, ρ3, F6, M2.trans M6, Ki.trans K6, ei⟩
        | ct => exact fun σ6 Z6 H6 F6 M6 K6 => ⟨Z6, ρ3, F6, M2.trans M6, Ki.trans K6, ei⟩
        | bk => cases ei; exact fun σ6 Z6 H6 F6 M6 K6 => q σ6 Z6 H6 F6 (M2.trans M6) (Ki.trans K6)
        | rt m =>
          cases ei
          exact fun v σ6 Z6 H6 F6 A E6 K6 => q v σ6 Z6 H6 F6 A ⟨M2.trans E6.mid, E6.rx, fun a ha => (E6.nw a ha).elim (M2.new a) M2.back⟩ (Ki.trans K6)
end

/-! ### changes of a list that a slot owns -/
section
variable {K : PySem.W.Frag} {Z H : Hp} {ρ : En} {σ : St} {F : Nat → List Addr}
theorem RS.mut (r : RS K Z H ρ σ F) {i : Nat} {v : V} {a : Addr} {m0 m' : M} {o' : HO} (hρ : ρ[i]? = some (some m0)) (hv : σ[i]? = some (some v)) (ha : a ∈ F i) (h : RM K Z (upd H a o') m' v (F i)) : Mid K Z H (Ow F) σ (ρ.set i (some m')) Z (upd H a o') F := by
  have hi : i < ρ.length := (List.getElem?_eq_some_iff.mp hρ).1
  have nt : ∀ {b xs}, H b = some (.tup xs) → b ≠ a := fun {b xs} e z => r.notup (a := a) (by rw [← z]; exact e) ⟨i, ha⟩
  refine ⟨⟨by simpa using r.len, fun b o e => ?_, fun k m q => ?_, fun k q => ?_, r.dis, r.nod, r.zfr⟩, Same.refl _, fun b q => .inl q, fun b q => .inl q, fun b o e q => ?_⟩
  · rw [upd_ne (fun z => by rw [z, r.zfr i a ha] at e; cases e)]
    exact r.zh b o e
  · by_cases hk : k = i
    · subst hk
      rw [List.getElem?_set_self hi] at q
      cases q
      exact ⟨v, hv, h⟩
    · rw [List.getElem?_set_ne (Ne.symm hk)] at q
      obtain ⟨u, e, w⟩ := r.rep k m q
      exact ⟨u, e, w.keep (Same.refl _) (fun b hb o e => by rw [upd_ne (fun z : b = a => hk (r.dis k i a (by rw [← z]; exact hb) ha))]; exact e) fun b xs e => by rw [upd_ne (nt e)]; exact e⟩
  · by_cases hk : k = i
    · subst hk
      exact absurd (List.getElem?_set_self hi) (q m')
    · exact r.emp k fun m z => q m (by rw [List.getElem?_set_ne (Ne.symm hk)]; exact z)
  · rw [upd_ne (fun z : b = a => q ⟨i, by rw [z]; exact ha⟩)]
    exact e
theorem RCs.set {vs' : List V} {a : Addr} : ∀ {cs : List C} {vs : List V} {A : List Addr} {k : Nat} {ds ds' : List D}, RCs Z H cs vs A → A.Nodup → cs[k]? = some (.l ds) → vs[k]? = some (.ref a) → RpA Z vs' ds' → RCs Z (upd H a (.lst vs')) (cs.set k (.l ds')) vs A ∧ a ∈ A
  | [], vs, A, k, ds, ds', r, nd, h1, _, _ => by simp at h1
  | c :: cs, [], A, k, ds, ds', r, nd, h1, _, _ => r.elim
  | c :: cs, v :: vs, A, 0, ds, ds', r, nd, h1, h2, h3 => by
    obtain ⟨A1, A2, r1, r2, rfl⟩ := r
    simp at h1 h2
    subst h1 h2
    obtain ⟨b, ws, e, rfl, hb, q⟩ := r1
    cases e
    obtain ⟨n1, n2, n3⟩ := List.nodup_append.mp nd
    refine ⟨⟨[a], A2, ⟨a, vs', rfl, rfl, upd_same, h3⟩, r2.keep (Same.refl _) fun x hx o e => ?_, rfl⟩, by simp⟩
    rw [upd_ne (fun z => n3 a (by simp) x hx z.symm)]
    exact e
  | c :: cs, v :: vs, A, k + 1, ds, ds', r, nd, h1, h2, h3 => by
    obtain ⟨A1, A2, r1, r2, rfl⟩ := r
    obtain ⟨n1, n2, n3⟩ := List.nodup_append.mp nd
    obtain ⟨q, ha⟩ := RCs.set (k := k) r2 n2 (by simpa using h1) (by simpa using h2) h3
    refine ⟨⟨A1, A2, r1.keep (Same.refl _) fun x hx o e => ?_, q, rfl⟩, List.mem_append_right _ ha⟩
    rw [upd_ne (fun z => n3 x hx a ha z)]
    exact e
end
/-- the list that x tells is changed by f -/
def X.upd {α : Type} (f : List D → Option (List D × α)) : X → En → Option (α × En)
  | .m _, _ => none
  | .r i, ρ => match ρ[i]? with
    | some (some (.lst ds)) => (f ds).map fun p => (p.2, ρ.set i (some (.lst p.1)))
    | _ => none
  | .rc i k, ρ => match ρ[i]? with
    | some (some (.tup cs)) => match cs[k]? with
      | some (.l ds) => (f ds).map fun p => (p.2, ρ.set i (some (.tup (cs.set k (.l p.1)))))
      | _ => none
    | _ => none
theorem RX.upd {α : Type} {K : PySem.W.Frag} {Z H : Hp} {ρ ρ' : En} {σ : St} {F : Nat → List Addr} {f : List D → Option (List D × α)} {x : X} {v : V} {A : List Addr} {y : α} (h : RX K Z H F σ x v A) (r : RS K Z H ρ σ F) (e : x.upd f ρ = some (y, ρ')) :
    ∃ a vs ds ds', v = .ref a ∧ H a = some (.lst vs) ∧ RpA Z vs ds ∧ f ds = some (ds', y) ∧ ∀ vs', RpA Z vs' ds' → Mid K Z H (Ow F) σ ρ' Z (L2.upd H a (.lst vs')) F := by
  cases x with
  | m m => cases e
  | r i =>
    simp only [X.upd] at e
    split at e
    · rename_i ds hρ
      obtain ⟨⟨ds', y'⟩, e1, e2⟩ := Option.map_eq_some_iff.mp e
      cases e2
      obtain ⟨u, eu, a, vs, rfl, hF, ha, q⟩ := r.rep i _ hρ
      have ev := h.2
      rw [eu] at ev
      cases ev
      exact ⟨a, vs, ds, ds', rfl, ha, q, e1, fun vs' q' => r.mut hρ eu (by rw [hF]; simp) ⟨a, vs', rfl, hF, upd_same, q'⟩⟩
    · cases e
  | rc i k =>
    obtain ⟨_, t, ws, es, ht, hk⟩ := h
    simp only [X.upd] at e
    split at e
    · rename_i cs hρ
      split at e
      · rename_i ds hc
        obtain ⟨⟨ds', y'⟩, e1, e2⟩ := Option.map_eq_some_iff.mp e
        cases e2
        obtain ⟨u, eu, t', ws', et, ht', q⟩ := r.rep i _ hρ
        rw [es] at eu
        cases eu
        cases et
        rw [ht] at ht'
        cases ht'
        obtain ⟨B, ⟨a, vs, rfl, rfl, ha, qa⟩, hB⟩ := q.get hc hk
        refine ⟨a, vs, ds, ds', rfl, ha, qa, e1, fun vs' q' => ?_⟩
        obtain ⟨q2, ha2⟩ := q.set (r.nod i) hc hk q'
        have nta : t ≠ a := fun z => by rw [z, ha] at ht; cases ht
        exact r.mut hρ es ha2 ⟨t, ws, rfl, by rw [upd_ne nta]; exact ht, q2⟩
      · cases e
    · cases e
/-- a method that changes a list, with frozen arguments -/
def MutV (K : PySem.W.Frag) (r : V → List V → Hp → VK → Prop) (f : List D → List D → Option (List D × D)) : Prop := ∀ (Z H : Hp) (a : Addr) (vs : List V) (ds ds' : List D) (ws : List V) (es : List D) (y : D) (Q : VK), Same Z H → H a = some (.lst vs) → RpA Z vs ds → RpA Z ws es → f es ds = some (ds', y) →
  (∀ vs' w, RpA Z vs' ds' → Rp Z w y → Q w (upd H a (.lst vs'))) → r (.ref a) ws H Q
def dMut (f : List D → List D → Option (List D × D)) (o : Ev) (as : Lv) : Ev := fun ρ => (o ρ).bind fun p => (p.1.res p.2).bind fun m => if m.ls.isSome = true then (as p.2).bind fun q => (p.1.upd (f q.1) q.2).map fun z => (.m (.p z.1), z.2) else none
section
variable {X : Cx} {o e : Expr} {es : List Expr} {name : Str} {apos cpos : Pos} {id : String} {r : V → List V → Hp → VK → Prop} {f : List D → List D → Option (List D × D)}
theorem mut_rd {K : PySem.W.Frag} {od : Ev} {as : Lv} (hm : MutV K r f) : ∀ σ H Q, rdE K (dMut f od as) σ H Q → tBM K "list" r (rdE K od) (rdL K as) σ H Q := by
  rintro σ H Q ⟨Z, ρ, F, x, ρ2, rs, ed, q⟩
  obtain ⟨⟨xa, ρa⟩, e1, ed⟩ := Option.bind_eq_some_iff.mp ed
  obtain ⟨m, e2, ed⟩ := Option.bind_eq_some_iff.mp ed
  split at ed
  · rename_i hls
    obtain ⟨⟨args, ρb⟩, e3, ed⟩ := Option.bind_eq_some_iff.mp ed
    obtain ⟨⟨y, ρc⟩, e4, ed⟩ := Option.map_eq_some_iff.mp ed
    cases ed
    obtain ⟨ls, els⟩ := Option.isSome_iff_exists.mp hls
    refine ⟨Z, ρ, F, xa, ρa, rs, e1, fun v Z1 H1 F1 A1 E1 => ?_⟩
    obtain ⟨k1, B1, q1, _⟩ := E1.rx.rm E1.mid.rs e2
    obtain ⟨a0, vs0, rfl, h0, _⟩ := ls_rm q1 E1.mid.rs.zh els
    refine ⟨.inl ⟨rfl, vs0, SqL.of h0⟩, Z1, ρa, F1, args, ρb, E1.mid.rs, e3, fun ws Z2 H2 F2 M2 R2 => ?_⟩
    obtain ⟨a, vs, ds, ds', ev, ha, ra, ef, k⟩ := (E1.rx.keep E1.mid.rs M2).upd M2.rs e4
    cases ev
    refine hm Z2 H2 _ vs ds ds' ws args y Q M2.rs.zh ha ra R2 ef fun vs' w rv rw_ => ?_
    exact q w Z2 _ F2 [] (End.p rw_ ((E1.mid.trans M2).trans (k vs' rv)))
  · cases ed
theorem ve_mut {od : Ev} {as : Lv} (pa : PlainAttrs "list") (slot : Slot "list" name id) (hty : typeOf (.builtin id) = pure (.type "method_descriptor")) (hr : MtR X id r) (hm : MutV X.K r f) (ho : VE X o od) (ha : VL X (e :: es) as)
    (hbase : attributeBase o name X.env (eval o X.env) = eval o X.env) (hfew : ((backTo cpos (starEach (e :: es) X.env)).all (fun x => !x.1) && (backToKw cpos (keywordEach [] X.env)).all (fun x => x.1.isSome)
      && decide ((e :: es).length + ([] : List Keyword).length + (if ([] : List Keyword).isEmpty then 0 else 1) < 30)) = true)
    (hline : (apos.endLine == cpos.line) = true) (hs : starEach (e :: es) X.env = (false, eval e X.env) :: starEach es X.env) (hpl : (backTo cpos (starEach es X.env)).any (·.1) = false) : VE X (.Call (.Attribute o name apos) (e :: es) [] cpos) (dMut f od as) :=
  pe_mono (pe_bm pa slot hty hr ho ha hbase hfew hline hs hpl) (mut_rd hm)
theorem ve_mut0 {od : Ev} (pa : PlainAttrs "list") (slot : Slot "list" name id) (hty : typeOf (.builtin id) = pure (.type "method_descriptor")) (hr : MtR X id r) (hm : MutV X.K r f) (ho : VE X o od)
    (hbase : attributeBase o name X.env (eval o X.env) = eval o X.env) (hline : (apos.endLine == cpos.line) = true) : VE X (.Call (.Attribute o name apos) [] [] cpos) (dMut f od dNil) :=
  pe_mono (pe_bm0 pa slot hty hr ho hbase hline) fun σ H Q h => by
    obtain ⟨Z, ρ, F, x, ρ', rs, e, k⟩ := mut_rd (K := X.K) hm σ H Q h
    refine ⟨Z, ρ, F, x, ρ', rs, e, fun v Z1 H1 F1 A1 E1 => ?_⟩
    obtain ⟨ty, Z2, ρ2, F2, b, ρ3, rs2, e2, k2⟩ := k v Z1 H1 F1 A1 E1
    cases e2
    exact ⟨ty, k2 [] Z2 H1 F2 rs2.refl .nil⟩
end
section
variable {K : PySem.W.Frag}
def fApp : List D → List D → Option (List D × D)
  | [d], ds => if ds.length < sizeLine then some (ds ++ [d], .none) else none
  | _, _ => none
theorem mut_append : MutV K rAppend fApp := by
  intro Z H a vs ds ds' ws es y Q zh ha ra rw_ ef q
  unfold fApp at ef
  split at ef
  · split at ef
    · cases ef
      cases rw_ with
      | cons r1 r2 =>
        cases r2
        exact ⟨a, vs, _, rfl, rfl, ha, by rw [ra.length]; assumption, q _ _ (ra.append (.cons r1 .nil)) .non⟩
    · cases ef
  · cases ef
def fExt : List D → List D → Option (List D × D)
  | [.list es], ds => if ds.length + es.length ≤ sizeLine then some (ds ++ es, .none) else none
  | _, _ => none
theorem mut_extend : MutV K rExtend fExt := by
  intro Z H a vs ds ds' ws es y Q zh ha ra rw_ ef q
  unfold fExt at ef
  split at ef
  · split at ef
    · cases ef
      cases rw_ with
      | cons r1 r2 =>
        cases r2
        cases r1 with
        | lst hb rb => exact ⟨a, _, vs, _, rfl, rfl, ha, zh _ _ hb, by rw [ra.length, rb.length]; assumption, q _ _ (ra.append rb) .non⟩
    · cases ef
  · cases ef
def fPop : List D → List D → Option (List D × D)
  | [], ds => (ds[ds.length - 1]?).map fun d => (ds.dropLast, d)
  | _, _ => none
theorem RpA.dropLast {Z : Hp} {vs : List V} {ds : List D} (r : RpA Z vs ds) : RpA Z vs.dropLast ds.dropLast := by
  rw [List.dropLast_eq_take, List.dropLast_eq_take, r.length]
  exact r.take _
theorem mut_pop : MutV K rPop fPop := by
  intro Z H a vs ds ds' ws es y Q zh ha ra rw_ ef q
  unfold fPop at ef
  split at ef
  · obtain ⟨d, hd, ef⟩ := Option.map_eq_some_iff.mp ef
    cases ef
    cases rw_
    obtain ⟨v, hv, rv⟩ := ra.get hd
    exact ⟨a, vs, v, rfl, rfl, ha, by rw [ra.length]; exact hv, q _ _ ra.dropLast rv⟩
  · cases ef
def fPopAt : List D → List D → Option (List D × D)
  | [.int i], ds => if -(2 ^ 63) ≤ i ∧ i < 2 ^ 63 then (seqIndex? i ds.length).bind fun k => (ds[k]?).map fun d => (ds.eraseIdx k, d) else none
  | _, _ => none
theorem mut_popAt : MutV K rPopAt fPopAt := by
  intro Z H a vs ds ds' ws es y Q zh ha ra rw_ ef q
  unfold fPopAt at ef
  split at ef
  · split at ef
    · rename_i hb
      obtain ⟨k, hk, ef⟩ := Option.bind_eq_some_iff.mp ef
      obtain ⟨d, hd, ef⟩ := Option.map_eq_some_iff.mp ef
      cases ef
      cases rw_ with
      | cons r1 r2 =>
        cases r2
        cases r1
        obtain ⟨v, hv, rv⟩ := ra.get hd
        exact ⟨a, vs, _, k, v, rfl, rfl, ha, hb.1, hb.2, by rw [ra.length]; exact hk, hv, q _ _ (ra.eraseIdx k) rv⟩
    · cases ef
  · cases ef
end

/-! ### xs[i] = e, xs[i] += e -/
def setL (i : Int) (d : D) (ds : List D) : Option (List D × D) := (ixN ds.length i).map fun k => (ds.set k d, .none)
def sStL (a : Fv) (o k : Ev) : Es := fun ρ => (a ρ).bind fun p => (o p.2).bind fun x => (k x.2).bind fun y => (y.1.res y.2).bind fun m => match m with
  | .p (.int i) => (x.1.upd (setL i p.1) y.2).map fun z => (.nx, z.2)
  | _ => none
section
variable {X : Cx} {P : List Nat} {o k e : Expr} {pos tpos : Pos}
theorem vs_stL {a : Fv} {od kd : Ev} (he : VF X e a) (ho : VE X o od) (hk : VE X k kd) (hs : swapsWithSole [.Subscript o k tpos] e pos.line X.env = pure false) (hw : swappedStores [.Subscript o k tpos] e X.env = pure none) (h1 : (assignEach [.Subscript o k tpos] X.env).map (·.2) = [assign (.Subscript o k tpos) X.env])
    (ha : ∀ v, assign (.Subscript o k tpos) X.env v = (do
      let ov ← holding [v] (eval o X.env)
      let iv ← holding [v, ov] (eval k X.env)
      standAt tpos
      holding [v, ov, iv] (setItem ov iv v)
      release [v, ov, iv] [])) : VS X P (.Assign [.Subscript o k tpos] e pos) (sStL a od kd) :=
  ps_mono (ps_asg he (pg_sub ho hk set_list ha) hs hw h1) fun D σ H ⟨Z, ρ, F, f, ρ', rs, ed, q⟩ => by
    obtain ⟨⟨d, ρ1⟩, e1, ed⟩ := Option.bind_eq_some_iff.mp ed
    obtain ⟨⟨x, ρ2⟩, e2, ed⟩ := Option.bind_eq_some_iff.mp ed
    obtain ⟨⟨y, ρ3⟩, e3, ed⟩ := Option.bind_eq_some_iff.mp ed
    obtain ⟨m, e4, ed⟩ := Option.bind_eq_some_iff.mp ed
    dsimp only at ed e4
    split at ed
    · rename_i i
      obtain ⟨⟨z, ρ4⟩, e5, ed⟩ := Option.map_eq_some_iff.mp ed
      cases ed
      refine ⟨Z, ρ, F, d, ρ1, rs, e1, fun v Z1 H1 F1 M1 R1 => ⟨Z1, ρ1, F1, x, ρ2, M1.rs, e2, fun ov Z2 H2 F2 A2 E2 => ⟨Z2, ρ2, F2, y, ρ3, E2.mid.rs, e3, fun kv Z3 H3 F3 A3 E3 => ?_⟩⟩⟩
      obtain ⟨_, B, q3, _⟩ := E3.rx.rm E3.mid.rs e4
      obtain rfl := int_rm q3
      obtain ⟨a', vs, ds, ds', rfl, h', ra, ef, kk⟩ := (E2.rx.keep E2.mid.rs E3.mid).upd E3.mid.rs e5
      obtain ⟨j, hj, ef⟩ := Option.map_eq_some_iff.mp ef
      cases ef
      exact ⟨a', vs, i, j, rfl, rfl, h', by rw [ra.length]; exact hj, q σ Z3 _ F3 (((M1.trans E2.mid).trans E3.mid).trans (kk _ (ra.set ((R1.mono E2.mid.zz).mono E3.mid.zz) j))) Keep.refl⟩
    · cases ed
/-- o[i] of a list, by values -/
theorem pget_list : PGet X (rIxL X.K) := by
  intro pins s σ H o i ov iv Q I ro ri h
  obtain ⟨p, xs, j, v, rfl, rfl, hs, hv, q⟩ := h
  cases ro
  obtain ⟨t, rfl⟩ := ri
  obtain ⟨its, r, pl, hz⟩ := I.list hs
  obtain ⟨k, h1, h2, h3, h4, h5⟩ := atI_get hv
  obtain ⟨w, ew, rw'⟩ := r.get h2
  have hl := r.length
  have hn := line63
  have fin : EP X pins σ Q w s := ⟨v, H, I, rw', q⟩
  by_cases h0 : 0 ≤ j
  · have hj : j.toNat = k := by
      rw [seqIndex_of h0 h5] at h1
      exact Option.some.inj h1
    exact wpAny_getItem_list pl.isList h0 (by omega) (by rw [hj]; simpa using ew) fin
  · have hj : (j + (its.toArray.size : Int)).toNat = k := by
      rw [seqIndex_neg (by omega) h4] at h1
      rw [List.size_toArray, ← hl]
      exact Option.some.inj h1
    exact wpAny_getItem_list_neg pl.isList (by omega) (by rw [List.size_toArray] <;> omega) (by omega) (by rw [hj]; simpa using ew) fin
/-- o[k] op= e: o, k, the old one, then e -/
def sAugL (g : M → M → Option M) (o k : Ev) (a : Ev) : Es := fun ρ => (o ρ).bind fun x => (k x.2).bind fun y => (y.1.res y.2).bind fun m => match m with
  | .p (.int i) => (x.1.res y.2).bind fun m0 => m0.ls.bind fun ds => (atI ds i).bind fun d => (a y.2).bind fun p => (p.1.res p.2).bind fun w => (g (.p d) w).bind fun z => match z with
    | .p z' => (x.1.upd (setL i z') p.2).map fun r => (.nx, r.2)
    | _ => none
  | _ => none
theorem vs_augL {op : Operator} {r : R2} {g : M → M → Option M} {a : Ev} {od kd : Ev} (hr : PIp X op r) (hv : OpV X.K r g) (ho : VE X o od) (hk : VE X k kd) (he : VE X e a)
    (ha : ∀ ov iv new, augStore k ov iv new = (do holding [new, ov, iv] (setItem ov iv new); release [new, ov, iv] []; pure .next)) : VS X P (.AugAssign (.Subscript o k tpos) op e pos) (sAugL g od kd a) :=
  ps_mono (ps_augS ho hk pget_list he hr set_list ha) fun D σ H ⟨Z, ρ, F, f, ρ', rs, ed, q⟩ => by
    obtain ⟨⟨x, ρ1⟩, e1, ed⟩ := Option.bind_eq_some_iff.mp ed
    obtain ⟨⟨y, ρ2⟩, e2, ed⟩ := Option.bind_eq_some_iff.mp ed
    obtain ⟨m, e3, ed⟩ := Option.bind_eq_some_iff.mp ed
    dsimp only at ed e3
    split at ed
    · rename_i i
      obtain ⟨m0, e4, ed⟩ := Option.bind_eq_some_iff.mp ed
      obtain ⟨ds, e5, ed⟩ := Option.bind_eq_some_iff.mp ed
      obtain ⟨d, e6, ed⟩ := Option.bind_eq_some_iff.mp ed
      obtain ⟨⟨p, ρ3⟩, e7, ed⟩ := Option.bind_eq_some_iff.mp ed
      obtain ⟨w, e8, ed⟩ := Option.bind_eq_some_iff.mp ed
      obtain ⟨z, e9, ed⟩ := Option.bind_eq_some_iff.mp ed
      dsimp only at ed e8
      split at ed
      · rename_i z'
        obtain ⟨⟨u, ρ4⟩, e10, ed⟩ := Option.map_eq_some_iff.mp ed
        cases ed
        refine ⟨Z, ρ, F, x, ρ1, rs, e1, fun ov Z1 H1 F1 A1 E1 => ⟨Z1, ρ1, F1, y, ρ2, E1.mid.rs, e2, fun kv Z2 H2 F2 A2 E2 => ?_⟩⟩
        obtain ⟨_, B, q3, _⟩ := E2.rx.rm E2.mid.rs e3
        obtain rfl := int_rm q3
        have R1 := E1.rx.keep E1.mid.rs E2.mid
        obtain ⟨_, B4, q4, _⟩ := R1.rm E2.mid.rs e4
        obtain ⟨a0, vs, rfl, h0, ra⟩ := ls_rm q4 E2.mid.rs.zh e5
        obtain ⟨v, hv0, rv⟩ := ra.atI e6
        refine ⟨a0, vs, i, v, rfl, rfl, SqL.of h0, hv0, Z2, ρ2, F2, p, ρ3, E2.mid.rs, e7, fun pv Z3 H3 F3 A3 E3 => ?_⟩
        obtain ⟨k8, B8, q8, _⟩ := E3.rx.rm E3.mid.rs e8
        refine hv Z3 H3 (.p d) w _ v pv [] B8 _ E3.mid.rs.zh rfl k8 ⟨rv.mono E3.mid.zz, rfl⟩ q8 e9 fun zv Z4 H4 A4 res => ?_
        have E4 := E3.mid.then (res.fin E3.mid.rs)
        obtain ⟨rz, _⟩ := res.rm
        have R4 := (R1.keep E2.mid.rs E3.mid).keep E3.mid.rs (res.fin E3.mid.rs).mid
        obtain ⟨a', vs', ds', ds2, ea, h', ra', ef, kk⟩ := R4.upd (res.fin E3.mid.rs).mid.rs e10
        cases ea
        obtain ⟨j, hj, ef⟩ := Option.map_eq_some_iff.mp ef
        cases ef
        exact ⟨_, vs', i, j, rfl, rfl, h', by rw [ra'.length]; exact hj, q σ _ _ F3 (((E1.mid.trans E2.mid).trans E4.mid).trans (kk _ (ra'.set rz j))) Keep.refl⟩
      · cases ed
    · cases ed
end
end Iv

set_option Elab.async false
set_option linter.all false
set_option maxRecDepth 100000
/-! Iv, part 8: defs and their calls. -/
namespace Iv
open PySem PySem.Spec L2

abbrev Sem1 := List M → Option (M × En)
/-- the promise of a def that does f: from its arguments as slots to the answer and the slots of those that it hands back -/
def spF (K : PySem.W.Frag) (n : Nat) (f : Sem1) : Sp := fun vs H Q _ => vs.length = n ∧ ∃ Z ms F r ρ', RS K Z H (ms.map some) (vs.map some) F ∧ f ms = some (r, ρ') ∧ ∀ v Z' H' F' A, End K Z H F (vs.map some) ρ' (.m r) v Z' H' F' A → Q v H'
/-- a def's run over its body: P the parameters that it hands back -/
def fnD (n N : Nat) (P : List Nat) (body : Es) : Sem1 := fun ms => if ms.length = n then (body (ms.map some ++ List.replicate (N - n) none)).bind fun p => match p.1 with
  | .rt m => some (m, (List.range n).map fun i => if i ∈ P then (p.2[i]?).join else none)
  | .nx => some (.p .none, (List.range n).map fun i => if i ∈ P then (p.2[i]?).join else none)
  | _ => none
  else none
section
variable {K : PySem.W.Frag} {Z H Z' H' : Hp} {ρ' : En} {F F' : Nat → List Addr} {σ σ' : St}
theorem out_get {n : Nat} {P : List Nat} {ρ : En} {i : Nat} {m : M} (h : ((List.range n).map fun i => if i ∈ P then (ρ[i]?).join else none)[i]? = some (some m)) : i < n ∧ i ∈ P ∧ ρ[i]? = some (some m) := by
  rw [List.getElem?_map] at h
  obtain ⟨j, hj, e⟩ := Option.map_eq_some_iff.mp h
  obtain ⟨h1, h2⟩ := List.getElem?_eq_some_iff.mp hj
  simp at h1 h2
  subst h2
  split at e
  · refine ⟨h1, by assumption, ?_⟩
    cases q : ρ[i]? with
    | none => rw [q] at e; cases e
    | some o => rw [q] at e; simpa using e
  · cases e
theorem fin_out {n : Nat} {P : List Nat} {vs : List V} (hn : vs.length = n) (hPn : ∀ i ∈ P, i < n) (k : Keep P (vs.map some ++ List.replicate (σ.length - n) none) σ') {O : Addr → Prop} (m : Mid K Z H O σ' ρ' Z' H' F') :
    ∃ F2, Mid K Z H O (vs.map some) ((List.range n).map fun i => if i ∈ P then (ρ'[i]?).join else none) Z' H' F2 ∧ ∀ a, Ow F2 a → Ow F' a := by
  have at_ : ∀ {i : Nat} {q : M}, ((List.range n).map fun i => if i ∈ P then (ρ'[i]?).join else none)[i]? = some (some q) → i < n ∧ i ∈ P ∧ ρ'[i]? = some (some q) := out_get
  have Fp : ∀ {i a}, a ∈ (if i ∈ P then F' i else []) → i ∈ P ∧ a ∈ F' i := fun {i a} h => by
    split at h
    · exact ⟨by assumption, h⟩
    · cases h
  refine ⟨fun i => if i ∈ P then F' i else [], ⟨⟨by simp [hn], m.rs.zh, fun i q hq => ?_, fun i hq => ?_, fun i j a h1 h2 => m.rs.dis i j a (Fp h1).2 (Fp h2).2, fun i => ?_, fun i a h => m.rs.zfr i a (Fp h).2⟩, m.zz, fun a ⟨i, h⟩ => m.new a ⟨i, (Fp h).2⟩, m.fro, m.frm⟩, fun a ⟨i, h⟩ => ⟨i, (Fp h).2⟩⟩
  · obtain ⟨h1, h2, h3⟩ := at_ hq
    obtain ⟨v, ev, rv⟩ := m.rs.rep i q h3
    have e := k.2 i h2
    rw [ev, List.getElem?_append_left (by simpa [hn] using h1)] at e
    refine ⟨v, e.symm, ?_⟩
    simp only [if_pos h2]
    exact rv
  · show (if i ∈ P then F' i else []) = []
    split
    · rename_i h2
      refine m.rs.emp i fun q z => hq q ?_
      rw [List.getElem?_map, List.getElem?_range (hPn i h2)]
      simp [h2, z]
    · rfl
  · show (if i ∈ P then F' i else []).Nodup
    split
    · exact m.rs.nod i
    · exact List.nodup_nil
theorem rs_start {n N : Nat} {ms : List M} {vs : List V} (hn : vs.length = n) (r : RS K Z H (ms.map some) (vs.map some) F) : RS K Z H (ms.map some ++ List.replicate (N - n) none) (vs.map some ++ List.replicate (N - n) none) F := by
  have hl : ms.length = vs.length := by simpa using r.len
  refine ⟨by simp [hl], r.zh, fun i m e => ?_, fun i e => ?_, r.dis, r.nod, r.zfr⟩
  · by_cases hi : i < ms.length
    · rw [List.getElem?_append_left (by simpa using hi)] at e
      obtain ⟨v, e1, k⟩ := r.rep i m e
      exact ⟨v, by rw [List.getElem?_append_left (by simpa [← hl] using hi)]; exact e1, k⟩
    · rw [List.getElem?_append_right (by simpa using hi), List.getElem?_replicate] at e
      split at e <;> cases e
  · refine r.emp i fun m q => e m ?_
    have hi : i < ms.length := by simpa using (List.getElem?_eq_some_iff.mp q).1
    rw [List.getElem?_append_left (by simpa using hi)]
    exact q
end
/-- THE RULE for a def: its body does what body says -/
theorem fn_okD {P : Program} {w : World} {K : PySem.W.Frag} {mg : Str → Option Value} {base : Heap} {k : Nat} {f : Addr} {name qual : Str} {params : Arguments} {body : List Stmt} {scope : Scope} {dV kV doc pm cdv ct oc : Value} {an od : Option Addr}
    {osl : Array (Option Value)} {N ps : List Str} {Pr : List Nat} {d : Es} (lk : K.lookup f = some ⟨oc, od, .func (PySem.W.fnOf name qual params body scope dV kV doc pm an cdv ct), osl⟩) (hcd : PySem.W.codeIn K cdv qual = true) (S : FnScope N ps scope) (hPr : ∀ i ∈ Pr, i < ps.length)
    (hb : ∀ X : Cx, X.prog = P → X.w = w → X.K = K → X.mg = mg → X.base = base → X.N = N → X.env.scope = scope → X.calm = true → X.xe = (fun _ _ => False) → (∀ x, X.fn x = true) → Room k X.A → VB X Pr body d) : FnOk P w K mg base CX0 (k + 1) f (PySem.W.fnOf name qual params body scope dV kV doc pm an cdv ct) ps (spF K ps.length (fnD ps.length N.length Pr d)) := by
  refine fn_of lk hcd S (fun vs H Q E h => h.1) fun A outer s H vs Q E hr h => ?_
  obtain ⟨hn, Z, ms, F, r, ρ', rs, ef, q⟩ := h
  refine ⟨_, (PSs.nox (hb _ rfl rfl rfl rfl rfl rfl rfl rfl rfl (fun _ => rfl) hr)), ?_⟩
  unfold fnD at ef
  split at ef
  · obtain ⟨⟨fl, ρ1⟩, e1, ef⟩ := Option.bind_eq_some_iff.mp ef
    have st : L2.start N vs = vs.map some ++ List.replicate (N.length - ps.length) none := by unfold L2.start; rw [hn]
    rw [st]
    refine ⟨Z, _, F, fl, ρ1, rs_start hn rs, e1, ?_⟩
    have fin : ∀ {m : M}, some (m, (List.range ps.length).map fun i => if i ∈ Pr then (ρ1[i]?).join else none) = some (r, ρ') → ∀ v σ' Z' H' F' A', End K Z H F σ' ρ1 (.m m) v Z' H' F' A' → Keep Pr (vs.map some ++ List.replicate (N.length - ps.length) none) σ' → Q v H' := fun {m} e v σ' Z' H' F' A' E' k => by
      cases e
      obtain ⟨F2, M2, hF⟩ := fin_out (σ := List.replicate N.length none) hn hPr (by simpa using k) E'.mid
      exact q v Z' H' F2 A' ⟨M2, ⟨E'.rx.1, E'.rx.2.1, fun a ha => ⟨(E'.rx.2.2 a ha).1, fun z => (E'.rx.2.2 a ha).2 (hF a z)⟩⟩, E'.nw⟩
    cases fl with
    | rt m => exact fun v σ' Z' H' F' A' E' k => fin ef v σ' Z' H' F' A' E' k
    | nx => exact fun σ' Z' H' F' M' k => fin ef .non σ' Z' H' F' [] (End.p .non M') k
    | bk => cases ef
    | ct => cases ef
  · cases ef

/-! ### calls -/
/-- an argument: slot i handed over and back; slot i lent; any other expression, frozen -/
inductive Ag where
  | io (i : Nat)
  | var (i : Nat)
  | pt (i k : Nat) (d : Ev)
  | ex (d : Fv)
def agv : List Ag → En → Option (List (Option D) × En)
  | [], ρ => some ([], ρ)
  | .ex d :: as, ρ => (d ρ).bind fun p => (agv as p.2).bind fun q => some (some p.1 :: q.1, q.2)
  | .io i :: as, ρ => match ρ[i]? with
    | some (some _) => (agv as ρ).bind fun q => some (none :: q.1, q.2)
    | _ => none
  | .var i :: as, ρ => match ρ[i]? with
    | some (some _) => (agv as ρ).bind fun q => some (none :: q.1, q.2)
    | _ => none
  | .pt i k d :: as, ρ => (d ρ).bind fun p => match p.1 with
    | .rc j l => if j = i ∧ l = k then (agv as p.2).bind fun q => some (none :: q.1, q.2) else none
    | .m (.p e) => (agv as p.2).bind fun q => some (some e :: q.1, q.2)
    | _ => none
def AgOk (Z H : Hp) (σ : St) : List Ag → List (Option D) → List V → Prop
  | [], [], [] => True
  | .ex _ :: as, some d :: xs, v :: vs => Rp Z v d ∧ AgOk Z H σ as xs vs
  | .io i :: as, none :: xs, v :: vs => σ[i]? = some (some v) ∧ AgOk Z H σ as xs vs
  | .var i :: as, none :: xs, v :: vs => σ[i]? = some (some v) ∧ AgOk Z H σ as xs vs
  | .pt i k _ :: as, none :: xs, v :: vs => (∃ t us, σ[i]? = some (some (.ref t)) ∧ H t = some (.tup us) ∧ us[k]? = some v) ∧ AgOk Z H σ as xs vs
  | .pt _ _ _ :: as, some d :: xs, v :: vs => Rp Z v d ∧ AgOk Z H σ as xs vs
  | _, _, _ => False
def rdA (K : PySem.W.Frag) (as : List Ag) : TA := fun σ H Q => ∃ Z ρ F xs ρ', RS K Z H ρ σ F ∧ agv as ρ = some (xs, ρ') ∧ ∀ vs Z' H' F', Mid K Z H (Ow F) σ ρ' Z' H' F' → AgOk Z' H' σ as xs vs → Q vs H'
def VA (X : Cx) (es : List Expr) (as : List Ag) : Prop := PA X es (rdA X.K as)
theorem AgOk.mono {Z Z' H H' : Hp} {σ : St} (s : Same Z Z') (t : ∀ a xs, H a = some (.tup xs) → H' a = some (.tup xs)) : ∀ {as : List Ag} {xs : List (Option D)} {vs : List V}, AgOk Z H σ as xs vs → AgOk Z' H' σ as xs vs
  | [], [], [], h => h
  | .ex _ :: as, some d :: xs, v :: vs, h => ⟨h.1.mono s, AgOk.mono s t h.2⟩
  | .io i :: as, none :: xs, v :: vs, h => ⟨h.1, AgOk.mono s t h.2⟩
  | .var i :: as, none :: xs, v :: vs, h => ⟨h.1, AgOk.mono s t h.2⟩
  | [], [], _ :: _, h => h
  | [], _ :: _, _, h => h
  | .ex _ :: _, [], _, h => h
  | .ex _ :: _, none :: _, _, h => by cases h
  | .ex _ :: _, some _ :: _, [], h => h
  | .io _ :: _, [], _, h => h
  | .io _ :: _, some _ :: _, _, h => by cases h
  | .io _ :: _, none :: _, [], h => h
  | .var _ :: _, [], _, h => h
  | .var _ :: _, some _ :: _, _, h => by cases h
  | .var _ :: _, none :: _, [], h => h
  | .pt i k d0 :: as, some d :: xs, v :: vs, h => ⟨h.1.mono s, AgOk.mono s t h.2⟩
  | .pt i k d0 :: as, none :: xs, v :: vs, h => ⟨(let ⟨a, us, h1, h2, h3⟩ := h.1; ⟨a, us, h1, t a us h2, h3⟩), AgOk.mono s t h.2⟩
  | .pt _ _ _ :: _, [], _, h => h
  | .pt _ _ _ :: _, some _ :: _, [], h => h
  | .pt _ _ _ :: _, none :: _, [], h => h
section
variable {X : Cx} {e : Expr} {es : List Expr} {as : List Ag}
theorem va_nil : VA X [] [] := pa_mono pa_nil fun σ H Q ⟨Z, ρ, F, x, ρ2, rs, ed, q⟩ => by
  cases ed
  exact q [] Z H F rs.refl trivial
theorem va_ex {d : Fv} (hs : starEach (e :: es) X.env = (false, eval e X.env) :: starEach es X.env) (ha : VF X e d) (hr : VA X es as) : VA X (e :: es) (.ex d :: as) := pa_mono (pa_cons ha hr hs) fun σ H Q ⟨Z, ρ, F, x, ρ2, rs, ed, q⟩ => by
  obtain ⟨⟨xa, ρa⟩, ea, ed⟩ := Option.bind_eq_some_iff.mp (show (d ρ).bind _ = _ from ed)
  obtain ⟨⟨xr, ρr⟩, er, ed⟩ := Option.bind_eq_some_iff.mp ed
  cases ed
  exact ⟨Z, ρ, F, xa, ρa, rs, ea, fun v Z1 H1 F1 M1 R1 => ⟨Z1, ρa, F1, xr, _, M1.rs, er, fun vs Z2 H2 F2 M2 R2 => q _ Z2 H2 F2 (M1.trans M2) ⟨R1.mono M2.zz, R2⟩⟩⟩
theorem va_pt {d : Ev} {i k : Nat} (hs : starEach (e :: es) X.env = (false, eval e X.env) :: starEach es X.env) (ha : VE X e d) (hr : VA X es as) : VA X (e :: es) (.pt i k d :: as) := pa_mono (pa_cons ha hr hs) fun σ H Q ⟨Z, ρ, F, x, ρ2, rs, ed, q⟩ => by
  obtain ⟨⟨xa, ρa⟩, ea, ee⟩ := Option.bind_eq_some_iff.mp (show (d ρ).bind _ = _ from ed)
  clear ed
  have keepT : ∀ {Z1 H1 : Hp} {F1 : Nat → List Addr} {Z2 H2 : Hp} {F2 : Nat → List Addr} {ρ1 ρ2 : En}, RS X.K Z1 H1 ρ1 σ F1 → Mid X.K Z1 H1 (Ow F1) σ ρ2 Z2 H2 F2 → ∀ a xs, H1 a = some (.tup xs) → H2 a = some (.tup xs) := fun r1 m2 a xs h => m2.frm a _ h fun z => by
    obtain ⟨o, e, w⟩ := r1.own z
    rw [h] at e; cases e; exact w
  dsimp only at ee
  split at ee
  · rename_i j0 l0
    split at ee
    · rename_i hc
      obtain ⟨rfl, rfl⟩ := hc
      obtain ⟨⟨xr, ρr⟩, er, e3⟩ := Option.bind_eq_some_iff.mp ee
      cases e3
      refine ⟨Z, ρ, F, _, ρa, rs, ea, fun v Z1 H1 F1 A1 E1 => ⟨Z1, ρa, F1, xr, _, E1.mid.rs, er, fun vs Z2 H2 F2 M2 R2 => q _ Z2 H2 F2 (E1.mid.trans M2) ⟨?_, R2⟩⟩⟩
      obtain ⟨_, t, us, h1, h2, h3⟩ := E1.rx
      exact ⟨t, us, h1, keepT E1.mid.rs M2 t us h2, h3⟩
    · cases ee
  · obtain ⟨⟨xr, ρr⟩, er, e3⟩ := Option.bind_eq_some_iff.mp ee
    cases e3
    exact ⟨Z, ρ, F, _, ρa, rs, ea, fun v Z1 H1 F1 A1 E1 => ⟨Z1, ρa, F1, xr, _, E1.mid.rs, er, fun vs Z2 H2 F2 M2 R2 => q _ Z2 H2 F2 (E1.mid.trans M2) ⟨E1.rx.1.1.mono M2.zz, R2⟩⟩⟩
  · cases ee
theorem var_pe {K : PySem.W.Frag} {i : Nat} {as : List Ag} {xs : List (Option D)} {ρ ρ' : En} {σ : St} {H Z : Hp} {F : Nat → List Addr} {Q : List V → Hp → Prop} (rs : RS K Z H ρ σ F) (hρ : ∃ m, ρ[i]? = some (some m)) (ea : agv as ρ = some (xs, ρ'))
    (q : ∀ v vs Z' H' F', Mid K Z H (Ow F) σ ρ' Z' H' F' → σ[i]? = some (some v) → AgOk Z' H' σ as xs vs → Q (v :: vs) H') : tCons (tVar i) (rdA K as) σ H Q := by
  obtain ⟨m, e⟩ := hρ
  obtain ⟨v, ev, _⟩ := rs.rep i m e
  exact ⟨v, ev, Z, ρ, F, xs, ρ', rs, ea, fun vs Z2 H2 F2 M2 R2 => q v vs Z2 H2 F2 M2 ev R2⟩
theorem va_io {i : Nat} {x : Str} {pos : Pos} (hN : X.N[i]? = some x) (hv : Vis X.env.scope x) (hd : (x == ("__debug__" : Str)) = false) (hcd : (x == ("__classdict__" : Str)) = false) (hr : VA X es as) : VA X (.Name x pos :: es) (.io i :: as) :=
  pa_mono (pa_cons (pe_var hN hv hd hcd) hr rfl) fun σ H Q ⟨Z, ρ, F, xs, ρ2, rs, ed, q⟩ => by
    unfold agv at ed
    split at ed
    · rename_i m e
      obtain ⟨⟨xr, ρr⟩, er, ed⟩ := Option.bind_eq_some_iff.mp ed
      cases ed
      exact var_pe rs ⟨m, e⟩ er fun v vs Z2 H2 F2 M2 ev R2 => q _ Z2 H2 F2 M2 ⟨ev, R2⟩
    · cases ed
theorem va_var {i : Nat} {x : Str} {pos : Pos} (hN : X.N[i]? = some x) (hv : Vis X.env.scope x) (hd : (x == ("__debug__" : Str)) = false) (hcd : (x == ("__classdict__" : Str)) = false) (hr : VA X es as) : VA X (.Name x pos :: es) (.var i :: as) :=
  pa_mono (pa_cons (pe_var hN hv hd hcd) hr rfl) fun σ H Q ⟨Z, ρ, F, xs, ρ2, rs, ed, q⟩ => by
    unfold agv at ed
    split at ed
    · rename_i m e
      obtain ⟨⟨xr, ρr⟩, er, ed⟩ := Option.bind_eq_some_iff.mp ed
      cases ed
      exact var_pe rs ⟨m, e⟩ er fun v vs Z2 H2 F2 M2 ev R2 => q _ Z2 H2 F2 M2 ⟨ev, R2⟩
    · cases ed
end
/-- what the callee gets -/
def lend : M → M
  | .scr ns => .scr ns
  | .fd f => .fd f
  | m => .p m.dat
def asm1 (ρ : En) : Ag → Option D → Option M
  | .ex _, some d => some (.p d)
  | .io i, none => match ρ[i]? with
    | some (some m) => some m
    | _ => none
  | .var i, none => match ρ[i]? with
    | some (some (.fd _)) => none
    | some (some m) => some (lend m)
    | _ => none
  | .pt _ _ _, some d => some (.p d)
  | .pt i k _, none => (X.res (.rc i k) ρ).map fun m => .p m.dat
  | _, _ => none
def asm (ρ : En) : List Ag → List (Option D) → Option (List M)
  | [], [] => some []
  | a :: as, x :: xs => (asm1 ρ a x).bind fun m => (asm ρ as xs).bind fun ms => some (m :: ms)
  | _, _ => none
def Ag.isIo : Ag → Option Nat
  | .io i => some i
  | _ => none
def Ag.isVar : Ag → Option Nat
  | .var i => some i
  | _ => none
/-- no slot is handed over twice, or handed over and lent -/
def iosOk : List Ag → Bool
  | [] => true
  | .io i :: as => as.all (fun b => match b with
    | .io j => i != j
    | .var j => i != j
    | .pt j _ _ => i != j
    | _ => true) && iosOk as
  | .var i :: as => as.all (fun b => match b with
    | .io j => i != j
    | _ => true) && iosOk as
  | .pt i _ _ :: as => as.all (fun b => match b with
    | .io j => i != j
    | _ => true) && iosOk as
  | _ :: as => iosOk as
def pureM : M → Bool
  | .p d => pure_ d
  | .lst ds => pureA ds
  | .tup cs => cs.all fun c => match c with
    | .p d => pure_ d
    | .l ds => pureA ds
  | .fd _ => true
  | _ => false
/-- a lent slot owns nothing -/
def freeV (ρ : En) : Ag → Bool
  | .var i => match ρ[i]? with
    | some (some (.p _)) => true
    | some (some (.scr _)) => true
    | _ => false
  | .pt i _ _ => match ρ[i]? with
    | some (some (.p _)) => true
    | _ => false
  | _ => true
def putO : List Ag → En → En → En
  | .io i :: as, o :: os, ρ => putO as os (ρ.set i o)
  | _ :: as, _ :: os, ρ => putO as os ρ
  | _, _, ρ => ρ
def dCall (f : Sem1) (as : List Ag) : Ev := fun ρ => (agv as ρ).bind fun p => (asm p.2 as p.1).bind fun ms => (f ms).bind fun r =>
  if iosOk as = true ∧ (as.all (freeV p.2) = true ∨ (pureM r.1 = true ∧ r.2.all (fun o => match o with
    | some m => pureM m
    | none => true) = true)) then some (.m r.1, putO as r.2 p.2) else none

theorem iosOk_cons {a : Ag} {as : List Ag} (h : iosOk (a :: as) = true) : iosOk as = true := by
  cases a <;> simp_all [iosOk]
theorem iosOk_io : ∀ {as : List Ag}, iosOk as = true → ∀ {k l i : Nat}, as[k]? = some (Ag.io i) → as[l]? = some (Ag.io i) → k = l
  | [], _, k, l, i, h, _ => by simp at h
  | a :: as, h, 0, 0, i, _, _ => rfl
  | a :: as, h, 0, l + 1, i, h1, h2 => by
    simp at h1 h2
    subst h1
    simp only [iosOk, Bool.and_eq_true, List.all_eq_true] at h
    have := h.1 _ (List.mem_of_getElem? h2)
    simp at this
  | a :: as, h, k + 1, 0, i, h1, h2 => by
    simp at h1 h2
    subst h2
    simp only [iosOk, Bool.and_eq_true, List.all_eq_true] at h
    have := h.1 _ (List.mem_of_getElem? h1)
    simp at this
  | a :: as, h, k + 1, l + 1, i, h1, h2 => by
    rw [iosOk_io (iosOk_cons h) (k := k) (l := l) (i := i) (by simpa using h1) (by simpa using h2)]
theorem iosOk_var : ∀ {as : List Ag}, iosOk as = true → ∀ {k l i : Nat}, as[k]? = some (Ag.io i) → as[l]? = some (Ag.var i) → False
  | [], _, k, l, i, h, _ => by simp at h
  | a :: as, h, 0, 0, i, h1, h2 => by simp at h1 h2; rw [h1] at h2; cases h2
  | a :: as, h, 0, l + 1, i, h1, h2 => by
    simp at h1 h2
    subst h1
    simp only [iosOk, Bool.and_eq_true, List.all_eq_true] at h
    have := h.1 _ (List.mem_of_getElem? h2)
    simp at this
  | a :: as, h, k + 1, 0, i, h1, h2 => by
    simp at h1 h2
    subst h2
    simp only [iosOk, Bool.and_eq_true, List.all_eq_true] at h
    have := h.1 _ (List.mem_of_getElem? h1)
    simp at this
  | a :: as, h, k + 1, l + 1, i, h1, h2 => iosOk_var (iosOk_cons h) (k := k) (l := l) (i := i) (by simpa using h1) (by simpa using h2)
theorem iosOk_pt : ∀ {as : List Ag}, iosOk as = true → ∀ {k l i j : Nat} {d : Ev}, as[k]? = some (Ag.io i) → as[l]? = some (Ag.pt i j d) → False
  | [], _, k, l, i, j, d, h, _ => by simp at h
  | a :: as, h, 0, 0, i, j, d, h1, h2 => by simp at h1 h2; rw [h1] at h2; cases h2
  | a :: as, h, 0, l + 1, i, j, d, h1, h2 => by
    simp at h1 h2
    subst h1
    simp only [iosOk, Bool.and_eq_true, List.all_eq_true] at h
    have := h.1 _ (List.mem_of_getElem? h2)
    simp at this
  | a :: as, h, k + 1, 0, i, j, d, h1, h2 => by
    simp at h1 h2
    subst h2
    simp only [iosOk, Bool.and_eq_true, List.all_eq_true] at h
    have := h.1 _ (List.mem_of_getElem? h1)
    simp at this
  | a :: as, h, k + 1, l + 1, i, j, d, h1, h2 => iosOk_pt (iosOk_cons h) (k := k) (l := l) (i := i) (j := j) (d := d) (by simpa using h1) (by simpa using h2)
theorem asm_at {ρ : En} : ∀ {as : List Ag} {xs : List (Option D)} {ms : List M}, asm ρ as xs = some ms → ms.length = as.length ∧ ∀ {k : Nat} {m : M}, ms[k]? = some m → ∃ a x, as[k]? = some a ∧ xs[k]? = some x ∧ asm1 ρ a x = some m
  | [], [], ms, h => by cases h; exact ⟨rfl, fun h => by simp at h⟩
  | a :: as, x :: xs, ms, h => by
    obtain ⟨m, e1, h⟩ := Option.bind_eq_some_iff.mp (show (asm1 ρ a x).bind _ = _ from h)
    obtain ⟨r, e2, h⟩ := Option.bind_eq_some_iff.mp h
    cases h
    obtain ⟨l, q⟩ := asm_at e2
    refine ⟨by simp [l], fun {k m'} hk => ?_⟩
    cases k with
    | zero => simp at hk; subst hk; exact ⟨a, x, rfl, rfl, e1⟩
    | succ k =>
      obtain ⟨a', x', h1, h2, h3⟩ := q (k := k) (by simpa using hk)
      exact ⟨a', x', by simpa using h1, by simpa using h2, h3⟩
  | [], _ :: _, _, h => by cases h
  | _ :: _, [], _, h => by cases h
theorem AgOk.at_ {Z H : Hp} {σ : St} : ∀ {as : List Ag} {xs : List (Option D)} {vs : List V}, AgOk Z H σ as xs vs → vs.length = as.length ∧ ∀ {k : Nat} {a : Ag} {x : Option D}, as[k]? = some a → xs[k]? = some x → ∃ v, vs[k]? = some v ∧ (match a, x with
    | .ex _, some d => Rp Z v d
    | .io i, none => σ[i]? = some (some v)
    | .var i, none => σ[i]? = some (some v)
    | .pt i k _, none => ∃ t us, σ[i]? = some (some (.ref t)) ∧ H t = some (.tup us) ∧ us[k]? = some v
    | .pt _ _ _, some d => Rp Z v d
    | _, _ => False)
  | [], [], [], h => ⟨rfl, fun h => by simp at h⟩
  | .ex d0 :: as, some d :: xs, v :: vs, h => by
    obtain ⟨l, q⟩ := AgOk.at_ h.2
    refine ⟨by simp [l], fun {k a x} h1 h2 => ?_⟩
    cases k with
    | zero => simp at h1 h2; subst h1 h2; exact ⟨v, rfl, h.1⟩
    | succ k => obtain ⟨u, e, w⟩ := q (k := k) (by simpa using h1) (by simpa using h2); exact ⟨u, by simpa using e, w⟩
  | .io i :: as, none :: xs, v :: vs, h => by
    obtain ⟨l, q⟩ := AgOk.at_ h.2
    refine ⟨by simp [l], fun {k a x} h1 h2 => ?_⟩
    cases k with
    | zero => simp at h1 h2; subst h1 h2; exact ⟨v, rfl, h.1⟩
    | succ k => obtain ⟨u, e, w⟩ := q (k := k) (by simpa using h1) (by simpa using h2); exact ⟨u, by simpa using e, w⟩
  | .var i :: as, none :: xs, v :: vs, h => by
    obtain ⟨l, q⟩ := AgOk.at_ h.2
    refine ⟨by simp [l], fun {k a x} h1 h2 => ?_⟩
    cases k with
    | zero => simp at h1 h2; subst h1 h2; exact ⟨v, rfl, h.1⟩
    | succ k => obtain ⟨u, e, w⟩ := q (k := k) (by simpa using h1) (by simpa using h2); exact ⟨u, by simpa using e, w⟩
  | .pt i k0 d0 :: as, none :: xs, v :: vs, h => by
    obtain ⟨l, q⟩ := AgOk.at_ h.2
    refine ⟨by simp [l], fun {k a x} h1 h2 => ?_⟩
    cases k with
    | zero => simp at h1 h2; subst h1 h2; exact ⟨v, rfl, h.1⟩
    | succ k => obtain ⟨u, e, w⟩ := q (k := k) (by simpa using h1) (by simpa using h2); exact ⟨u, by simpa using e, w⟩
  | .pt i k0 d0 :: as, some d :: xs, v :: vs, h => by
    obtain ⟨l, q⟩ := AgOk.at_ h.2
    refine ⟨by simp [l], fun {k a x} h1 h2 => ?_⟩
    cases k with
    | zero => simp at h1 h2; subst h1 h2; exact ⟨v, rfl, h.1⟩
    | succ k => obtain ⟨u, e, w⟩ := q (k := k) (by simpa using h1) (by simpa using h2); exact ⟨u, by simpa using e, w⟩
  | [], [], _ :: _, h => h.elim
  | [], _ :: _, _, h => h.elim
  | .ex _ :: _, [], _, h => h.elim
  | .ex _ :: _, none :: _, _, h => by cases h
  | .ex _ :: _, some _ :: _, [], h => h.elim
  | .io _ :: _, [], _, h => h.elim
  | .io _ :: _, some _ :: _, _, h => by cases h
  | .io _ :: _, none :: _, [], h => h.elim
  | .var _ :: _, [], _, h => h.elim
  | .var _ :: _, some _ :: _, _, h => by cases h
  | .var _ :: _, none :: _, [], h => h.elim
  | .pt _ _ _ :: _, [], _, h => h.elim
  | .pt _ _ _ :: _, some _ :: _, [], h => h.elim
  | .pt _ _ _ :: _, none :: _, [], h => h.elim
theorem putO_len : ∀ (as : List Ag) (os ρ : En), (putO as os ρ).length = ρ.length
  | [], os, ρ => by cases os <;> rfl
  | a :: as, [], ρ => by cases a <;> rfl
  | .io i :: as, o :: os, ρ => by simp only [putO]; rw [putO_len]; simp
  | .var i :: as, o :: os, ρ => by simp only [putO]; rw [putO_len]
  | .ex i :: as, o :: os, ρ => by simp only [putO]; rw [putO_len]
  | .pt _ _ _ :: as, o :: os, ρ => by simp only [putO]; rw [putO_len]
theorem putO_ne {j : Nat} : ∀ {as : List Ag} {os ρ : En}, (∀ k : Nat, as[k]? ≠ some (Ag.io j)) → (putO as os ρ)[j]? = ρ[j]?
  | [], os, ρ, h => by cases os <;> rfl
  | a :: as, [], ρ, h => by cases a <;> rfl
  | .io i :: as, o :: os, ρ, h => by
    simp only [putO]
    rw [putO_ne fun k e => h (k + 1) (by simpa using e), List.getElem?_set_ne]
    rintro rfl
    exact h 0 rfl
  | .var i :: as, o :: os, ρ, h => by simp only [putO]; exact putO_ne fun k e => h (k + 1) (by simpa using e)
  | .pt _ _ _ :: as, o :: os, ρ, h => by simp only [putO]; exact putO_ne fun k e => h (k + 1) (by simpa using e)
  | .ex i :: as, o :: os, ρ, h => by simp only [putO]; exact putO_ne fun k e => h (k + 1) (by simpa using e)
theorem putO_io : ∀ {as : List Ag} {os ρ : En} {k j : Nat} {o : Option M}, iosOk as = true → as[k]? = some (Ag.io j) → os[k]? = some o → j < ρ.length → (putO as os ρ)[j]? = some o
  | [], os, ρ, k, j, o, _, h, _, _ => by simp at h
  | a :: as, [], ρ, k, j, o, _, _, h, _ => by simp at h
  | a :: as, o' :: os, ρ, 0, j, o, hi, h1, h2, hl => by
    simp at h1 h2
    subst h1 h2
    simp only [putO]
    rw [putO_ne fun k e => ?_, List.getElem?_set_self hl]
    have := iosOk_io hi (k := 0) (l := k + 1) (i := j) rfl (by simpa using e)
    cases this
  | .io i :: as, o' :: os, ρ, k + 1, j, o, hi, h1, h2, hl => by
    simp only [putO]
    exact putO_io (iosOk_cons hi) (by simpa using h1) (by simpa using h2) (by simpa using hl)
  | .var i :: as, o' :: os, ρ, k + 1, j, o, hi, h1, h2, hl => by
    simp only [putO]
    exact putO_io (iosOk_cons hi) (by simpa using h1) (by simpa using h2) hl
  | .ex i :: as, o' :: os, ρ, k + 1, j, o, hi, h1, h2, hl => by
    simp only [putO]
    exact putO_io (iosOk_cons hi) (by simpa using h1) (by simpa using h2) hl
  | .pt _ _ _ :: as, o' :: os, ρ, k + 1, j, o, hi, h1, h2, hl => by
    simp only [putO]
    exact putO_io (iosOk_cons hi) (by simpa using h1) (by simpa using h2) hl
/-- pure things lean on no lent object -/
theorem RCs.pureR {Z Z' H : Hp} (s : ∀ a xs, Z a = some (.tup xs) → Z' a = some (.tup xs)) : ∀ {cs : List C} {vs : List V} {A : List Addr}, RCs Z H cs vs A → (cs.all fun c => match c with
    | .p d => pure_ d
    | .l ds => pureA ds) = true → RCs Z' H cs vs A
  | [], [], A, r, _ => r
  | c :: cs, v :: vs, A, r, p => by
    obtain ⟨A1, A2, r1, r2, rfl⟩ := r
    simp only [List.all_cons, Bool.and_eq_true] at p
    refine ⟨A1, A2, ?_, r2.pureR s p.2, rfl⟩
    cases c with
    | p d => exact ⟨r1.1.pure' s p.1, r1.2⟩
    | l ds =>
      obtain ⟨a, ws, e, eA, h, q⟩ := r1
      exact ⟨a, ws, e, eA, h, q.pure' s p.1⟩
  | [], _ :: _, _, r, _ => r.elim
  | _ :: _, [], _, r, _ => r.elim
theorem RM.pureR {K : PySem.W.Frag} {Z Z' H : Hp} (s : ∀ a xs, Z a = some (.tup xs) → Z' a = some (.tup xs)) {m : M} {v : V} {A : List Addr} (r : RM K Z H m v A) (p : pureM m = true) : RM K Z' H m v A := by
  cases m with
  | p d => exact ⟨r.1.pure' s p, r.2⟩
  | lst ds =>
    obtain ⟨a, ws, e, eA, h, q⟩ := r
    exact ⟨a, ws, e, eA, h, q.pure' s p⟩
  | dct es => cases p
  | tup cs =>
    obtain ⟨t, ws, e, h, q⟩ := r
    exact ⟨t, ws, e, h, q.pureR s p⟩
  | scr ns => cases p
  | fd f => exact r
open Classical in
noncomputable def Zm (Z : Hp) (W : Addr → Prop) : Hp := fun a => if W a then none else Z a
theorem Zm.no {Z : Hp} {W : Addr → Prop} {a : Addr} (h : ¬ W a) : Zm Z W a = Z a := by unfold Zm; rw [if_neg h]
theorem Zm.ye {Z : Hp} {W : Addr → Prop} {a : Addr} (h : W a) : Zm Z W a = none := by unfold Zm; rw [if_pos h]
theorem Zm.some {Z : Hp} {W : Addr → Prop} {a : Addr} {o : HO} (h : Zm Z W a = Option.some o) : ¬ W a ∧ Z a = Option.some o := by
  by_cases q : W a
  · rw [Zm.ye q] at h; cases h
  · rw [Zm.no q] at h; exact ⟨q, h⟩
/-- what the arguments' position tells of the slot -/
def ioAt (as : List Ag) (j k : Nat) : Prop := as[k]? = Option.some (Ag.io j)
theorem call_fin {K : PySem.W.Frag} {f : Sem1} {as : List Ag} {xs : List (Option D)} {vs : List V} {ms : List M} {r : M} {out : En} {Z H : Hp} {ρ : En} {σ : St} {F : Nat → List Addr} {n : Nat} {Q : VK} {E : XK} (hl : as.length = n) (rs : RS K Z H ρ σ F) (ok : AgOk Z H σ as xs vs) (ea : asm ρ as xs = some ms) (ef : f ms = some (r, out)) (hio : iosOk as = true)
    (hp : as.all (freeV ρ) = true ∨ (pureM r = true ∧ out.all (fun o => match o with
      | some m => pureM m
      | none => true) = true))
    (q : ∀ v Z' H' F' A, End K Z H F σ (putO as out ρ) (.m r) v Z' H' F' A → Q v H') : spF K n f vs H Q E := by
  obtain ⟨lv, av⟩ := ok.at_
  obtain ⟨lm, am⟩ := asm_at ea
  -- the lent objects
  let W : Addr → Prop := fun a => ∃ (i k : Nat), (as[k]? = some (Ag.var i) ∨ ∃ j d, as[k]? = some (Ag.pt i j d)) ∧ a ∈ F i
  have Wow : ∀ a, W a → Ow F a := fun a ⟨i, _, _, h⟩ => ⟨i, h⟩
  have Wio : ∀ (a : Addr) (j k : Nat), W a → as[k]? = some (Ag.io j) → a ∉ F j := fun a j k ⟨i, l, hl, ha⟩ hk hj => by
    have := rs.dis i j a ha hj
    subst this
    rcases hl with hl | ⟨j', d', hl⟩
    · exact iosOk_var hio hk hl
    · exact iosOk_pt hio hk hl
  let Fc : Nat → List Addr := fun k => match as[k]? with
    | some (Ag.io i) => F i
    | _ => []
  have Fc_io : ∀ {k i : Nat}, as[k]? = some (Ag.io i) → Fc k = F i := fun {k i} h => by show (match as[k]? with | some (Ag.io i) => F i | _ => []) = F i; rw [h]
  have Fc_mem : ∀ {k : Nat} {a : Addr}, a ∈ Fc k → ∃ i, as[k]? = some (Ag.io i) ∧ a ∈ F i := fun {k a} h => by
    have h' : a ∈ (match as[k]? with | some (Ag.io i) => F i | _ => []) := h
    split at h'
    · rename_i i e
      exact ⟨i, e, h'⟩
    · cases h'
  have Fc_ow : ∀ a, Ow Fc a → Ow F a := fun a ⟨k, h⟩ => by
    obtain ⟨i, _, h⟩ := Fc_mem h
    exact ⟨i, h⟩
  have rsc : RS K (Zx Z H W) H (ms.map some) (vs.map some) Fc := by
    refine ⟨by simp [lm, lv], Zx.zh rs.zh, fun k m hm => ?_, fun k hm => ?_, fun k l a h1 h2 => ?_, fun k => ?_, fun k a h => ?_⟩
    · have hm' : ms[k]? = some m := by simpa using hm
      obtain ⟨a, x, h1, h2, h3⟩ := am hm'
      obtain ⟨v, h4, h5⟩ := av h1 h2
      refine ⟨v, by simp [h4], ?_⟩
      cases a with
      | ex d0 =>
        cases x with
        | none => cases h3
        | some d =>
          cases h3
          have e : Fc k = [] := by show (match as[k]? with | some (Ag.io i) => F i | _ => []) = []; rw [h1]
          rw [e]
          exact ⟨h5.mono Zx.zz, rfl⟩
      | io i =>
        cases x with
        | some d => cases h3
        | none =>
          simp only [asm1] at h3
          split at h3
          · rename_i m' e'
            cases h3
            obtain ⟨u, eu, ru⟩ := rs.rep i _ e'
            have h5' : σ[i]? = some (some v) := h5
            rw [eu] at h5'
            cases h5'
            rw [Fc_io h1]
            exact ru.keep Zx.zz (fun _ _ _ e => e) fun _ _ e => e
          · cases h3
      | var i =>
        cases x with
        | some d => cases h3
        | none =>
          have e : Fc k = [] := by show (match as[k]? with | some (Ag.io i) => F i | _ => []) = []; rw [h1]
          rw [e]
          simp only [asm1] at h3
          split at h3
          · cases h3
          · rename_i m' nf e'
            cases h3
            obtain ⟨u, eu, ru⟩ := rs.rep i _ e'
            have h5' : σ[i]? = some (some v) := h5
            rw [eu] at h5'
            cases h5'
            cases m' with
            | scr ns =>
              obtain ⟨a, ea, eA, hs⟩ := ru
              exact ⟨a, ea, rfl, Zx.zz.seq hs⟩
            | fd g => exact (nf _ rfl).elim
            | p d => exact ⟨ru.1.mono Zx.zz, rfl⟩
            | lst ds => exact ⟨ru.frozen rfl rs.zh fun b hb => .inl ⟨i, k, .inl h1, hb⟩, rfl⟩
            | dct ds => exact ⟨ru.frozen rfl rs.zh fun b hb => .inl ⟨i, k, .inl h1, hb⟩, rfl⟩
            | tup ds => exact ⟨ru.frozen rfl rs.zh fun b hb => .inl ⟨i, k, .inl h1, hb⟩, rfl⟩
          · cases h3
      | pt i l d0 =>
        have e : Fc k = [] := by show (match as[k]? with | some (Ag.io i) => F i | _ => []) = []; rw [h1]
        rw [e]
        cases x with
        | some d =>
          cases h3
          exact ⟨h5.mono Zx.zz, rfl⟩
        | none =>
          obtain ⟨m', em, rfl⟩ := Option.map_eq_some_iff.mp (show (X.res (.rc i l) ρ).map _ = _ from h3)
          obtain ⟨k1, B, rb, hB⟩ := RX.rm (x := .rc i l) (A := []) ⟨rfl, h5⟩ rs em
          exact ⟨rb.frozen k1 rs.zh fun b hb => .inl ⟨i, k, .inr ⟨l, d0, h1⟩, by
            rcases hB b hb with z | ⟨j, ej, z⟩
            · cases z
            · cases ej; exact z⟩, rfl⟩
    · show (match as[k]? with | some (Ag.io i) => F i | _ => []) = []
      split
      · rename_i i e
        by_cases hk : k < ms.length
        · exact absurd (by rw [List.getElem?_map, List.getElem?_eq_getElem hk]; rfl) (hm ms[k])
        · have := (List.getElem?_eq_some_iff.mp e).1
          omega
      · rfl
    · obtain ⟨i, e1, h1⟩ := Fc_mem h1
      obtain ⟨j, e2, h2⟩ := Fc_mem h2
      have := rs.dis i j a h1 h2
      subst this
      exact iosOk_io hio e1 e2
    · show (match as[k]? with | some (Ag.io i) => F i | _ => []).Nodup
      split
      · exact rs.nod _
      · exact List.nodup_nil
    · obtain ⟨i, e1, h1⟩ := Fc_mem h
      cases ez : Zx Z H W a with
      | none => rfl
      | some o =>
        rcases Zx.fro (by rw [ez]; simp : Zx Z H W a ≠ none) with z | z | ⟨ys, z⟩
        · exact absurd (rs.zfr i a h1) z
        · exact absurd h1 (Wio a i k z e1)
        · exact absurd ⟨i, h1⟩ (rs.notup z)
  refine ⟨lv.trans hl, Zx Z H W, ms, Fc, r, out, rsc, ef, fun v Z' H' F' A E' => ?_⟩
  have lo : out.length = as.length := by have := E'.mid.rs.len; simpa [lv] using this
  -- behind the call the lent objects are the slots' own again
  have zz2 : Same Z (Zm Z' W) := fun a o e => by
    rw [Zm.no fun w => by rw [rs.zfr' (Wow a w)] at e; cases e]
    exact E'.mid.zz a o (Zx.zz a o e)
  have ntW : ∀ a ys, Z' a = some (.tup ys) → ¬ W a := fun a ys e w => by
    obtain ⟨o, eo, ow⟩ := rs.own (Wow a w)
    have := E'.mid.zz a o (Zx.at rs.zh eo (.inl w))
    rw [e] at this
    cases this
    exact ow
  have tz : ∀ a ys, Z' a = some (.tup ys) → Zm Z' W a = some (.tup ys) := fun a ys e => by rw [Zm.no (ntW a ys e)]; exact e
  have noW : as.all (freeV ρ) = true → ∀ a, ¬ W a := fun hf a ⟨i, k, hk, ha⟩ => by
    rcases hk with hk | ⟨_, _, hk⟩
    · have := List.all_eq_true.mp hf _ (List.mem_of_getElem? hk)
      simp only [freeV] at this
      split at this
      · rename_i d e
        obtain ⟨u, _, ru⟩ := rs.rep i _ e
        rw [ru.2] at ha; cases ha
      · rename_i d e
        obtain ⟨u, _, b, _, eA, _⟩ := rs.rep i _ e
        rw [eA] at ha; cases ha
      · cases this
    · have := List.all_eq_true.mp hf _ (List.mem_of_getElem? hk)
      simp only [freeV] at this
      split at this
      · rename_i d e
        obtain ⟨u, _, ru⟩ := rs.rep i _ e
        rw [ru.2] at ha; cases ha
      · cases this
  have zm_eq : as.all (freeV ρ) = true → Zm Z' W = Z' := fun hf => funext fun a => Zm.no (noW hf a)
  have back : ∀ {m : M} {u : V} {B : List Addr}, RM K Z' H' m u B → (as.all (freeV ρ) = true ∨ pureM m = true) → RM K (Zm Z' W) H' m u B := fun rm h => by
    rcases h with h | h
    · rw [zm_eq h]; exact rm
    · exact rm.pureR tz h
  open Classical in
  let F2 : Nat → List Addr := fun j => if h : ∃ k : Nat, as[k]? = some (Ag.io j) then F' (Classical.choose h) else F j
  have F2_io : ∀ {j k : Nat}, as[k]? = some (Ag.io j) → F2 j = F' k := fun {j k} hk => by
    have h : ∃ k : Nat, as[k]? = some (Ag.io j) := ⟨k, hk⟩
    show (if h : ∃ k : Nat, as[k]? = some (Ag.io j) then F' (Classical.choose h) else F j) = F' k
    rw [dif_pos h, iosOk_io hio (Classical.choose_spec h) hk]
  have F2_no : ∀ {j : Nat}, (∀ k : Nat, as[k]? ≠ some (Ag.io j)) → F2 j = F j := fun {j} h => dif_neg fun ⟨k, q⟩ => h k q
  have ioDec : ∀ j, (∃ k : Nat, as[k]? = some (Ag.io j)) ∨ ∀ k : Nat, as[k]? ≠ some (Ag.io j) := fun j => by
    by_cases h : ∃ k : Nat, as[k]? = some (Ag.io j)
    · exact .inl h
    · exact .inr fun k q => h ⟨k, q⟩
  have F'new : ∀ {k a}, a ∈ F' k → (∃ (i l : Nat), as[l]? = some (Ag.io i) ∧ a ∈ F i) ∨ H a = none := fun {k a} h => by
    rcases E'.mid.new a ⟨k, h⟩ with ⟨l, z⟩ | z
    · obtain ⟨i, e, z⟩ := Fc_mem z
      exact .inl ⟨i, l, e, z⟩
    · exact .inr z
  have apart : ∀ {j k a}, a ∈ F' k → (∀ k : Nat, as[k]? ≠ some (Ag.io j)) → a ∉ F j := fun {j k a} h hj ha => by
    rcases F'new h with ⟨i, l, e, z⟩ | z
    · have := rs.dis i j a z ha
      subst this
      exact hj l e
    · obtain ⟨o, eo, _⟩ := rs.own ⟨j, ha⟩
      rw [z] at eo; cases eo
  have jlt : ∀ {j k : Nat}, as[k]? = some (Ag.io j) → j < ρ.length := fun {j k} hk => by
    have hkl := (List.getElem?_eq_some_iff.mp hk).1
    have hm : ms[k]? = some (ms[k]'(by omega)) := List.getElem?_eq_getElem _
    obtain ⟨a, x, h1, h2, h3⟩ := am hm
    rw [hk] at h1
    cases h1
    obtain ⟨v, h4, h5⟩ := av hk h2
    cases x with
    | some d => cases h3
    | none =>
      have h5' : σ[j]? = some (some v) := h5
      rw [rs.len]
      exact (List.getElem?_eq_some_iff.mp h5').1
  have zf2 : ∀ a, Ow F2 a → Zm Z' W a = none := fun a ⟨j, h⟩ => by
    rcases ioDec j with ⟨k, hk⟩ | hn
    · rw [F2_io hk] at h
      have := E'.mid.rs.zfr k a h
      by_cases w : W a
      · exact Zm.ye w
      · rw [Zm.no w]; exact this
    · rw [F2_no hn] at h
      by_cases w : W a
      · exact Zm.ye w
      · rw [Zm.no w]
        cases ez : Z' a with
        | none => rfl
        | some o =>
          obtain ⟨oo, eo, wo⟩ := rs.own ⟨j, h⟩
          rcases E'.mid.fro a (by rw [ez]; simp) with z | ⟨l, z⟩ | z | ⟨ys, z⟩
          · rcases Zx.fro z with z | z | ⟨ys, z⟩
            · exact absurd (rs.zfr j a h) z
            · exact absurd z w
            · exact absurd ⟨j, h⟩ (rs.notup z)
          · obtain ⟨i, e, z⟩ := Fc_mem z
            have := rs.dis i j a z h
            subst this
            exact absurd e (hn l)
          · rw [z] at eo; cases eo
          · exact absurd ⟨j, h⟩ (rs.notup z)
  have rs2 : RS K (Zm Z' W) H' (putO as out ρ) σ F2 := by
    refine ⟨by rw [putO_len]; exact rs.len, fun a o e => E'.mid.rs.zh a o (Zm.some e).2, fun j m hm => ?_, fun j hm => ?_, fun i j a h1 h2 => ?_, fun j => ?_, fun j a h => zf2 a ⟨j, h⟩⟩
    · rcases ioDec j with ⟨k, hk⟩ | hn
      · have hkl := (List.getElem?_eq_some_iff.mp hk).1
        have ho : out[k]? = some (out[k]'(by omega)) := List.getElem?_eq_getElem _
        rw [putO_io hio hk ho (jlt hk)] at hm
        have hm' : out[k]'(by omega) = some m := Option.some.inj hm
        rw [hm'] at ho
        obtain ⟨u, eu, ru⟩ := E'.mid.rs.rep k m ho
        have eu' : vs[k]? = some u := by
          rw [List.getElem?_map] at eu
          obtain ⟨z, ez, e⟩ := Option.map_eq_some_iff.mp eu
          cases e
          exact ez
        have hmm : ms[k]? = some (ms[k]'(by omega)) := List.getElem?_eq_getElem _
        obtain ⟨a, x, h1, h2, h3⟩ := am hmm
        rw [hk] at h1
        cases h1
        obtain ⟨v', h4, h5⟩ := av hk h2
        rw [eu'] at h4
        cases h4
        cases x with
        | some d => cases h3
        | none =>
          refine ⟨u, h5, ?_⟩
          rw [F2_io hk]
          refine back ru (hp.imp id fun h => ?_)
          have := List.all_eq_true.mp h.2 _ (List.mem_of_getElem? ho)
          simpa using this
      · rw [putO_ne hn] at hm
        obtain ⟨u, eu, ru⟩ := rs.rep j m hm
        refine ⟨u, eu, ?_⟩
        rw [F2_no hn]
        refine ru.keep zz2 (fun a ha o e => E'.mid.frm a o e fun z => ?_) fun a ys e => E'.mid.frm a _ e fun z => rs.notup e (Fc_ow a z)
        obtain ⟨l, z⟩ := z
        obtain ⟨i, e, z⟩ := Fc_mem z
        have := rs.dis i j a z ha
        subst this
        exact hn l e
    · rcases ioDec j with ⟨k, hk⟩ | hn
      · rw [F2_io hk]
        refine E'.mid.rs.emp k fun m z => hm m ?_
        rw [putO_io hio hk z (jlt hk)]
      · rw [F2_no hn]
        exact rs.emp j fun m z => hm m (by rw [putO_ne hn]; exact z)
    · rcases ioDec i with ⟨k, hk⟩ | hn
      · rw [F2_io hk] at h1
        rcases ioDec j with ⟨l, hl⟩ | hn'
        · rw [F2_io hl] at h2
          have := E'.mid.rs.dis k l a h1 h2
          subst this
          rw [hk] at hl
          cases hl
          rfl
        · rw [F2_no hn'] at h2
          exact absurd h2 (apart h1 hn')
      · rw [F2_no hn] at h1
        rcases ioDec j with ⟨l, hl⟩ | hn'
        · rw [F2_io hl] at h2
          exact absurd h1 (apart h2 hn)
        · rw [F2_no hn'] at h2
          exact rs.dis i j a h1 h2
    · rcases ioDec j with ⟨k, hk⟩ | hn
      · rw [F2_io hk]; exact E'.mid.rs.nod k
      · rw [F2_no hn]; exact rs.nod j
  have new2 : ∀ a, (Ow Fc a ∨ H a = none) → Ow F a ∨ H a = none := fun a h => h.imp (Fc_ow a) id
  refine q v (Zm Z' W) H' F2 A ⟨⟨rs2, zz2, fun a ⟨j, h⟩ => ?_, fun a h => ?_, fun a o e h => E'.mid.frm a o e fun z => h (Fc_ow a z)⟩, ⟨back E'.rx.1 (hp.imp id fun h => h.1), E'.rx.2.1, fun a ha => ⟨?_, fun ⟨j, h⟩ => ?_⟩⟩, fun a ha => new2 a (E'.nw a ha)⟩
  · rcases ioDec j with ⟨k, hk⟩ | hn
    · rw [F2_io hk] at h
      exact new2 a (E'.mid.new a ⟨k, h⟩)
    · rw [F2_no hn] at h
      exact .inl ⟨j, h⟩
  · cases ez : Zm Z' W a with
    | none => exact absurd ez h
    | some o =>
      obtain ⟨w, ez⟩ := Zm.some ez
      rcases E'.mid.fro a (by rw [ez]; simp) with z | z | z | z
      · rcases Zx.fro z with z | z | z
        · exact .inl z
        · exact absurd z w
        · exact .inr (.inr (.inr z))
      · exact .inr (.inl (Fc_ow a z))
      · exact .inr (.inr (.inl z))
      · exact .inr (.inr (.inr z))
  · by_cases w : W a
    · exact Zm.ye w
    · rw [Zm.no w]; exact (E'.rx.2.2 a ha).1
  · rcases ioDec j with ⟨k, hk⟩ | hn
    · rw [F2_io hk] at h
      exact (E'.rx.2.2 a ha).2 ⟨k, h⟩
    · rw [F2_no hn] at h
      rcases E'.nw a ha with ⟨l, z⟩ | z
      · obtain ⟨i, e, z⟩ := Fc_mem z
        have := rs.dis i j a z h
        subst this
        exact hn l e
      · obtain ⟨o, eo, _⟩ := rs.own ⟨j, h⟩
        rw [z] at eo; cases eo
theorem agv_len : ∀ {as : List Ag} {ρ ρ' : En} {xs : List (Option D)}, agv as ρ = some (xs, ρ') → xs.length = as.length
  | [], ρ, ρ', xs, h => by cases h; rfl
  | .ex d :: as, ρ, ρ', xs, h => by
    obtain ⟨p, e1, h⟩ := Option.bind_eq_some_iff.mp (show (d ρ).bind _ = _ from h)
    obtain ⟨q, e2, h⟩ := Option.bind_eq_some_iff.mp h
    cases h
    simp [agv_len e2]
  | .io i :: as, ρ, ρ', xs, h => by
    unfold agv at h
    split at h
    · obtain ⟨q, e2, h⟩ := Option.bind_eq_some_iff.mp h
      cases h
      simp [agv_len e2]
    · cases h
  | .var i :: as, ρ, ρ', xs, h => by
    unfold agv at h
    split at h
    · obtain ⟨q, e2, h⟩ := Option.bind_eq_some_iff.mp h
      cases h
      simp [agv_len e2]
    · cases h
  | .pt i k d :: as, ρ, ρ', xs, h => by
    obtain ⟨p, e1, h⟩ := Option.bind_eq_some_iff.mp (show (d ρ).bind _ = _ from h)
    split at h
    · split at h
      · obtain ⟨q, e2, h⟩ := Option.bind_eq_some_iff.mp h
        cases h
        simp [agv_len e2]
      · cases h
    · obtain ⟨q, e2, h⟩ := Option.bind_eq_some_iff.mp h
      cases h
      simp [agv_len e2]
    · cases h
/-- f(e, ..) -/
theorem ve_call {X : Cx} {e : Expr} {es : List Expr} {k : Nat} {fa : Addr} {fd : FuncData} {ps : List Str} {f : Sem1} {n : Nat} {x : Str} {p pos : Pos} {as : List Ag} (G : FnOk X.prog X.w X.K X.mg X.base CX0 k fa fd ps (spF X.K n f)) (hr : Room k X.A) (hg : Gl X x) (hm : X.mg x = some (.ref fa)) (hk : PySem.W.keepIn X.K (.ref fa) = true) (hb : Binds X.K fd ps [])
    (hn : as.length = n) (ha : VA X (e :: es) as) (hdb : (x == ("__debug__" : Str)) = false) (he : starEach (e :: es) X.env = (false, eval e X.env) :: starEach es X.env) (hpl : (backTo pos (starEach es X.env)).any (·.1) = false) : VE X (.Call (.Name x p) (e :: es) [] pos) (dCall f as) :=
  pe_mono (pe_call G hr hg hm hk hb .nil pass0 ha hdb he hpl) fun σ H Q ⟨Z, ρ, F, y, ρ2, rs, ed, q⟩ => by
    obtain ⟨⟨xs, ρ1⟩, e1, ed⟩ := Option.bind_eq_some_iff.mp ed
    obtain ⟨ms, e2, ed⟩ := Option.bind_eq_some_iff.mp ed
    obtain ⟨⟨r, out⟩, e3, ed⟩ := Option.bind_eq_some_iff.mp ed
    split at ed
    · rename_i hc
      cases ed
      refine ⟨Z, ρ, F, xs, ρ1, rs, e1, fun vs Z1 H1 F1 M1 ok => ?_⟩
      show spF X.K n f (vs ++ []) H1 Q E0
      rw [List.append_nil]
      exact call_fin hn M1.rs ok e2 e3 hc.1 hc.2 fun v Z' H' F' A E' => q v Z' H' F' A (M1.then E')
    · cases ed
end Iv

set_option Elab.async false
set_option linter.all false
set_option maxRecDepth 100000
/-! Iv, part 9: comprehensions of one clause; a tuple handed back with its own lists. -/
namespace Iv
open PySem PySem.Spec L2

def wipeE (own : List Nat) (ρ : En) : En := own.foldl (fun r i => r.set i none) ρ
/-- the block's own slots as they were -/
def backE (own : List Nat) (old ρ : En) : En := own.foldl (fun r i => r.set i ((old[i]?).join)) ρ
def lcL (g : Gv) (c : Et) (elt : Fv) (own : List Nat) : List D → En → Option (List D × En)
  | [], ρ => some ([], ρ)
  | d :: ds, ρ => (g (.p d) ρ).bind fun ρ1 => (c ρ1).bind fun b => if b.1 = true then (elt b.2).bind fun e => (lcL g c elt own ds (wipeE own e.2)).bind fun r => some (e.1 :: r.1, r.2)
    else lcL g c elt own ds (wipeE own b.2)
def dLc (it : Itv') (g : Gv) (c : Et) (elt : Fv) (own : List Nat) : Ev := fun ρ => (it ρ).bind fun p => (lcL g c elt own p.1 (wipeE own p.2)).bind fun r => if r.1.length ≤ sizeLine then some (.m (.lst r.1), backE own p.2 r.2) else none
def dYes : Et := fun ρ => some (true, ρ)
/-- the slots that a block leaves alone -/
def notOwn (n : Nat) (own : List Nat) : List Nat := (List.range n).filter fun i => !own.contains i
theorem mem_notOwn {n i : Nat} {own : List Nat} : i ∈ notOwn n own ↔ i < n ∧ i ∉ own := by
  simp [notOwn]
section
variable {K : PySem.W.Frag} {Z H Z' H' : Hp} {ρ ρ' : En} {σ σ' : St} {F F' : Nat → List Addr}
theorem wipe_get {own : List Nat} {i : Nat} (h : i ∉ own) : ∀ σ : St, (wipe σ own)[i]? = σ[i]? := by
  induction own with
  | nil => intro σ; rfl
  | cons v vs ih =>
    intro σ
    simp only [List.mem_cons, not_or] at h
    unfold wipe
    rw [List.getElem?_set_ne (Ne.symm h.1)]
    exact ih h.2 σ
theorem wipe_own {own : List Nat} {i : Nat} (h : i ∈ own) : ∀ σ : St, i < σ.length → (wipe σ own)[i]? = some none := by
  induction own with
  | nil => cases h
  | cons v vs ih =>
    intro σ hl
    unfold wipe
    by_cases e : v = i
    · subst e
      rw [List.getElem?_set_self (by rw [wipe_length]; exact hl)]
    · rw [List.getElem?_set_ne e]
      exact ih ((List.mem_cons.mp h).resolve_left fun z => e z.symm) σ hl
theorem wipe_eq {own : List Nat} {σ σ' : St} (hl : σ'.length = σ.length) (h : ∀ i ∈ notOwn σ.length own, σ'[i]? = (wipe σ own)[i]?) : wipe σ' own = wipe σ own := by
  apply List.ext_getElem?
  intro i
  by_cases ho : i ∈ own
  · by_cases hi : i < σ.length
    · rw [wipe_own ho σ' (by omega), wipe_own ho σ hi]
    · rw [List.getElem?_eq_none (by rw [wipe_length]; omega), List.getElem?_eq_none (by rw [wipe_length]; omega)]
  · rw [wipe_get ho]
    by_cases hi : i < σ.length
    · exact h i (mem_notOwn.mpr ⟨hi, ho⟩)
    · rw [List.getElem?_eq_none (by omega), List.getElem?_eq_none (by rw [wipe_length]; omega)]
theorem wipeE_len (own : List Nat) : ∀ ρ : En, (wipeE own ρ).length = ρ.length := by
  induction own with
  | nil => intro ρ; rfl
  | cons v vs ih => intro ρ; show (wipeE vs (ρ.set v none)).length = _; rw [ih]; simp
theorem wipeE_get {own : List Nat} {i : Nat} (h : i ∉ own) : ∀ ρ : En, (wipeE own ρ)[i]? = ρ[i]? := by
  induction own with
  | nil => intro ρ; rfl
  | cons v vs ih =>
    intro ρ
    simp only [List.mem_cons, not_or] at h
    show (wipeE vs (ρ.set v none))[i]? = _
    rw [ih h.2, List.getElem?_set_ne (Ne.symm h.1)]
theorem wipeE_none {own : List Nat} {i : Nat} : ∀ ρ : En, (∀ m, ρ[i]? ≠ some (some m)) → ∀ m, (wipeE own ρ)[i]? ≠ some (some m) := by
  induction own with
  | nil => intro ρ h; exact h
  | cons v vs ih =>
    intro ρ h
    refine ih (ρ.set v none) fun m => ?_
    by_cases e : v = i
    · subst e
      by_cases hv : v < ρ.length
      · rw [List.getElem?_set_self hv]; simp
      · rw [List.getElem?_eq_none (by simpa using hv)]; simp
    · rw [List.getElem?_set_ne e]; exact h m
theorem wipeE_own {own : List Nat} {i : Nat} (h : i ∈ own) : ∀ (ρ : En) (m : M), (wipeE own ρ)[i]? ≠ some (some m) := by
  induction own with
  | nil => cases h
  | cons v vs ih =>
    intro ρ m
    by_cases e : v = i
    · subst e
      show (wipeE vs (ρ.set v none))[v]? ≠ _
      refine wipeE_none _ (fun m => ?_) m
      by_cases hv : v < ρ.length
      · rw [List.getElem?_set_self hv]; simp
      · rw [List.getElem?_eq_none (by simpa using hv)]; simp
    · exact ih ((List.mem_cons.mp h).resolve_left fun z => e z.symm) (ρ.set v none) m
theorem backE_len {own : List Nat} {old : En} : ∀ ρ : En, (backE own old ρ).length = ρ.length := by
  induction own with
  | nil => intro ρ; rfl
  | cons v vs ih => intro ρ; show (backE vs old (ρ.set v _)).length = _; rw [ih]; simp
theorem backE_get {own : List Nat} {old : En} {i : Nat} (h : i ∉ own) : ∀ ρ : En, (backE own old ρ)[i]? = ρ[i]? := by
  induction own with
  | nil => intro ρ; rfl
  | cons v vs ih =>
    intro ρ
    simp only [List.mem_cons, not_or] at h
    show (backE vs old (ρ.set v _))[i]? = _
    rw [ih h.2, List.getElem?_set_ne (Ne.symm h.1)]
theorem backE_own {own : List Nat} {old : En} {i : Nat} (h : i ∈ own) : ∀ ρ : En, i < ρ.length → (backE own old ρ)[i]? = some (old[i]?).join := by
  induction own with
  | nil => cases h
  | cons v vs ih =>
    intro ρ hl
    by_cases hi : i ∈ vs
    · exact ih hi (ρ.set v _) (by simpa using hl)
    · have e : v = i := ((List.mem_cons.mp h).resolve_right hi).symm
      subst e
      show (backE vs old (ρ.set v _))[v]? = _
      rw [backE_get hi, List.getElem?_set_self hl]
/-- the block's slots: its own ones are forgotten -/
theorem RS.wiped (r : RS K Z H ρ σ F) (own : List Nat) : RS K Z H (wipeE own ρ) (wipe σ own) (fun i => if i ∈ own then [] else F i) := by
  refine ⟨by rw [wipeE_len, wipe_length]; exact r.len, r.zh, fun i m e => ?_, fun i e => ?_, fun i j a h1 h2 => ?_, fun i => ?_, fun i a h => ?_⟩
  · by_cases ho : i ∈ own
    · exact absurd e (wipeE_own ho ρ m)
    · rw [wipeE_get ho] at e
      obtain ⟨v, e1, k⟩ := r.rep i m e
      refine ⟨v, by rw [wipe_get ho]; exact e1, ?_⟩
      simp only [if_neg ho]
      exact k
  · by_cases ho : i ∈ own
    · simp [ho]
    · simp only [if_neg ho]
      exact r.emp i fun m z => e m (by rw [wipeE_get ho]; exact z)
  · by_cases ho : i ∈ own
    · simp [ho] at h1
    · by_cases hj : j ∈ own
      · simp [hj] at h2
      · simp only [if_neg ho] at h1
        simp only [if_neg hj] at h2
        exact r.dis i j a h1 h2
  · by_cases ho : i ∈ own
    · simp [ho]
    · simp only [if_neg ho]; exact r.nod i
  · by_cases ho : i ∈ own
    · simp [ho] at h
    · simp only [if_neg ho] at h; exact r.zfr i a h
/-- a new list at p, and nothing else -/
theorem RS.newL (r : RS K Z H ρ σ F) {p : Addr} {o : HO} (h : H p = none) : RS K Z (upd H p o) ρ σ F := by
  have e := r.grow (Z' := Z) (H' := upd H p o) (Same.refl _) (same_upd h) (Same.upd_r r.zh h) fun a q => .inl q
  exact e.rs
/-- the list under work at p is none of the slots' -/
structure Apt (Z H : Hp) (F : Nat → List Addr) (p : Addr) (vs : List V) : Prop where
  at_ : H p = some (.lst vs)
  zp : Z p = none
  no : ¬ Ow F p
theorem Apt.step {vs : List V} {p : Addr} (a : Apt Z H F p vs) (m : Mid K Z H (Ow F) σ' ρ' Z' H' F') : Apt Z' H' F' p vs := by
  refine ⟨m.frm p _ a.at_ a.no, ?_, fun h => ?_⟩
  · cases e : Z' p with
    | none => rfl
    | some o =>
      rcases m.fro p (by rw [e]; simp) with z | z | z | ⟨xs, z⟩
      · exact absurd a.zp z
      · exact absurd z a.no
      · rw [a.at_] at z; cases z
      · rw [a.at_] at z; cases z
  · rcases m.new p h with z | z
    · exact a.no z
    · rw [a.at_] at z; cases z
theorem Apt.grow {vs : List V} {p : Addr} {o : HO} (a : Apt Z H F p vs) (r : RS K Z H ρ σ F) : RS K Z (upd H p o) ρ σ F := by
  have nt : ∀ {b xs}, H b = some (.tup xs) → b ≠ p := fun {b xs} e z => by rw [z, a.at_] at e; cases e
  refine ⟨r.len, fun b x e => ?_, fun i m e => ?_, r.emp, r.dis, r.nod, r.zfr⟩
  · rw [upd_ne (fun z : b = p => by rw [z, a.zp] at e; cases e)]
    exact r.zh b x e
  · obtain ⟨v, e1, k⟩ := r.rep i m e
    exact ⟨v, e1, k.keep (Same.refl _) (fun b hb x e => by rw [upd_ne (fun z : b = p => a.no ⟨i, by rw [← z]; exact hb⟩)]; exact e) fun b xs e => by rw [upd_ne (nt e)]; exact e⟩
end
section
variable {X : Cx} {elt tg iter : Expr} {ifs : List Expr} {scope : Scope} {own : List (Str × Nat)} {pos : Pos} {it : Itv'} {g : Gv} {c : Et} {ee : Fv}
/-- the tests of a comprehension -/
def VTs (X : Cx) (ifs : List Expr) (c : Et) : Prop := PTs X ifs (rdT X.K c)
theorem pts_mono {t t' : TT} (h : PTs X ifs t) (k : ∀ σ H Q, t' σ H Q → t σ H Q) : PTs X ifs t' := ⟨fun pins s σ H Q I q => h.run pins s σ H Q I (k σ H Q q)⟩
theorem vts_nil : VTs X [] dYes := pts_mono pts_nil fun σ H Q ⟨Z, ρ, F, b, ρ2, rs, ed, q⟩ => by
  cases ed
  exact q Z H F rs.refl
theorem vts_one {e : Expr} (h : VT X e c) : VTs X [e] c := pts_one h
theorem lc_rd {K : PySem.W.Frag} {own : List Nat} {N : Nat} : ∀ σ H Q, σ.length = N → rdE K (dLc it g c ee own) σ H Q → tLc (rdI K it) (rdG K (notOwn N own) g) (rdT K c) (rdF K ee) own σ H Q := by
  rintro σ H Q hN ⟨Z, ρ, F, x, ρ', rs, ed, q⟩
  obtain ⟨⟨ds, ρ1⟩, e1, ed⟩ := Option.bind_eq_some_iff.mp ed
  obtain ⟨⟨acc, ρ2⟩, e2, ed⟩ := Option.bind_eq_some_iff.mp ed
  split at ed
  · rename_i hsz
    cases ed
    dsimp only at hsz e2
    refine ⟨Z, ρ, F, ds, ρ1, rs, e1, fun J Z1 H1 F1 M1 w D hD => ?_⟩
    have hZD : Z1 D = none := Same.none M1.rs.zh hD
    have own1 : ∀ a, Ow F1 a → H1 a ≠ none := fun a h => by
      obtain ⟨o, e, _⟩ := M1.rs.own h
      rw [e]; simp
    let Fb : Nat → List Addr := fun i => if i ∈ own then [] else F1 i
    have Fb_mem : ∀ {i a}, a ∈ Fb i → i ∉ own ∧ a ∈ F1 i := fun {i a} h => by
      by_cases ho : i ∈ own
      · simp [Fb, ho] at h
      · simp only [Fb, if_neg ho] at h; exact ⟨ho, h⟩
    have rb : RS K Z1 (upd H1 D (.lst [])) (wipeE own ρ1) (wipe σ own) Fb := (M1.rs.wiped own).newL hD
    have aD : Apt Z1 (upd H1 D (.lst [])) Fb D [] := ⟨upd_same, hZD, fun ⟨i, h⟩ => own1 D ⟨i, (Fb_mem h).2⟩ hD⟩
    -- from the block's beginning on, all but D
    let St_ : Nat → Hp → Prop := fun i Hi => i ≤ ds.length ∧ ∃ Zi ρi Fi av ad ad2, RS K Zi Hi ρi (wipe σ own) Fi ∧ Same Z1 Zi ∧ (∀ a, Ow Fi a → Ow Fb a ∨ upd H1 D (.lst []) a = none) ∧ (∀ a, Zi a ≠ none → Z1 a ≠ none ∨ Ow Fb a ∨ upd H1 D (.lst []) a = none ∨ ∃ xs, upd H1 D (.lst []) a = some (.tup xs)) ∧
      (∀ a o, a ≠ D → upd H1 D (.lst []) a = some o → ¬ Ow Fb a → Hi a = some o) ∧ Apt Zi Hi Fi D av ∧ RpA Zi av ad ∧ lcL g c ee own (ds.drop i) ρi = some (ad2, ρ2) ∧ ad ++ ad2 = acc
    refine ⟨fun i m Hi => m = ds.length - i ∧ St_ i Hi, ⟨ds.length, by simp, Nat.zero_le _, Z1, wipeE own ρ1, Fb, [], [], acc, rb, Same.refl _, fun a h => .inl h, fun a h => .inl h, fun _ _ _ h _ => h, aD, .nil, by simpa using e2, rfl⟩, ?_⟩
    rintro i m Hi ⟨rfl, hi, Zi, ρi, Fi, av, ad, ad2, ri, zi, newi, froi, frmi, ai, rai, ei, eac⟩
    by_cases hlt : i < ds.length
    · have hd : ds[i]? = some ds[i] := List.getElem?_eq_getElem hlt
      rw [List.drop_eq_getElem_cons hlt] at ei
      obtain ⟨ρ3, e3, ei⟩ := Option.bind_eq_some_iff.mp (show (g (.p ds[i]) ρi).bind _ = _ from ei)
      obtain ⟨⟨b, ρ4⟩, e4, ei⟩ := Option.bind_eq_some_iff.mp ei
      refine .inr ⟨((w i Hi (zi.trans ri.zh)).1 _ hd).1, fun H' => St_ (i + 1) H', fun H' n => ⟨ds.length - (i + 1), by omega, rfl, n⟩, fun y H3 yy => ?_⟩
      obtain ⟨Z3, res⟩ := w.next (K := K) zi ri.zh hd yy
      have E3 := res.fin ri
      refine ⟨Z3, ρi, Fi, .p ds[i], [], ρ3, E3.mid.rs, E3.rx, e3, fun σ4 Z4 H4 F4 M4 K4 => ?_⟩
      have M4' : Mid K Zi Hi (Ow Fi) σ4 ρ3 Z4 H4 F4 := E3.mid.trans' M4 (fun _ h => h) fun x z => z.elim (E3.mid.new x) (fun z => by cases z)
      have hl4 : σ4.length = σ.length := by rw [K4.1, wipe_length]
      have hw : wipe σ4 own = wipe (wipe σ own) own := wipe_eq (by rw [wipe_length]; exact hl4) fun j hj => by
        rw [wipe_length, hN] at hj
        exact (K4.2 j hj).trans (wipe_get (mem_notOwn.mp hj).2 _).symm
      have hw2 : wipe (wipe σ own) own = wipe σ own := wipe_eq (wipe_length _ _) fun j hj => rfl
      refine ⟨hw.trans hw2, Z4, ρ3, F4, b, ρ4, M4'.rs, e4, fun Z5 H5 F5 M5 => ?_⟩
      have M5' := M4'.trans M5
      have hwa : wipe σ4 own = wipe σ own := hw.trans hw2
      -- a turn's end
      have fin : ∀ {Z6 H6 : Hp} {F6 : Nat → List Addr} {ρ6 : En} {av6 : List V} {ad6 ad7 : List Iv.D}, Mid K Zi Hi (Ow Fi) σ4 ρ6 Z6 H6 F6 → (H7 : Hp) → (H7 = H6 ∨ ∃ o, H7 = upd H6 D o) → Apt Z6 H7 F6 D av6 → RS K Z6 H7 ρ6 σ4 F6 → RpA Z6 av6 ad6 → lcL g c ee own (ds.drop (i + 1)) (wipeE own ρ6) = some (ad7, ρ2) → ad6 ++ ad7 = acc → St_ (i + 1) H7 := by
        intro Z6 H6 F6 ρ6 av6 ad6 ad7 M6 H7 h7 a7 r7 ra7 e7 eq7
        have r8 := r7.wiped own
        rw [hwa] at r8
        have mem8 : ∀ {j a}, a ∈ (if j ∈ own then [] else F6 j) → a ∈ F6 j := fun {j a} h => by
          split at h
          · cases h
          · exact h
        have back : ∀ a, Hi a = none → upd H1 D (.lst []) a = none ∨ Ow Fb a := fun a h => by
          by_cases q : Ow Fb a
          · exact .inr q
          · cases e : upd H1 D (.lst []) a with
            | none => exact .inl rfl
            | some o =>
              by_cases hD' : a = D
              · subst hD'; rw [ai.at_] at h; cases h
              · rw [frmi a o hD' e q] at h; cases h
        refine ⟨hlt, Z6, wipeE own ρ6, _, av6, ad6, ad7, r8, zi.trans M6.zz, fun a ⟨j, h⟩ => ?_, fun a h => ?_, fun a o hD' h q => ?_, ⟨a7.at_, a7.zp, fun ⟨j, h⟩ => a7.no ⟨j, mem8 h⟩⟩, ra7, e7, eq7⟩
        · rcases M6.new a ⟨j, mem8 h⟩ with z | z
          · exact newi a z
          · rcases back a z with z | z
            · exact .inr z
            · exact .inl z
        · rcases M6.fro a h with z | z | z | ⟨ys, z⟩
          · exact froi a z
          · rcases newi a z with z | z
            · exact .inr (.inl z)
            · exact .inr (.inr (.inl z))
          · rcases back a z with z | z
            · exact .inr (.inr (.inl z))
            · exact .inr (.inl z)
          · by_cases q : Ow Fb a
            · exact .inr (.inl q)
            · cases e : upd H1 D (.lst []) a with
              | none => exact .inr (.inr (.inl rfl))
              | some o =>
                by_cases hD' : a = D
                · subst hD'; rw [ai.at_] at z; cases z
                · have := frmi a o hD' e q
                  rw [z] at this
                  cases this
                  exact .inr (.inr (.inr ⟨ys, rfl⟩))
        · have h6 : H6 a = some o := M6.frm a o (frmi a o hD' h q) fun z => by
            rcases newi a z with z | z
            · exact q z
            · rw [h] at z; cases z
          rcases h7 with rfl | ⟨o', rfl⟩
          · exact h6
          · rw [upd_ne hD']; exact h6
      have a5 := ai.step M5'
      cases b with
      | false =>
        dsimp only at ei ⊢
        rw [if_neg Bool.false_ne_true] at ei ⊢
        exact fin M5' H5 (.inl rfl) a5 M5'.rs (rai.mono M5'.zz) ei eac
      | true =>
        dsimp only at ei ⊢
        rw [if_pos rfl] at ei ⊢
        obtain ⟨⟨e, ρ5⟩, e5, ei⟩ := Option.bind_eq_some_iff.mp ei
        obtain ⟨⟨ar, ρr⟩, e6, ei⟩ := Option.bind_eq_some_iff.mp ei
        cases ei
        refine ⟨Z5, ρ4, F5, e, ρ5, M5'.rs, e5, fun yv Z6 H6 F6 M6 r6 => ?_⟩
        have M6' := M5'.trans M6
        have a6 := a5.step M6
        refine ⟨av, a6.at_, ?_, fin M6' _ (.inr ⟨_, rfl⟩) ⟨upd_same, a6.zp, a6.no⟩ (a6.grow M6'.rs) ((rai.mono M6'.zz).append (.cons r6 .nil)) e6 (by rw [List.append_assoc]; exact eac)⟩
        have := congrArg List.length eac
        simp at this
        rw [rai.length]
        omega
    · have hi' : i = ds.length := by omega
      subst hi'
      rw [List.drop_length] at ei
      cases ei
      rw [List.append_nil] at eac
      subst eac
      refine .inl ⟨(w _ Hi (zi.trans ri.zh)).2 (Nat.le_refl _), ?_⟩
      -- the own slots come back
      let Fn : Nat → List Addr := fun j => if j ∈ own then F1 j else Fi j
      have nOw : ∀ {j a}, j ∈ own → a ∈ F1 j → ¬ Ow Fi a := fun {j a} hj ha z => by
        rcases newi a z with ⟨k, z⟩ | z
        · obtain ⟨hk, z⟩ := Fb_mem z
          have := M1.rs.dis j k a ha z
          subst this
          exact hk hj
        · rw [upd_ne (fun q : a = D => own1 a ⟨j, ha⟩ (by rw [q]; exact hD))] at z
          exact own1 a ⟨j, ha⟩ z
      have keep1 : ∀ {j a o}, j ∈ own → a ∈ F1 j → H1 a = some o → Hi a = some o := fun {j a o} hj ha e => by
        have hne : a ≠ D := fun q => by rw [q, hD] at e; cases e
        exact frmi a o hne (by rw [upd_ne hne]; exact e) fun ⟨k, z⟩ => by
          obtain ⟨hk, z⟩ := Fb_mem z
          have := M1.rs.dis j k a ha z
          subst this
          exact hk hj
      have rsn : RS K Zi Hi (backE own ρ1 ρ2) σ Fn := by
        have hlen : ρ2.length = σ.length := by have := ri.len; rw [wipe_length] at this; exact this
        refine ⟨by rw [backE_len]; exact hlen, ri.zh, fun j m e => ?_, fun j e => ?_, fun j k a h1 h2 => ?_, fun j => ?_, fun j a h => ?_⟩
        · by_cases hj : j ∈ own
          · have hjl : j < ρ2.length := by have := (List.getElem?_eq_some_iff.mp e).1; rw [backE_len] at this; exact this
            rw [backE_own hj ρ2 hjl] at e
            have e' : (ρ1[j]?).join = some m := Option.some.inj e
            have e'' : ρ1[j]? = some (some m) := by
              cases q : ρ1[j]? with
              | none => rw [q] at e'; cases e'
              | some o => rw [q] at e'; exact congrArg some e'
            obtain ⟨v, ev, k⟩ := M1.rs.rep j m e''
            refine ⟨v, ev, ?_⟩
            simp only [Fn, if_pos hj]
            refine k.keep zi (fun a ha o eo => keep1 hj ha eo) fun a xs ea => ?_
            have hne : a ≠ D := fun q => by rw [q, hD] at ea; cases ea
            exact frmi a _ hne (by rw [upd_ne hne]; exact ea) fun ⟨k, z⟩ => M1.rs.notup ea ⟨k, (Fb_mem z).2⟩
          · rw [backE_get hj] at e
            obtain ⟨v, ev, k⟩ := ri.rep j m e
            rw [wipe_get hj] at ev
            refine ⟨v, ev, ?_⟩
            simp only [Fn, if_neg hj]
            exact k
        · by_cases hj : j ∈ own
          · simp only [Fn, if_pos hj]
            refine M1.rs.emp j fun m z => e m ?_
            have hjl : j < ρ2.length := by
              have h1 := (List.getElem?_eq_some_iff.mp z).1
              have h2 := M1.rs.len
              omega
            rw [backE_own hj ρ2 hjl, z]
            rfl
          · simp only [Fn, if_neg hj]
            exact ri.emp j fun m z => e m (by rw [backE_get hj]; exact z)
        · by_cases hj : j ∈ own
          · by_cases hk : k ∈ own
            · simp only [Fn, if_pos hj] at h1
              simp only [Fn, if_pos hk] at h2
              exact M1.rs.dis j k a h1 h2
            · simp only [Fn, if_pos hj] at h1
              simp only [Fn, if_neg hk] at h2
              exact absurd ⟨k, h2⟩ (nOw hj h1)
          · by_cases hk : k ∈ own
            · simp only [Fn, if_neg hj] at h1
              simp only [Fn, if_pos hk] at h2
              exact absurd ⟨j, h1⟩ (nOw hk h2)
            · simp only [Fn, if_neg hj] at h1
              simp only [Fn, if_neg hk] at h2
              exact ri.dis j k a h1 h2
        · by_cases hj : j ∈ own
          · simp only [Fn, if_pos hj]; exact M1.rs.nod j
          · simp only [Fn, if_neg hj]; exact ri.nod j
        · by_cases hj : j ∈ own
          · simp only [Fn, if_pos hj] at h
            obtain ⟨o, eo, wo⟩ := M1.rs.own ⟨j, h⟩
            cases ez : Zi a with
            | none => rfl
            | some u =>
              have hne : a ≠ D := fun q => by rw [q, hD] at eo; cases eo
              rcases froi a (by rw [ez]; simp) with z | ⟨k, z⟩ | z | ⟨ys, z⟩
              · exact absurd (M1.rs.zfr j a h) z
              · obtain ⟨hk, z⟩ := Fb_mem z
                have := M1.rs.dis j k a h z
                subst this
                exact absurd hj hk
              · rw [upd_ne hne, eo] at z; cases z
              · rw [upd_ne hne, eo] at z; cases z; exact wo.elim
          · simp only [Fn, if_neg hj] at h
            exact ri.zfr j a h
      have nD : ¬ Ow Fn D := fun ⟨j, h⟩ => by
        by_cases hj : j ∈ own
        · simp only [Fn, if_pos hj] at h
          exact own1 D ⟨j, h⟩ hD
        · simp only [Fn, if_neg hj] at h
          exact ai.no ⟨j, h⟩
      have Mn : Mid K Z1 H1 (Ow F1) σ (backE own ρ1 ρ2) Zi Hi Fn := by
        refine ⟨rsn, zi, fun a ⟨j, h⟩ => ?_, fun a h => ?_, fun a o h q => ?_⟩
        · by_cases hj : j ∈ own
          · simp only [Fn, if_pos hj] at h
            exact .inl ⟨j, h⟩
          · simp only [Fn, if_neg hj] at h
            have hne : a ≠ D := fun q => ai.no (by rw [← q]; exact ⟨j, h⟩)
            rcases newi a ⟨j, h⟩ with ⟨k, z⟩ | z
            · exact .inl ⟨k, (Fb_mem z).2⟩
            · rw [upd_ne hne] at z; exact .inr z
        · have hne : a ≠ D := fun q => h (by rw [q]; exact ai.zp)
          rcases froi a h with z | ⟨k, z⟩ | z | ⟨ys, z⟩
          · exact .inl z
          · exact .inr (.inl ⟨k, (Fb_mem z).2⟩)
          · rw [upd_ne hne] at z; exact .inr (.inr (.inl z))
          · rw [upd_ne hne] at z; exact .inr (.inr (.inr ⟨ys, z⟩))
        · have hne : a ≠ D := fun z => by rw [z, hD] at h; cases h
          exact frmi a o hne (by rw [upd_ne hne]; exact h) fun ⟨k, z⟩ => q ⟨k, (Fb_mem z).2⟩
      refine q (.ref D) Zi Hi Fn [D] ⟨M1.trans Mn, ⟨⟨D, av, rfl, rfl, ai.at_, rai⟩, by simp, fun a ha => ?_⟩, fun a ha => ?_⟩
      · obtain rfl : a = D := by simpa using ha
        exact ⟨ai.zp, nD⟩
      · obtain rfl : a = D := by simpa using ha
        rcases M1.back hD with z | z
        · exact .inl z
        · exact .inr z
  · cases ed

/-- [elt for tg in iter if ..] -/
theorem ve_lc (hc : X.calm = true) (hN : X.N.Nodup) (hi : VI X tg iter it) (ok : BlkOk X.N X.env.scope scope own)
    (hg : ∀ (s : Shared) (H : Hp) (C : Addr) (cl : List (Str × Addr)) (fp : List Addr), VG (X.blk s H scope (compEnvC scope cl C X.env) fp) (notOwn X.N.length (own.map (·.2))) tg g)
    (ht : ∀ (s : Shared) (H : Hp) (C : Addr) (cl : List (Str × Addr)) (fp : List Addr), VTs (X.blk s H scope (compEnvC scope cl C X.env) fp) ifs c)
    (he : ∀ (s : Shared) (H : Hp) (C : Addr) (cl : List (Str × Addr)) (fp : List Addr), VF (X.blk s H scope (compEnvC scope cl C X.env) fp) elt ee) (hs : ∀ x, foldedSetIterable iter X.env x = pure x) :
    VE X (.ListComp elt [⟨tg, iter, ifs, 0⟩] scope pos) (dLc it g c ee (own.map (·.2))) := by
  have hg' : ∀ (s : Shared) (H : Hp) (C : Addr) (cl : List (Str × Addr)) (fp : List Addr), PG (X.blk s H scope (compEnvC scope cl C X.env) fp) tg (rdG X.K (notOwn X.N.length (own.map (·.2))) g) := hg
  have ht' : ∀ (s : Shared) (H : Hp) (C : Addr) (cl : List (Str × Addr)) (fp : List Addr), PTs (X.blk s H scope (compEnvC scope cl C X.env) fp) ifs (rdT X.K c) := ht
  have he' : ∀ (s : Shared) (H : Hp) (C : Addr) (cl : List (Str × Addr)) (fp : List Addr), PE (X.blk s H scope (compEnvC scope cl C X.env) fp) elt (rdF X.K ee) := he
  exact ⟨fun pins s σ H Q I h => (pe_lc hc hN hi ok hg' ht' he' hs).run pins s σ H Q I (lc_rd σ H Q I.len h)⟩
/-- name = [..] on one line -/
theorem vs_setLc {P : List Nat} {i : Nat} {y : Str} {py spos : Pos} (hP : i ∉ P) (hc : X.calm = true) (hN : X.N.Nodup) (hy : X.N[i]? = some y) (hyl : X.env.scope.names.lookup y = some .local)
    (hsw : swapsWith (.ListComp elt [⟨tg, iter, ifs, 0⟩] scope pos) (some (.Name y py)) spos.line X.env = pure true) (hi : VI X tg iter it) (ok : BlkOk X.N X.env.scope scope own)
    (hg : ∀ (s : Shared) (H : Hp) (C : Addr) (cl : List (Str × Addr)) (fp : List Addr), VG (X.blk s H scope (compEnvC scope cl C X.env) fp) (notOwn X.N.length (own.map (·.2))) tg g)
    (ht : ∀ (s : Shared) (H : Hp) (C : Addr) (cl : List (Str × Addr)) (fp : List Addr), VTs (X.blk s H scope (compEnvC scope cl C X.env) fp) ifs c)
    (he : ∀ (s : Shared) (H : Hp) (C : Addr) (cl : List (Str × Addr)) (fp : List Addr), VF (X.blk s H scope (compEnvC scope cl C X.env) fp) elt ee) (hs : ∀ x, foldedSetIterable iter X.env x = pure x) :
    VS X P (.Assign [.Name y py] (.ListComp elt [⟨tg, iter, ifs, 0⟩] scope pos) spos) (sAsg (dLc it g c ee (own.map (·.2))) (gSet i)) := by
  have hg' : ∀ (s : Shared) (H : Hp) (C : Addr) (cl : List (Str × Addr)) (fp : List Addr), PG (X.blk s H scope (compEnvC scope cl C X.env) fp) tg (rdG X.K (notOwn X.N.length (own.map (·.2))) g) := hg
  have ht' : ∀ (s : Shared) (H : Hp) (C : Addr) (cl : List (Str × Addr)) (fp : List Addr), PTs (X.blk s H scope (compEnvC scope cl C X.env) fp) ifs (rdT X.K c) := ht
  have he' : ∀ (s : Shared) (H : Hp) (C : Addr) (cl : List (Str × Addr)) (fp : List Addr), PE (X.blk s H scope (compEnvC scope cl C X.env) fp) elt (rdF X.K ee) := he
  exact ⟨fun pins s σ H D I h => (ps_setLc hc hN hy hyl hsw hi ok hg' ht' he' hs).run pins s σ H D I (by
    obtain ⟨Z, ρ, F, x, ρ1, rs, e1, k⟩ := asg_rd (K := X.K) (P := P) (g := gSet i) D σ H h
    refine lc_rd σ H (fun x H1 => gName i x σ H1 D.nx) I.len ⟨Z, ρ, F, x, ρ1, rs, e1, fun v Z1 H1 F1 A E => ?_⟩
    obtain ⟨Z2, ρ2, F2, m, A2, ρ3, r2, rx, e3, k3⟩ := k v Z1 H1 F1 A E
    cases e3
    obtain ⟨F', M1⟩ := r2.put (i := i) rx
    exact k3 _ _ _ F' M1 (Keep.set hP))⟩
end

/-! ### a tuple with lists of its own, to be handed back -/
abbrev Cv := En → Option (C × En)
abbrev Clv := En → Option (List C × En)
def cF (d : Fv) : Cv := fun ρ => (d ρ).map fun p => (.p p.1, p.2)
/-- a list that is just made, or a slot's own that is not asked for again -/
def cM (P : List Nat) (d : Ev) : Cv := fun ρ => (d ρ).bind fun p => (p.1.mv P p.2).bind fun q => match q.1 with
  | .lst ds => some (.l ds, q.2)
  | .p d => some (.p d, q.2)
  | _ => none
def rdC (K : PySem.W.Frag) (d : Cv) : TE := fun σ H Q => ∃ Z ρ F c ρ', RS K Z H ρ σ F ∧ d ρ = some (c, ρ') ∧ ∀ v Z' H' F' A, End K Z H F σ ρ' (.m c.m) v Z' H' F' A → Q v H'
def VC (X : Cx) (e : Expr) (d : Cv) : Prop := PE X e (rdC X.K d)
section
variable {X : Cx} {e : Expr} {es : List Expr} {P : List Nat} {pos : Pos}
theorem vc_F {d : Fv} (h : VF X e d) : VC X e (cF d) := pe_mono h fun σ H Q ⟨Z, ρ, F, x, ρ2, rs, ed, q⟩ => by
  obtain ⟨⟨y, ρ1⟩, e1, ed⟩ := Option.map_eq_some_iff.mp ed
  cases ed
  exact ⟨Z, ρ, F, y, ρ1, rs, e1, fun v Z1 H1 F1 M1 r => q v Z1 H1 F1 [] (End.p r M1)⟩
theorem vc_M {d : Ev} (h : VE X e d) : VC X e (cM P d) := pe_mono h fun σ H Q ⟨Z, ρ, F, x, ρ2, rs, ed, q⟩ => by
  obtain ⟨⟨y, ρ1⟩, e1, ed⟩ := Option.bind_eq_some_iff.mp ed
  obtain ⟨⟨m, ρ3⟩, e2, ed⟩ := Option.bind_eq_some_iff.mp ed
  refine ⟨Z, ρ, F, y, ρ1, rs, e1, fun v Z1 H1 F1 A E => ?_⟩
  obtain ⟨Z2, F2, A2, E2⟩ := E.mv e2
  dsimp only at ed
  split at ed
  · cases ed; exact q v Z2 H1 F2 A2 E2
  · cases ed; exact q v Z2 H1 F2 A2 E2
  · cases ed
def clNil : Clv := fun ρ => some ([], ρ)
def clCons (a : Cv) (r : Clv) : Clv := fun ρ => (a ρ).bind fun p => (r p.2).bind fun q => some (p.1 :: q.1, q.2)
def rdCl (K : PySem.W.Frag) (d : Clv) : TA := fun σ H Q => ∃ Z ρ F cs ρ', RS K Z H ρ σ F ∧ d ρ = some (cs, ρ') ∧ ∀ vs Z' H' F' A, Mid K Z H (Ow F) σ ρ' Z' H' F' → RCs Z' H' cs vs A → A.Nodup → (∀ a ∈ A, Z' a = none ∧ ¬ Ow F' a) → (∀ a ∈ A, Ow F a ∨ H a = none) → Q vs H'
def VCl (X : Cx) (es : List Expr) (d : Clv) : Prop := PA X es (rdCl X.K d)
theorem vcl_nil : VCl X [] clNil := pa_mono pa_nil fun σ H Q ⟨Z, ρ, F, x, ρ2, rs, ed, q⟩ => by
  cases ed
  exact q [] Z H F [] rs.refl rfl List.nodup_nil (fun a h => by cases h) fun a h => by cases h
theorem vcl_cons {a : Cv} {r : Clv} (hs : starEach (e :: es) X.env = (false, eval e X.env) :: starEach es X.env) (ha : VC X e a) (hr : VCl X es r) : VCl X (e :: es) (clCons a r) := pa_mono (pa_cons ha hr hs) fun σ H Q ⟨Z, ρ, F, x, ρ2, rs, ed, q⟩ => by
  obtain ⟨⟨c, ρa⟩, ea, ed⟩ := Option.bind_eq_some_iff.mp ed
  obtain ⟨⟨cs, ρr⟩, er, ed⟩ := Option.bind_eq_some_iff.mp ed
  cases ed
  refine ⟨Z, ρ, F, c, ρa, rs, ea, fun v Z1 H1 F1 A1 E1 => ⟨Z1, ρa, F1, cs, _, E1.mid.rs, er, fun vs Z2 H2 F2 A2 M2 r2 nd2 k2 n2 => ?_⟩⟩
  have R1 := E1.rx.keep E1.mid.rs M2
  have rc : RC Z2 H2 c v A1 := by
    have := R1.1
    cases c <;> exact this
  refine q (v :: vs) Z2 H2 F2 (A1 ++ A2) (E1.mid.trans M2) ⟨A1, A2, rc, r2, rfl⟩ (List.nodup_append.mpr ⟨R1.2.1, nd2, fun a h1 b h2 hab => ?_⟩) (fun a h => ?_) (fun a h => ?_)
  · subst hab
    obtain ⟨o, eo, _⟩ := E1.rx.1.own a h1
    rcases n2 a h2 with z | z
    · exact (E1.rx.2.2 a h1).2 z
    · rw [eo] at z; cases z
  · rcases List.mem_append.mp h with h | h
    · exact R1.2.2 a h
    · exact k2 a h
  · rcases List.mem_append.mp h with h | h
    · exact E1.nw a h
    · rcases n2 a h with z | z
      · exact E1.mid.new a z
      · exact E1.mid.back z
def dTupK (d : Clv) : Ev := fun ρ => (d ρ).bind fun p => if p.1.length ≤ sizeLine then some (.m (.tup p.1), p.2) else none
theorem ve_tupK {d : Clv} {k : Nat} (h : VCl X es d) : VE X (.Tuple es k pos) (dTupK d) := pe_mono (pe_tup h) fun σ H Q ⟨Z, ρ, F, x, ρ2, rs, ed, q⟩ => by
  obtain ⟨⟨cs, ρ1⟩, e1, ed⟩ := Option.bind_eq_some_iff.mp ed
  split at ed
  · cases ed
    refine ⟨Z, ρ, F, cs, _, rs, e1, fun vs Z1 H1 F1 A M1 rc nd k n => ⟨by rw [← rc.len]; assumption, fun p hp => ?_⟩⟩
    have g := M1.rs.grow (Z' := Z1) (H' := upd H1 p (.tup vs)) (Same.refl _) (same_upd hp) (Same.upd_r M1.rs.zh hp) fun a q => .inl q
    have hne : ∀ a ∈ A, a ≠ p := fun a ha z => by
      obtain ⟨o, eo, _⟩ := rc.own a ha
      rw [z, hp] at eo; cases eo
    exact q (.ref p) Z1 _ F1 A ⟨M1.trans g, ⟨⟨p, vs, rfl, upd_same, rc.keep (Same.refl _) fun a ha o eo => by rw [upd_ne (hne a ha)]; exact eo⟩, nd, k⟩, n⟩
  · cases ed
end
end Iv

set_option Elab.async false
set_option linter.all false
set_option maxRecDepth 100000
/-! Iv, part 10: the text read into its meaning by a program, and that this is right. -/
namespace Iv
open PySem PySem.Spec L2

/-! ### shapes -/
def isStar : Expr → Bool
  | .Starred _ _ => true
  | _ => false
def isSlice : Expr → Bool
  | .Slice _ _ _ _ => true
  | _ => false
def isSet : Expr → Bool
  | .Set _ _ _ => true
  | _ => false
def isComp : Expr → Bool
  | .ListComp _ _ _ _ => true
  | .SetComp _ _ _ _ => true
  | .DictComp _ _ _ _ _ => true
  | _ => false
def isTup : Expr → Bool
  | .Tuple _ _ _ => true
  | .List _ _ => true
  | _ => false
def isCall : Expr → Bool
  | .Call _ _ _ _ => true
  | _ => false
theorem star_ok {e : Expr} {es : List Expr} {env : Env} (h : isStar e = false) : starEach (e :: es) env = (false, eval e env) :: starEach es env := by
  cases e <;> first | rfl | cases h
theorem star1 {e : Expr} {env : Env} (h : isStar e = false) : starEach [e] env = [(false, eval e env)] := star_ok h
theorem star2 {a b : Expr} {env : Env} (h : isStar a = false) (h2 : isStar b = false) : starEach [a, b] env = [(false, eval a env), (false, eval b env)] := by rw [star_ok h, star1 h2]
theorem plain_ok {e : Expr} (h : isSlice e = false) : PlainIx e := by
  cases e <;> first | (intro _ _; rfl) | cases h
theorem mark_ok {e : Expr} {op : CmpOp} (h : isSet e = false) : behindInMarks op e = false := by
  cases e <;> first | rfl | cases h
theorem fold_ok {e : Expr} {env : Env} (h : isSet e = false) : ∀ x, foldedSetIterable e env x = pure x := by
  cases e <;> first | (intro _; rfl) | cases h
theorem swap_ok {e : Expr} {t : Option Expr} {l : Nat} {env : Env} (h : isComp e = false) : swapsWith e t l env = pure false := by
  cases e <;> first | rfl | cases h
theorem base_ok {e : Expr} {a : Str} {env : Env} (h : isCall e = false) : attributeBase e a env (eval e env) = eval e env := by
  cases e <;> first | rfl | cases h
theorem aug_ok {e : Expr} (h : isSlice e = false) : ∀ ov iv new, augStore e ov iv new = (do holding [new, ov, iv] (setItem ov iv new); release [new, ov, iv] []; pure .next) := by
  cases e <;> first | (intro _ _ _; rfl) | cases h
theorem asgS_ok {o k : Expr} {p : Pos} {env : Env} (h : isSlice k = false) : ∀ v, assign (.Subscript o k p) env v = (do
      let ov ← holding [v] (eval o env)
      let iv ← holding [v, ov] (eval k env)
      standAt p
      holding [v, ov, iv] (setItem ov iv v)
      release [v, ov, iv] []) := by
  cases k <;> first | (intro _; rfl) | cases h
theorem each_ok : ∀ {es : List Expr} {env : Env}, es.all (fun e => !isStar e) = true → (assignEach es env).length = es.length ∧ (assignEach es env).findIdx? (·.1) = none
  | [], env, _ => ⟨rfl, rfl⟩
  | e :: es, env, h => by
    simp only [List.all_cons, Bool.and_eq_true] at h
    obtain ⟨h1, h2⟩ := each_ok (es := es) (env := env) h.2
    have e1 : assignEach (e :: es) env = (false, assign e env) :: assignEach es env := by
      cases e <;> first | rfl | (simp [isStar] at h)
    rw [e1]
    exact ⟨by simp [h1], by rw [List.findIdx?_cons]; simp [h2]⟩
theorem each1 {e : Expr} {es : List Expr} {env : Env} (h : isStar e = false) : (assignEach (e :: es) env).map (·.2) = assign e env :: (assignEach es env).map (·.2) := by
  cases e <;> first | rfl | cases h

/-! ### three compared in a row -/
def dChain (g g' : M → M → Option M) (a b c : Ev) : Ev := fun ρ => (a ρ).bind fun p => (b p.2).bind fun q => (p.1.res q.2).bind fun x => (q.1.res q.2).bind fun y => (g x y).bind fun z => match z with
  | .p (.bool true) => (c q.2).bind fun r => (q.1.res r.2).bind fun y' => (r.1.res r.2).bind fun w => (g' y' w).bind fun u => some (.m u, r.2)
  | .p (.bool false) => some (.m (.p (.bool false)), q.2)
  | _ => none
theorem chain_rd {K : PySem.W.Frag} {r r' : R2} {g g' : M → M → Option M} {da db dc : Ev} (ho : OpV K r g) (ho' : OpV K r' g') : ∀ σ H Q, rdE K (dChain g g' da db dc) σ H Q → tChain r r' (rdE K da) (rdE K db) (rdE K dc) σ H Q := by
  rintro σ H Q ⟨Z, ρ, F, x, ρ', rs, ed, q⟩
  obtain ⟨⟨xa, ρa⟩, ea, ed⟩ := Option.bind_eq_some_iff.mp ed
  obtain ⟨⟨xb, ρb⟩, eb, ed⟩ := Option.bind_eq_some_iff.mp ed
  obtain ⟨m1, e1, ed⟩ := Option.bind_eq_some_iff.mp ed
  obtain ⟨m2, e2, ed⟩ := Option.bind_eq_some_iff.mp ed
  obtain ⟨z, eg, ed⟩ := Option.bind_eq_some_iff.mp ed
  refine ⟨Z, ρ, F, xa, ρa, rs, ea, fun v Z1 H1 F1 A1 E1 => ⟨Z1, ρa, F1, xb, ρb, E1.mid.rs, eb, fun u Z2 H2 F2 A2 E2 => ?_⟩⟩
  obtain ⟨k1, B1, q1, _⟩ := (E1.rx.keep E1.mid.rs E2.mid).rm E2.mid.rs e1
  obtain ⟨k2, B2, q2, _⟩ := E2.rx.rm E2.mid.rs e2
  have M12 := E1.mid.trans E2.mid
  refine ho Z2 H2 _ _ _ v u B1 B2 _ M12.rs.zh k1 k2 q1 q2 eg fun w Z3 H3 A3 res => ?_
  have E3 := res.fin M12.rs
  dsimp only at ed
  split at ed
  · refine ⟨true, bl_rm res.rm, ?_⟩
    rw [if_pos rfl]
    obtain ⟨⟨xc, ρc⟩, ec, ed⟩ := Option.bind_eq_some_iff.mp ed
    obtain ⟨m3, e3, ed⟩ := Option.bind_eq_some_iff.mp ed
    obtain ⟨m4, e4, ed⟩ := Option.bind_eq_some_iff.mp ed
    obtain ⟨z2, eg2, ed⟩ := Option.bind_eq_some_iff.mp ed
    cases ed
    refine ⟨Z3, ρb, F2, xc, _, E3.mid.rs, ec, fun cv Z4 H4 F4 A4 E4 => ?_⟩
    obtain ⟨k3, B3, q3, _⟩ := ((E2.rx.keep E2.mid.rs E3.mid).keep E3.mid.rs E4.mid).rm E4.mid.rs e3
    obtain ⟨k4, B4, q4, _⟩ := E4.rx.rm E4.mid.rs e4
    have M4 := (M12.trans E3.mid).trans E4.mid
    exact ho' Z4 H4 _ _ _ u cv B3 B4 Q M4.rs.zh k3 k4 q3 q4 eg2 fun w' Z5 H5 A5 res' => q w' Z5 H5 _ A5 (M4.then (res'.fin M4.rs))
  · cases ed
    refine ⟨false, bl_rm res.rm, ?_⟩
    rw [if_neg Bool.false_ne_true]
    exact q _ Z3 H3 F2 [] (End.p (.bl false) (M12.trans E3.mid))
  · cases ed
theorem lasts_ok {op op' : CmpOp} {b c : Expr} (h : isSet c = false) : lastMarks [op, op'] [b, c] = false := mark_ok h
theorem ve_chain {X : Cx} {a b c : Expr} {pos : Pos} {op op' : CmpOp} {r r' : R2} {g g' : M → M → Option M} {da db dc : Ev} (hr : OpR X (compareOp op) r) (hr' : OpR X (compareOp op') r') (ho : OpV X.K r g) (ho' : OpV X.K r' g') (hm : isSet c = false) (ha : VE X a da) (hb : VE X b db) (hc : VE X c dc) :
    VE X (.Compare a [op, op'] [b, c] pos) (dChain g g' da db dc) := pe_mono (pe_chain hr hr' ha hb hc (lasts_ok hm)) (chain_rd ho ho')
theorem vt_chain {X : Cx} {a b c : Expr} {pos : Pos} {op op' : CmpOp} {r r' : R2} {g g' : M → M → Option M} {da db dc : Ev} (hr : OpR X (compareOp op) r) (hr' : OpR X (compareOp op') r') (ho : OpV X.K r g) (ho' : OpV X.K r' g') (hm : isSet c = false) (ha : VE X a da) (hb : VE X b db) (hc : VE X c dc) :
    VT X (.Compare a [op, op'] [b, c] pos) (dT (dChain g g' da db dc)) := pt_mono (pt_chain hr hr' ha hb hc (lasts_ok hm)) fun σ H Q h => by
  obtain ⟨Z, ρ, F, x, ρ', rs, ed, q⟩ := T_rd σ H Q h
  exact chain_rd ho ho' σ H _ ⟨Z, ρ, F, x, ρ', rs, ed, q⟩


/-! ### in place -/
theorem opv_ipI {K : PySem.W.Frag} {f : Int → Int → Int} : OpV K (ipI f) (gII (fun _ _ => true) fun i j => .int (f i j)) := opv_ii0 fun _ _ _ => .int _
/-! ### calls by facts -/
/-- the def named x does f, of n arguments, at level k -/
def FnG (P : Program) (w : World) (K : PySem.W.Frag) (mg : Str → Option Value) (base : Heap) (x : Str) (k n : Nat) (f : Sem1) : Prop :=
  ∃ fa fd ps, FnOk P w K mg base CX0 k fa fd ps (spF K n f) ∧ mg x = some (.ref fa) ∧ PySem.W.keepIn K (.ref fa) = true ∧ Binds K fd ps []
theorem FnG.mono {P : Program} {w : World} {K : PySem.W.Frag} {mg : Str → Option Value} {base : Heap} {x : Str} {j k n : Nat} {f : Sem1} (h : FnG P w K mg base x j n f) (l : j ≤ k) : FnG P w K mg base x k n f := by
  obtain ⟨fa, fd, ps, F, a, b, c⟩ := h
  exact ⟨fa, fd, ps, F.mono l, a, b, c⟩
theorem spF_none {K : PySem.W.Frag} {n : Nat} {vs : List V} {H : Hp} {Q : VK} {E : XK} (h : spF K n (fun _ => none) vs H Q E) : False := by
  obtain ⟨_, Z, ms, F, r, ρ', rs, e, _⟩ := h
  cases e
theorem ve_callG {X : Cx} {e : Expr} {es : List Expr} {k : Nat} {f : Sem1} {n : Nat} {x : Str} {p pos : Pos} {as : List Ag} (G : FnG X.prog X.w X.K X.mg X.base x k n f) (hr : Room k X.A) (hg : Gl X x)
    (hn : as.length = n) (ha : VA X (e :: es) as) (hdb : (x == ("__debug__" : Str)) = false) (he : starEach (e :: es) X.env = (false, eval e X.env) :: starEach es X.env) (hpl : (backTo pos (starEach es X.env)).any (·.1) = false) : VE X (.Call (.Name x p) (e :: es) [] pos) (dCall f as) := by
  obtain ⟨fa, fd, ps, F, hm, hk, hb⟩ := G
  exact ve_call F hr hg hm hk hb hn ha hdb he hpl
/-- THE RULE for a def of the head's facts: its body does d -/
theorem fn_okF {P : Program} {w : World} {K : PySem.W.Frag} {mg : Str → Option Value} {base : Heap} {k : Nat} {f : Addr} {fd : FuncData} {name qual : Str} {params : Arguments} {body : List Stmt} {scope : Scope}
    {N ps : List Str} {Pr : List Nat} {d : Es} (F : FunD K name qual params body scope [] [] f fd) (S : FnScope N ps scope) (hPr : ∀ i ∈ Pr, i < ps.length)
    (hm : mg name = some (.ref f)) (hbi : ∀ (kV doc pm : Value) (an : Option Addr) (cdv ct : Value) (us : List Value), us.length = ps.length → bindArgs (PySem.W.fnOf name qual params body scope .none kV doc pm an cdv ct) ⟨us, []⟩ = pure (ps.zip us))
    (hb : ∀ X : Cx, X.prog = P → X.w = w → X.K = K → X.mg = mg → X.base = base → X.N = N → X.env.scope = scope → X.calm = true → X.xe = (fun _ _ => False) → (∀ x, X.fn x = true) → Room k X.A → VB X Pr body d) : FnG P w K mg base name (k + 1) ps.length (fnD ps.length N.length Pr d) := by
  have bi := F.bindsN hbi
  have kp := F.kp
  obtain ⟨oc, od, dV, kV, doc, pm, an, cdv, ct, osl, rfl, lk, hcd, _, _⟩ := F.ex
  exact ⟨f, _, ps, fn_okD lk hcd S hPr hb, hm, kp, bi⟩
theorem blk_ok {N : List Str} {sc scope : Scope} {own : List (Str × Nat)} {sc' : Scope} (h : sc' = sc) (e : blkC N sc scope own = true) : BlkOk N sc' scope own := by subst h; exact blkOk_by e
end Iv

set_option Elab.async false
set_option linter.all false
set_option maxRecDepth 100000
/-! Iv, part 11: the rules with one plain check each, as a printer wants them. -/
namespace Iv
open PySem PySem.Spec L2

def isVis (sc : Scope) (x : Str) : Bool := match sc.names.lookup x with
  | some .local => true
  | some .cell => true
  | some .free => true
  | _ => false
def isGl (sc : Scope) (x : Str) : Bool := match sc.names.lookup x with
  | some .globalImplicit => !(x == ("__debug__" : Str)) && !(x == ("__name__" : Str))
  | _ => false
def cVar (N : List Str) (sc : Scope) (x : Str) (i : Nat) : Bool := decide (N[i]? = some x) && isVis sc x && !(x == ("__debug__" : Str)) && !(x == ("__classdict__" : Str))
def cTg (N : List Str) (sc : Scope) (fn : Str → Bool) (P : List Nat) (x : Str) (i : Nat) : Bool := decide (N[i]? = some x) && decide N.Nodup && !(P.contains i) && (match sc.names.lookup x with
  | some .local => true
  | some .cell => fn x
  | _ => false)
section
variable {X : Cx} {P : List Nat} {a b c e : Expr} {es : List Expr} {pos p : Pos} {x : Str} {i : Nat}
theorem isVis_ok {sc : Scope} (h : isVis sc x = true) : Vis sc x := by
  unfold isVis at h
  unfold Vis
  split at h
  · exact .inl (by assumption)
  · exact .inr (.inl (by assumption))
  · exact .inr (.inr (by assumption))
  · cases h
theorem isGl_ok (h : isGl X.env.scope x = true) : Gl X x ∧ (x == ("__debug__" : Str)) = false ∧ x ≠ "__name__" := by
  unfold isGl at h
  split at h
  · simp only [Bool.and_eq_true, Bool.not_eq_true'] at h
    exact ⟨by assumption, h.1, fun z => by rw [z] at h; exact absurd h.2 (by decide)⟩
  · cases h
theorem cVar_ok {N : List Str} {sc : Scope} (h : cVar N sc x i = true) : N[i]? = some x ∧ Vis sc x ∧ (x == ("__debug__" : Str)) = false ∧ (x == ("__classdict__" : Str)) = false := by
  unfold cVar at h
  simp only [Bool.and_eq_true, decide_eq_true_eq, Bool.not_eq_true'] at h
  exact ⟨h.1.1.1, isVis_ok h.1.1.2, h.1.2, h.2⟩
theorem cTg_ok {N : List Str} {sc : Scope} {fn : Str → Bool} (h : cTg N sc fn P x i = true) : N[i]? = some x ∧ N.Nodup ∧ i ∉ P ∧ Loc sc x ∧ (fn x = true ∨ sc.names.lookup x = some .local) := by
  unfold cTg at h
  simp only [Bool.and_eq_true, decide_eq_true_eq, Bool.not_eq_true', List.contains_eq_mem, decide_eq_false_iff_not] at h
  obtain ⟨⟨⟨h1, h2⟩, h3⟩, h4⟩ := h
  refine ⟨h1, h2, h3, ?_⟩
  split at h4
  · rename_i e; exact ⟨.inl e, .inr e⟩
  · rename_i e; exact ⟨.inr e, .inl h4⟩
  · cases h4
theorem e_var (h : cVar X.N X.env.scope x i = true) : VE X (.Name x pos) (dVar i) := by
  obtain ⟨h1, h2, h3, h4⟩ := cVar_ok h
  exact ve_var h1 h2 h3 h4
theorem e_gint {i : Int} (hm : ∃ t, X.mg x = some (.int i t)) (h : isGl X.env.scope x = true) : VE X (.Name x pos) (dC (.int i)) := ve_gint (isGl_ok h).1 hm (isGl_ok h).2.1
theorem e_gstr {i : Str} (hm : ∃ t, X.mg x = some (.str i t)) (h : isGl X.env.scope x = true) : VE X (.Name x pos) (dC (.str i)) := ve_gstr (isGl_ok h).1 hm (isGl_ok h).2.1
theorem t_name {da : Ev} (h : VE X (.Name x pos) da) : VT X (.Name x pos) (dT da) := vt_val h fun _ => rfl
theorem t_call {f : Expr} {ks : List Keyword} {da : Ev} (h : VE X (.Call f es ks pos) da) : VT X (.Call f es ks pos) (dT da) := vt_val h fun _ => rfl
theorem t_sub {da : Ev} (h : VE X (.Subscript a b pos) da) : VT X (.Subscript a b pos) (dT da) := vt_val h fun _ => rfl
theorem t_const {k : Const} {j : Nat} {da : Ev} (h : VE X (.Constant k j pos) da) : VT X (.Constant k j pos) (dT da) := vt_val h fun _ => rfl
theorem e_cmp {op : CmpOp} {r : R2} {g : M → M → Option M} {da db : Ev} (hr : OpR X (compareOp op) r) (ho : OpV X.K r g) (ha : VE X a da) (hb : VE X b db) (hm : isSet b = false) : VE X (.Compare a [op] [b] pos) (dBin g da db) := ve_cmp hr ho (mark_ok hm) ha hb
theorem t_cmp {op : CmpOp} {r : R2} {g : M → M → Option M} {da db : Ev} (hr : OpR X (compareOp op) r) (ho : OpV X.K r g) (ha : VE X a da) (hb : VE X b db) (hm : isSet b = false) : VT X (.Compare a [op] [b] pos) (dT (dBin g da db)) := vt_cmp hr ho (mark_ok hm) ha hb
theorem e_ix {da db : Ev} (ha : VE X a da) (hb : VE X b db) (hs : isSlice b = false) : VE X (.Subscript a b pos) (dIx da db) := ve_ix (plain_ok hs) ha hb
theorem l_cons {da : Fv} {dr : Lv} (ha : VF X e da) (hr : VL X es dr) (hs : isStar e = false) : VL X (e :: es) (dCons da dr) := vl_cons (star_ok hs) ha hr
theorem cl_cons {da : Cv} {dr : Clv} (ha : VC X e da) (hr : VCl X es dr) (hs : isStar e = false) : VCl X (e :: es) (clCons da dr) := vcl_cons (star_ok hs) ha hr
/- built-ins -/
variable {da db dc : Ev}
theorem boot_b_len : bootBuiltins "len" = some (.builtin "len") := by decide +kernel
theorem boot_b_abs : bootBuiltins "abs" = some (.builtin "abs") := by decide +kernel
theorem boot_b_sum : bootBuiltins "sum" = some (.builtin "sum") := by decide +kernel
theorem boot_b_any : bootBuiltins "any" = some (.builtin "any") := by decide +kernel
theorem boot_b_all : bootBuiltins "all" = some (.builtin "all") := by decide +kernel
theorem boot_b_max : bootBuiltins "max" = some (.builtin "max") := by decide +kernel
theorem boot_b_min : bootBuiltins "min" = some (.builtin "min") := by decide +kernel
theorem boot_b_sorted : bootBuiltins "sorted" = some (.builtin "sorted") := by decide +kernel
theorem boot_t_int : bootBuiltins "int" = some (.type "int") := by decide +kernel
theorem boot_t_bool : bootBuiltins "bool" = some (.type "bool") := by decide +kernel
theorem boot_t_str : bootBuiltins "str" = some (.type "str") := by decide +kernel
theorem boot_t_list : bootBuiltins "list" = some (.type "list") := by decide +kernel
theorem boot_t_tuple : bootBuiltins "tuple" = some (.type "tuple") := by decide +kernel
theorem e_len (hm : X.mg "len" = none) (ha : VE X a da) (h : (isGl X.env.scope "len" && !isStar a) = true) : VE X (.Call (.Name "len" p) [a] [] pos) (dUn gLen da) := by
  simp only [Bool.and_eq_true, Bool.not_eq_true'] at h
  exact ve_b1 call_len unv_len (isGl_ok h.1).1 hm boot_b_len (isGl_ok h.1).2.2 (isGl_ok h.1).2.1 (star1 h.2) ha
theorem e_abs (hm : X.mg "abs" = none) (ha : VE X a da) (h : (isGl X.env.scope "abs" && !isStar a) = true) : VE X (.Call (.Name "abs" p) [a] [] pos) (dUn (gInt1 fun i => .int (if i < 0 then -i else i)) da) := by
  simp only [Bool.and_eq_true, Bool.not_eq_true'] at h
  exact ve_b1 call_abs unv_abs (isGl_ok h.1).1 hm boot_b_abs (isGl_ok h.1).2.2 (isGl_ok h.1).2.1 (star1 h.2) ha
theorem e_sum (hc : X.calm = true) (hm : X.mg "sum" = none) (ha : VE X a da) (h : (isGl X.env.scope "sum" && !isStar a) = true) : VE X (.Call (.Name "sum" p) [a] [] pos) (dUn gSum da) := by
  simp only [Bool.and_eq_true, Bool.not_eq_true'] at h
  exact ve_b1 (cr_sum hc) unv_sum (isGl_ok h.1).1 hm boot_b_sum (isGl_ok h.1).2.2 (isGl_ok h.1).2.1 (star1 h.2) ha
theorem e_max (hc : X.calm = true) (hm : X.mg "max" = none) (ha : VE X a da) (h : (isGl X.env.scope "max" && !isStar a) = true) : VE X (.Call (.Name "max" p) [a] [] pos) (dUn gMaxI da) := by
  simp only [Bool.and_eq_true, Bool.not_eq_true'] at h
  exact ve_b1 (cr_max hc) unv_maxI (isGl_ok h.1).1 hm boot_b_max (isGl_ok h.1).2.2 (isGl_ok h.1).2.1 (star1 h.2) ha
theorem e_min (hc : X.calm = true) (hm : X.mg "min" = none) (ha : VE X a da) (h : (isGl X.env.scope "min" && !isStar a) = true) : VE X (.Call (.Name "min" p) [a] [] pos) (dUn gMinI da) := by
  simp only [Bool.and_eq_true, Bool.not_eq_true'] at h
  exact ve_b1 (cr_min hc) unv_minI (isGl_ok h.1).1 hm boot_b_min (isGl_ok h.1).2.2 (isGl_ok h.1).2.1 (star1 h.2) ha
theorem e_any (hc : X.calm = true) (hm : X.mg "any" = none) (ha : VE X a da) (h : (isGl X.env.scope "any" && !isStar a) = true) : VE X (.Call (.Name "any" p) [a] [] pos) (dUn gAny da) := by
  simp only [Bool.and_eq_true, Bool.not_eq_true'] at h
  exact ve_b1 (cr_any hc) unv_any (isGl_ok h.1).1 hm boot_b_any (isGl_ok h.1).2.2 (isGl_ok h.1).2.1 (star1 h.2) ha
theorem e_all (hc : X.calm = true) (hm : X.mg "all" = none) (ha : VE X a da) (h : (isGl X.env.scope "all" && !isStar a) = true) : VE X (.Call (.Name "all" p) [a] [] pos) (dUn gAll da) := by
  simp only [Bool.and_eq_true, Bool.not_eq_true'] at h
  exact ve_b1 (cr_all hc) unv_all (isGl_ok h.1).1 hm boot_b_all (isGl_ok h.1).2.2 (isGl_ok h.1).2.1 (star1 h.2) ha
theorem e_sorted (hm : X.mg "sorted" = none) (ha : VE X a da) (h : (isGl X.env.scope "sorted" && !isStar a) = true) : VE X (.Call (.Name "sorted" p) [a] [] pos) (dUn gSortI da) := by
  simp only [Bool.and_eq_true, Bool.not_eq_true'] at h
  exact ve_b1 cr_sortedI unv_sortI (isGl_ok h.1).1 hm boot_b_sorted (isGl_ok h.1).2.2 (isGl_ok h.1).2.1 (star1 h.2) ha
theorem e_int (hm : X.mg "int" = none) (ha : VE X a da) (h : (isGl X.env.scope "int" && !isStar a) = true) : VE X (.Call (.Name "int" p) [a] [] pos) (dUn gInt da) := by
  simp only [Bool.and_eq_true, Bool.not_eq_true'] at h
  exact ve_t1 call_int1 unv_int (isGl_ok h.1).1 hm boot_t_int (isGl_ok h.1).2.2 (isGl_ok h.1).2.1 (star1 h.2) ha
theorem e_list (hm : X.mg "list" = none) (ha : VE X a da) (h : (isGl X.env.scope "list" && !isStar a) = true) : VE X (.Call (.Name "list" p) [a] [] pos) (dUn gList da) := by
  simp only [Bool.and_eq_true, Bool.not_eq_true'] at h
  exact ve_t1 call_list_of unv_list (isGl_ok h.1).1 hm boot_t_list (isGl_ok h.1).2.2 (isGl_ok h.1).2.1 (star1 h.2) ha
theorem e_tuple (hm : X.mg "tuple" = none) (ha : VE X a da) (h : (isGl X.env.scope "tuple" && !isStar a) = true) : VE X (.Call (.Name "tuple" p) [a] [] pos) (dUn gTuple da) := by
  simp only [Bool.and_eq_true, Bool.not_eq_true'] at h
  exact ve_t1 call_tuple_of unv_tuple (isGl_ok h.1).1 hm boot_t_tuple (isGl_ok h.1).2.2 (isGl_ok h.1).2.1 (star1 h.2) ha
theorem e_max2 (hc : X.calm = true) (hm : X.mg "max" = none) (ha : VE X a da) (hb : VE X b db) (h : (isGl X.env.scope "max" && !isStar a && !isStar b) = true) : VE X (.Call (.Name "max" p) [a, b] [] pos) (dBin gMax2 da db) := by
  simp only [Bool.and_eq_true, Bool.not_eq_true'] at h
  exact ve_b2 (call_max2 hc) opv_ii2 (isGl_ok h.1.1).1 hm boot_b_max (isGl_ok h.1.1).2.2 (isGl_ok h.1.1).2.1 (star2 h.1.2 h.2) (star1 h.2) ha hb
theorem e_min2 (hc : X.calm = true) (hm : X.mg "min" = none) (ha : VE X a da) (hb : VE X b db) (h : (isGl X.env.scope "min" && !isStar a && !isStar b) = true) : VE X (.Call (.Name "min" p) [a, b] [] pos) (dBin gMin2 da db) := by
  simp only [Bool.and_eq_true, Bool.not_eq_true'] at h
  exact ve_b2 (call_min2 hc) opv_ii2 (isGl_ok h.1.1).1 hm boot_b_min (isGl_ok h.1.1).2.2 (isGl_ok h.1.1).2.1 (star2 h.1.2 h.2) (star1 h.2) ha hb
theorem e_isi {t : Str} {p2 : Pos} {T : String} (hm : X.mg "isinstance" = none) (hmt : X.mg t = none) (hvt : bootBuiltins t = some (.type T)) (ha : VE X a da) (h : (isGl X.env.scope "isinstance" && isGl X.env.scope t && !isStar a) = true) :
    VE X (.Call (.Name "isinstance" p) [a, .Name t p2] [] pos) (dUn (gIsI T) da) := by
  simp only [Bool.and_eq_true, Bool.not_eq_true'] at h
  exact ve_isi rfl (isGl_ok h.1.1).1 hm (isGl_ok h.1.2).1 hmt hvt (isGl_ok h.1.2).2.2 (isGl_ok h.1.2).2.1 (star2 h.2 rfl) ha
/- calls of defs -/
theorem e_call {k n : Nat} {f : Sem1} {as : List Ag} (G : FnG X.prog X.w X.K X.mg X.base x k n f) (hr : Room k X.A) (ha : VA X (e :: es) as) (hn : as.length = n) (h : (isGl X.env.scope x && !isStar e) = true) (hpl : (backTo pos (starEach es X.env)).any (·.1) = false) : VE X (.Call (.Name x p) (e :: es) [] pos) (dCall f as) := by
  simp only [Bool.and_eq_true, Bool.not_eq_true'] at h
  exact ve_callG G hr (isGl_ok h.1).1 hn ha (isGl_ok h.1).2.1 (star_ok h.2) hpl
theorem a_ex {d : Fv} {as : List Ag} (ha : VF X e d) (hr : VA X es as) (hs : isStar e = false) : VA X (e :: es) (.ex d :: as) := va_ex (star_ok hs) ha hr
theorem a_pt {d : Ev} {j k : Nat} {as : List Ag} (ha : VE X e d) (hr : VA X es as) (hs : isStar e = false) : VA X (e :: es) (.pt j k d :: as) := va_pt (star_ok hs) ha hr
theorem a_io {as : List Ag} (hr : VA X es as) (h : cVar X.N X.env.scope x i = true) : VA X (.Name x p :: es) (.io i :: as) := by
  obtain ⟨h1, h2, h3, h4⟩ := cVar_ok h
  exact va_io h1 h2 h3 h4 hr
theorem a_var {as : List Ag} (hr : VA X es as) (h : cVar X.N X.env.scope x i = true) : VA X (.Name x p :: es) (.var i :: as) := by
  obtain ⟨h1, h2, h3, h4⟩ := cVar_ok h
  exact va_var h1 h2 h3 h4 hr
/- methods of lists -/
variable {o : Expr} {od : Ev} {as : Lv} {apos : Pos}
theorem e_append (ho : VE X o od) (ha : VL X [e] as) (h : (!isCall o && apos.endLine == pos.line && !isStar e) = true) : VE X (.Call (.Attribute o "append" apos) [e] [] pos) (dMut fApp od as) := by
  simp only [Bool.and_eq_true, Bool.not_eq_true'] at h
  exact ve_mut PySem.F.plainAttrs_list PySem.F.slot_list_append PySem.F.type_list_append mt_append mut_append ho ha (base_ok h.1.1) (by rw [star1 h.2]; rfl) h.1.2 (star1 h.2) rfl
theorem e_extend (ho : VE X o od) (ha : VL X [e] as) (h : (!isCall o && apos.endLine == pos.line && !isStar e) = true) : VE X (.Call (.Attribute o "extend" apos) [e] [] pos) (dMut fExt od as) := by
  simp only [Bool.and_eq_true, Bool.not_eq_true'] at h
  exact ve_mut PySem.F.plainAttrs_list PySem.F.slot_list_extend PySem.F.type_list_extend mt_extend mut_extend ho ha (base_ok h.1.1) (by rw [star1 h.2]; rfl) h.1.2 (star1 h.2) rfl
theorem e_pop (ho : VE X o od) (h : (!isCall o && apos.endLine == pos.line) = true) : VE X (.Call (.Attribute o "pop" apos) [] [] pos) (dMut fPop od dNil) := by
  simp only [Bool.and_eq_true, Bool.not_eq_true'] at h
  exact ve_mut0 PySem.F.plainAttrs_list PySem.F.slot_list_pop PySem.F.type_list_pop mt_pop mut_pop ho (base_ok h.1) h.2
theorem e_popAt (ho : VE X o od) (ha : VL X [e] as) (h : (!isCall o && apos.endLine == pos.line && !isStar e) = true) : VE X (.Call (.Attribute o "pop" apos) [e] [] pos) (dMut fPopAt od as) := by
  simp only [Bool.and_eq_true, Bool.not_eq_true'] at h
  exact ve_mut PySem.F.plainAttrs_list PySem.F.slot_list_pop PySem.F.type_list_pop mt_popAt mut_popAt ho ha (base_ok h.1.1) (by rw [star1 h.2]; rfl) h.1.2 (star1 h.2) rfl
/- targets -/
variable {g : Gv} {gr : GCv} {tg iter : Expr}
theorem g_name (h : cTg X.N X.env.scope X.fn P x i = true) : VG X P (.Name x pos) (gSet i) := by
  obtain ⟨h1, h2, h3, h4, h5⟩ := cTg_ok h
  exact vg_name h3 h2 h1 h4 h5
theorem g_cons (h1 : VG X P e g) (h2 : VGs X P es gr) (hs : isStar e = false) : VGs X P (e :: es) (gcCons g gr) := vgs_cons h1 h2 (each1 hs)
theorem g_tup {k n : Nat} (hc : X.calm = true) (h : VGs X P es gr) (hn : (es.length == n && es.all fun e => !isStar e) = true) : VG X P (.Tuple es k pos) (gTupT n gr) := by
  simp only [Bool.and_eq_true, beq_iff_eq] at hn
  obtain ⟨a, b⟩ := each_ok (env := X.env) hn.2
  exact vg_tup hc h (a.trans hn.1) b
/- statements -/
variable {ss ss' : List Stmt} {py spos : Pos}
theorem s_expr {d : Ev} (he : VE X e d) (hs : isComp e = false) : VS X P (.Expr e pos) (sExpr d) := vs_expr he (swap_ok hs)
theorem s_set {d : Ev} (he : VE X e d) (h : (cTg X.N X.env.scope X.fn P x i && !isComp e) = true) : VS X P (.Assign [.Name x py] e pos) (sAsg d (gSet i)) := by
  simp only [Bool.and_eq_true, Bool.not_eq_true'] at h
  obtain ⟨h1, h2, h3, h4, h5⟩ := cTg_ok h.1
  exact vs_set h3 h2 h1 h4 he (swap_ok h.2) h5
theorem sw_cell {elt : Expr} {gs : List Comprehension} {scope : Scope} {y : Str} {l : Nat} {env : Env} (hy : env.scope.names.lookup y = some .cell) : swapsWith (.ListComp elt gs scope pos) (some (.Name y py)) l env = pure false := by
  have ky : env.kindOf y = some .cell := hy
  show (pure (env.blockKind == .function && env.kindOf y == some .local && py.line == pos.line && !(scope.names.any fun (n, k) => n == y && (k == .local || k == .cell))) : Sem Bool) = _
  have h : (env.kindOf y == some .local) = false := by rw [ky]; rfl
  rw [h, Bool.and_false, Bool.false_and, Bool.false_and]
/-- name = [..], the name captured -/
theorem s_setC {elt : Expr} {gs : List Comprehension} {scope : Scope} {d : Ev} (he : VE X (.ListComp elt gs scope pos) d) (h : cTg X.N X.env.scope X.fn P x i = true) (hy : (X.env.scope.names.lookup x == some .cell) = true) : VS X P (.Assign [.Name x py] (.ListComp elt gs scope pos) spos) (sAsg d (gSet i)) := by
  obtain ⟨h1, h2, h3, h4, h5⟩ := cTg_ok h
  exact vs_set h3 h2 h1 h4 he (sw_cell (by
    revert hy
    cases X.env.scope.names.lookup x with
    | none => intro hy; cases hy
    | some k => cases k <;> first | (intro _; rfl) | (intro hy; cases hy))) h5
theorem soleT {t v : Expr} {l : Nat} {env : Env} (h : isComp v = false) : swapsWithSole [t] v l env = pure false := swap_ok h
theorem s_asgT {k : Nat} {a : Ev} (he : VE X e a) (hg : VG X P (.Tuple es k py) g) (h : (!isComp e && !isTup e) = true) : VS X P (.Assign [.Tuple es k py] e pos) (sAsg a g) := by
  simp only [Bool.and_eq_true, Bool.not_eq_true'] at h
  refine vs_asg he hg (soleT h.1) ?_ rfl
  have h2 := h.2
  cases e <;> first | rfl | cases h2
theorem s_stL {a : Fv} {kd : Ev} {tpos : Pos} (he : VF X e a) (ho : VE X o od) (hk : VE X c kd) (h : (!isComp e && !isSlice c) = true) : VS X P (.Assign [.Subscript o c tpos] e pos) (sStL a od kd) := by
  simp only [Bool.and_eq_true, Bool.not_eq_true'] at h
  exact vs_stL he ho hk (soleT h.1) rfl rfl (asgS_ok h.2)
theorem s_addI {d : Ev} (he : VE X e d) (h : cTg X.N X.env.scope X.fn P x i = true) : VS X P (.AugAssign (.Name x py) .Add e pos) (sAug i (gII (fun _ _ => true) fun i j => .int (i + j)) d) := by
  obtain ⟨h1, h2, h3, h4, h5⟩ := cTg_ok h
  exact vs_aug h3 h2 h1 h4 ip_add opv_ipI he h5
theorem s_subI {d : Ev} (he : VE X e d) (h : cTg X.N X.env.scope X.fn P x i = true) : VS X P (.AugAssign (.Name x py) .Sub e pos) (sAug i (gII (fun _ _ => true) fun i j => .int (i - j)) d) := by
  obtain ⟨h1, h2, h3, h4, h5⟩ := cTg_ok h
  exact vs_aug h3 h2 h1 h4 ip_sub opv_ipI he h5
theorem s_addL {d kd : Ev} {tpos : Pos} (ho : VE X o od) (hk : VE X c kd) (he : VE X e d) (h : isSlice c = false) : VS X P (.AugAssign (.Subscript o c tpos) .Add e pos) (sAugL (gII (fun _ _ => true) fun i j => .int (i + j)) od kd d) := vs_augL ip_add opv_ipI ho hk he (aug_ok h)
theorem s_subL {d kd : Ev} {tpos : Pos} (ho : VE X o od) (hk : VE X c kd) (he : VE X e d) (h : isSlice c = false) : VS X P (.AugAssign (.Subscript o c tpos) .Sub e pos) (sAugL (gII (fun _ _ => true) fun i j => .int (i - j)) od kd d) := vs_augL ip_sub opv_ipI ho hk he (aug_ok h)
theorem s_for {it : Itv'} {body : Es} (hx : X.xe = fun _ _ => False) (hc : X.calm = true) (hi : VI X tg e it) (hg : VG X P tg g) (hb : VB X P ss body) (hs : isSet e = false) : VS X P (.For tg e ss [] pos) (sFor it g body) := vs_for (by rw [hx]; exact PassesOwn.never) hc hi hg hb (fold_ok hs)
theorem s_while {n : Nat} {dc : Et} {body : Es} (hx : X.xe = fun _ _ => False) (hc : VT X c dc) (hb : VB X P ss body) : VS X P (.While c ss [] pos) (sWhile dc body n) := vs_while (by rw [hx]; exact PassesOwn.never) hc hb
/- iterables -/
theorem i_rng1 {da : Fv} (hm : X.mg "range" = none) (ha : VF X a da) (h : (isGl X.env.scope "range" && !isStar a) = true) : VI X tg (.Call (.Name "range" p) [a] [] pos) (dRng1 da) := by
  simp only [Bool.and_eq_true, Bool.not_eq_true'] at h
  exact vi_rng1 (isGl_ok h.1).1 hm (star1 h.2) ha
theorem i_rng2 {da db : Fv} (hm : X.mg "range" = none) (ha : VF X a da) (hb : VF X b db) (h : (isGl X.env.scope "range" && !isStar a && !isStar b) = true) : VI X tg (.Call (.Name "range" p) [a, b] [] pos) (dRng2 da db) := by
  simp only [Bool.and_eq_true, Bool.not_eq_true'] at h
  exact vi_rng2 (isGl_ok h.1.1).1 hm (star2 h.1.2 h.2) (star1 h.2) ha hb
theorem i_rngD {da db dc : Fv} (hm : X.mg "range" = none) (ha : VF X a da) (hb : VF X b db) (hc : VF X c dc) (h : (isGl X.env.scope "range" && !isStar a && !isStar b && !isStar c) = true) : VI X tg (.Call (.Name "range" p) [a, b, c] [] pos) (dRngD da db dc) := by
  simp only [Bool.and_eq_true, Bool.not_eq_true'] at h
  exact vi_rngD (isGl_ok h.1.1.1).1 hm (by rw [star_ok h.1.1.2, star2 h.1.2 h.2]) (star2 h.1.2 h.2) (star1 h.2) ha hb hc
theorem i_enum {da : Fv} {kk : Nat} {tpos : Pos} (hm : X.mg "enumerate" = none) (ha : VF X a da) (h : (isGl X.env.scope "enumerate" && !isStar a) = true) : VI X (.Tuple es kk tpos) (.Call (.Name "enumerate" p) [a] [] pos) (dEnum da) := by
  simp only [Bool.and_eq_true, Bool.not_eq_true'] at h
  exact vi_enum (isGl_ok h.1).1 hm (star1 h.2) ha
theorem i_zip {da db : Fv} {kk : Nat} {tpos : Pos} (hm : X.mg "zip" = none) (ha : VF X a da) (hb : VF X b db) (h : (isGl X.env.scope "zip" && !isStar a && !isStar b) = true) : VI X (.Tuple es kk tpos) (.Call (.Name "zip" p) [a, b] [] pos) (dZip da db) := by
  simp only [Bool.and_eq_true, Bool.not_eq_true'] at h
  exact vi_zip (isGl_ok h.1.1).1 hm (star2 h.1.2 h.2) (star1 h.2) ha hb
/- comprehensions -/
variable {elt : Expr} {ifs : List Expr} {scope : Scope} {own : List (Str × Nat)} {it : Itv'} {ct : Et} {ee : Fv}
theorem e_lc (own : List (Str × Nat)) (hc : X.calm = true) (hi : VI X tg iter it) 
    (hg : ∀ (s : Shared) (H : Hp) (C : Addr) (cl : List (Str × Addr)) (fp : List Addr), VG (X.blk s H scope (compEnvC scope cl C X.env) fp) (notOwn X.N.length (own.map (·.2))) tg g)
    (ht : ∀ (s : Shared) (H : Hp) (C : Addr) (cl : List (Str × Addr)) (fp : List Addr), VTs (X.blk s H scope (compEnvC scope cl C X.env) fp) ifs ct)
    (he : ∀ (s : Shared) (H : Hp) (C : Addr) (cl : List (Str × Addr)) (fp : List Addr), VF (X.blk s H scope (compEnvC scope cl C X.env) fp) elt ee)
    (h : (decide X.N.Nodup && blkC X.N X.env.scope scope own && !isSet iter) = true) :
    VE X (.ListComp elt [⟨tg, iter, ifs, 0⟩] scope pos) (dLc it g ct ee (own.map (·.2))) := by
  simp only [Bool.and_eq_true, decide_eq_true_eq, Bool.not_eq_true'] at h
  exact ve_lc hc h.1.1 hi (blkOk_by h.1.2) hg ht he (fold_ok h.2)
theorem s_setLc (own : List (Str × Nat)) {y : Str} (hc : X.calm = true) (hk : X.env.scope.kind = .function) (hi : VI X tg iter it)
    (hg : ∀ (s : Shared) (H : Hp) (C : Addr) (cl : List (Str × Addr)) (fp : List Addr), VG (X.blk s H scope (compEnvC scope cl C X.env) fp) (notOwn X.N.length (own.map (·.2))) tg g)
    (ht : ∀ (s : Shared) (H : Hp) (C : Addr) (cl : List (Str × Addr)) (fp : List Addr), VTs (X.blk s H scope (compEnvC scope cl C X.env) fp) ifs ct)
    (he : ∀ (s : Shared) (H : Hp) (C : Addr) (cl : List (Str × Addr)) (fp : List Addr), VF (X.blk s H scope (compEnvC scope cl C X.env) fp) elt ee)
    (h : (decide X.N.Nodup && blkC X.N X.env.scope scope own && !isSet iter) = true)
    (h2 : (decide (X.N[i]? = some y) && !(P.contains i) && (match X.env.scope.names.lookup y with
      | some .local => true
      | _ => false) && py.line == pos.line && !(scope.names.any fun (n, k) => n == y && (k == .local || k == .cell))) = true) :
    VS X P (.Assign [.Name y py] (.ListComp elt [⟨tg, iter, ifs, 0⟩] scope pos) spos) (sAsg (dLc it g ct ee (own.map (·.2))) (gSet i)) := by
  simp only [Bool.and_eq_true, decide_eq_true_eq, Bool.not_eq_true', List.contains_eq_mem, decide_eq_false_iff_not] at h h2
  have hl : X.env.scope.names.lookup y = some .local := by
    have q := h2.1.1.2
    split at q
    · assumption
    · cases q
  exact vs_setLc h2.1.1.1.2 hc h.1.1 h2.1.1.1.1 hl (sw_true hk hl h2.1.2 h2.2) hi (blkOk_by h.1.2) hg ht he (fold_ok h.2)
end
/-! ### a def, its context a plain record -/
abbrev mkX (P : Program) (w : World) (K : PySem.W.Frag) (mg : Str → Option Value) (base : Heap) (A : Around) (N : List Str) (s_0 : Shared) (H_0 : Hp) (env : Env) (scope : Scope) (outer stack : List Env) (ex : List Addr) (pn : List (Addr × Obj)) : Cx :=
  ⟨P, w, K, mg, base, A, N, s_0, H_0, { env with scope := scope }, outer, stack, ex, fun _ => true, true, pn, fun _ _ => False⟩
theorem fn_okM {P : Program} {w : World} {K : PySem.W.Frag} {mg : Str → Option Value} {base : Heap} {k : Nat} {f : Addr} {fd : FuncData} {name qual : Str} {params : Arguments} {body : List Stmt} {scope : Scope}
    {N ps : List Str} {Pr : List Nat} {d : Es} (F : FunD K name qual params body scope [] [] f fd) (S : FnScope N ps scope) (hPr : ∀ i ∈ Pr, i < ps.length)
    (hm : mg name = some (.ref f)) (hbi : ∀ (kV doc pm : Value) (an : Option Addr) (cdv ct : Value) (us : List Value), us.length = ps.length → bindArgs (PySem.W.fnOf name qual params body scope .none kV doc pm an cdv ct) ⟨us, []⟩ = pure (ps.zip us))
    (hb : ∀ (A : Around) (s_0 : Shared) (H_0 : Hp) (env : Env) (outer stack : List Env) (ex : List Addr) (pn : List (Addr × Obj)), Room k A → VB (mkX P w K mg base A N s_0 H_0 env scope outer stack ex pn) Pr body d) : FnG P w K mg base name (k + 1) ps.length (fnD ps.length N.length Pr d) := by
  refine fn_okF F S hPr hm hbi fun X h1 h2 h3 h4 h5 h6 h7 h8 h9 h10 hr => ?_
  obtain ⟨prog, w', K', mg', base', A, N', s_0, H_0, env, outer, stack, ex, fn, calm, pn, xe⟩ := X
  cases h1; cases h2; cases h3; cases h4; cases h5; cases h6; cases h8; cases h9
  have e : fn = fun _ => true := funext h10
  subst e
  have q := hb A s_0 H_0 env outer stack ex pn hr
  cases env
  cases h7
  exact q
end Iv

set_option Elab.async false
set_option linter.all false
set_option maxRecDepth 100000
/-! Iv, part 12: the feed of draws: made, read, changed. -/
namespace Iv
open PySem PySem.Spec L2

section
variable {X : Cx} {P : List Nat} {a e : Expr} {es : List Expr} {pos p p2 p3 p4 p5 p6 p7 p8 : Pos} {x : Str} {i : Nat}
def Fd.at (f : Fd) (c : Int) : Option Int := if c = 1 then some f.i else if c = 2 then some f.j else if c = 3 then some f.k else none
def Fd.put (f : Fd) (c z : Int) : Option Fd := if c = 1 then some { f with i := z } else if c = 2 then some { f with j := z } else if c = 3 then some { f with k := z } else none
def fdOf (i : Nat) (ρ : En) : Option Fd := match ρ[i]? with
  | some (some (.fd f)) => some f
  | _ => none
theorem fdOf_ok {ρ : En} {f : Fd} (h : fdOf i ρ = some f) : ρ[i]? = some (some (.fd f)) := by
  unfold fdOf at h
  split at h
  · cases h; assumption
  · cases h
theorem fd_at {b : Addr} {f : Fd} {c z : Int} (h : f.at c = some z) : L2.atI [V.ref b, .int f.i, .int f.j, .int f.k] c = some (.int z) := by
  unfold Fd.at at h
  split at h
  · cases h; subst c; rfl
  · split at h
    · cases h; subst c; rfl
    · split at h
      · cases h; subst c; rfl
      · cases h
theorem fd_put {b : Addr} {f f' : Fd} {c z : Int} (h : f.put c z = some f') : ∃ k, L2.ixN 4 c = some k ∧ [V.ref b, .int f.i, .int f.j, .int f.k].set k (.int z) = [V.ref b, .int f'.i, .int f'.j, .int f'.k] ∧ f'.ns = f.ns := by
  unfold Fd.put at h
  split at h
  · cases h; subst c; exact ⟨1, rfl, rfl, rfl⟩
  · split at h
    · cases h; subst c; exact ⟨2, rfl, rfl, rfl⟩
    · split at h
      · cases h; subst c; exact ⟨3, rfl, rfl, rfl⟩
      · cases h
/-- feed[c] -/
def dFdc (i : Nat) (c : Int) : Ev := fun ρ => (fdOf i ρ).bind fun f => (f.at c).map fun z => (.m (.p (.int z)), ρ)
def dFdLen (i : Nat) : Ev := fun ρ => (fdOf i ρ).bind fun f => if f.ns.length ≤ sizeLine then some (.m (.p (.int (f.ns.length : Int))), ρ) else none
def dFdAt (i : Nat) (c : Int) : Ev := fun ρ => (fdOf i ρ).bind fun f => (f.at c).bind fun z => (L2.atI f.ns z).map fun y => (.m (.p (.int y)), ρ)
theorem e_fdc {c : Int} {j : Nat} (h : cVar X.N X.env.scope x i = true) : VE X (.Subscript (.Name x p) (.Constant (.int c) j p2) pos) (dFdc i c) := by
  obtain ⟨h1, h2, h3, h4⟩ := cVar_ok h
  refine pe_mono (pe_ix ix_seq (pe_var h1 h2 h3 h4) pe_int (plain_ok rfl)) fun σ H Q ⟨Z, ρ, F, y, ρ2, rs, ed, q⟩ => ?_
  obtain ⟨f, e1, ed⟩ := Option.bind_eq_some_iff.mp ed
  obtain ⟨z, e2, ed⟩ := Option.map_eq_some_iff.mp ed
  cases ed
  obtain ⟨v, ev, a, b, rfl, eA, ha, hb⟩ := rs.rep i _ (fdOf_ok e1)
  exact ⟨_, ev, .inl ⟨a, _, c, .int z, rfl, rfl, SqL.of ha, fd_at e2, q _ Z H F [] (End.p (.int z) rs.refl)⟩⟩
theorem atI_map {ns : List Int} {z y : Int} (h : L2.atI ns z = some y) : L2.atI (ns.map V.int) z = some (.int y) := by
  unfold L2.atI at h ⊢
  rw [List.length_map]
  obtain ⟨k, h1, h2⟩ := Option.bind_eq_some_iff.mp h
  rw [h1]
  show (ns.map V.int)[k]? = _
  rw [List.getElem?_map, h2]; rfl
/-- feed[0][feed[c]] -/
theorem e_fdAt {c : Int} {j j2 : Nat} (h : cVar X.N X.env.scope x i = true) : VE X (.Subscript (.Subscript (.Name x p) (.Constant (.int 0) j p2) p3) (.Subscript (.Name x p4) (.Constant (.int c) j2 p5) p6) pos) (dFdAt i c) := by
  obtain ⟨h1, h2, h3, h4⟩ := cVar_ok h
  refine pe_mono (pe_ix ix_seq (pe_ix ix_seq (pe_var h1 h2 h3 h4) pe_int (plain_ok rfl)) (pe_ix ix_seq (pe_var h1 h2 h3 h4) pe_int (plain_ok rfl)) (plain_ok rfl)) fun σ H Q ⟨Z, ρ, F, y, ρ2, rs, ed, q⟩ => ?_
  obtain ⟨f, e1, ed⟩ := Option.bind_eq_some_iff.mp ed
  obtain ⟨z, e2, ed⟩ := Option.bind_eq_some_iff.mp ed
  obtain ⟨y, e3, ed⟩ := Option.map_eq_some_iff.mp ed
  cases ed
  obtain ⟨v, ev, a, b, rfl, eA, ha, hb⟩ := rs.rep i _ (fdOf_ok e1)
  exact ⟨_, ev, .inl ⟨a, _, 0, .ref b, rfl, rfl, SqL.of ha, rfl, _, ev, .inl ⟨a, _, c, .int z, rfl, rfl, SqL.of ha, fd_at e2, .inl ⟨b, _, z, .int y, rfl, rfl, SqL.of hb, atI_map e3, q _ Z H F [] (End.p (.int y) rs.refl)⟩⟩⟩⟩
/-- len(feed[0]) -/
theorem e_fdLen {j : Nat} (hm : X.mg "len" = none) (h : (cVar X.N X.env.scope x i && isGl X.env.scope "len") = true) : VE X (.Call (.Name "len" p4) [.Subscript (.Name x p) (.Constant (.int 0) j p2) p3] [] pos) (dFdLen i) := by
  simp only [Bool.and_eq_true] at h
  obtain ⟨h1, h2, h3, h4⟩ := cVar_ok h.1
  refine pe_mono (pe_callB call_len (isGl_ok h.2).1 hm boot_b_len (pa_cons (pe_ix ix_seq (pe_var h1 h2 h3 h4) pe_int (plain_ok rfl)) pa_nil (star1 rfl)) (isGl_ok h.2).2.2 (isGl_ok h.2).2.1 rfl rfl) fun σ H Q ⟨Z, ρ, F, y, ρ2, rs, ed, q⟩ => ?_
  obtain ⟨f, e1, ed⟩ := Option.bind_eq_some_iff.mp ed
  split at ed
  · cases ed
    obtain ⟨v, ev, a, b, rfl, eA, ha, hb⟩ := rs.rep i _ (fdOf_ok e1)
    exact ⟨_, ev, .inl ⟨a, _, 0, .ref b, rfl, rfl, SqL.of ha, rfl, .ref b, f.ns.length, rfl, .inl ⟨_, SqL.of hb, by simp⟩, q _ Z H F [] (End.p (.int _) rs.refl)⟩⟩
  · cases ed
/-- the feed's numbers changed -/
theorem fd_mid {K : PySem.W.Frag} {Z H : Hp} {ρ : En} {σ : St} {F : Nat → List Addr} {f f' : Fd} {b a : Addr} (rs : RS K Z H ρ σ F) (hf : ρ[i]? = some (some (.fd f))) (ev : σ[i]? = some (some (.ref a))) (eA : F i = [a, b]) (hb : H b = some (.lst (f.ns.map V.int))) (hns : f'.ns = f.ns) :
    Mid K Z H (Ow F) σ (ρ.set i (some (.fd f'))) Z (upd H a (.lst [V.ref b, .int f'.i, .int f'.j, .int f'.k])) F := by
  have nd := rs.nod i
  rw [eA] at nd
  have ne : b ≠ a := fun z => by rw [z] at nd; simp at nd
  exact rs.mut hf ev (by rw [eA]; simp) ⟨a, b, rfl, eA, upd_same, by rw [upd_ne ne, hb, hns]⟩
def sFdSt (i : Nat) (c : Int) (a : Fv) : Es := fun ρ => (a ρ).bind fun p => match p.1 with
  | .int z => (fdOf i p.2).bind fun f => (f.put c z).map fun f' => (.nx, p.2.set i (some (.fd f')))
  | _ => none
/-- feed[c] = e -/
theorem s_fdSt {d : Fv} {c : Int} {j : Nat} {tpos : Pos} (he : VF X e d) (h : (cVar X.N X.env.scope x i && !isComp e) = true) : VS X P (.Assign [.Subscript (.Name x p) (.Constant (.int c) j p2) tpos] e pos) (sFdSt i c d) := by
  simp only [Bool.and_eq_true, Bool.not_eq_true'] at h
  obtain ⟨h1, h2, h3, h4⟩ := cVar_ok h.1
  refine ps_mono (ps_asg he (pg_sub (pe_var h1 h2 h3 h4) pe_int set_list (asgS_ok rfl)) (soleT h.2) rfl rfl) fun D σ H ⟨Z, ρ, F, f, ρ', rs, ed, q⟩ => ?_
  obtain ⟨⟨d, ρ1⟩, e1, ed⟩ := Option.bind_eq_some_iff.mp ed
  dsimp only at ed
  split at ed
  · rename_i z
    obtain ⟨f, e2, ed⟩ := Option.bind_eq_some_iff.mp ed
    obtain ⟨f', e3, ed⟩ := Option.map_eq_some_iff.mp ed
    cases ed
    refine ⟨Z, ρ, F, _, ρ1, rs, e1, fun v Z1 H1 F1 M1 R1 => ?_⟩
    cases R1
    have e2' := fdOf_ok e2
    obtain ⟨v, ev, a, b, rfl, eA, ha, hb⟩ := M1.rs.rep i _ e2'
    obtain ⟨k, k1, k2, k3⟩ := fd_put (b := b) e3
    exact ⟨_, ev, a, _, c, k, rfl, rfl, ha, k1, by
      rw [k2]
      exact q σ Z1 _ F1 (M1.trans (fd_mid M1.rs e2' ev eA hb k3)) Keep.refl⟩
  · cases ed
def sFdInc (i : Nat) (c n : Int) : Es := fun ρ => (fdOf i ρ).bind fun f => (f.at c).bind fun z => (f.put c (z + n)).map fun f' => (.nx, ρ.set i (some (.fd f')))
/-- feed[c] += n -/
theorem s_fdInc {c n : Int} {j j2 : Nat} {tpos : Pos} (h : cVar X.N X.env.scope x i = true) : VS X P (.AugAssign (.Subscript (.Name x p) (.Constant (.int c) j p2) tpos) .Add (.Constant (.int n) j2 p3) pos) (sFdInc i c n) := by
  obtain ⟨h1, h2, h3, h4⟩ := cVar_ok h
  refine ps_mono (ps_augS (pe_var h1 h2 h3 h4) pe_int pget_list pe_int ip_add set_list (aug_ok rfl)) fun D σ H ⟨Z, ρ, F, f, ρ', rs, ed, q⟩ => ?_
  obtain ⟨f, e1, ed⟩ := Option.bind_eq_some_iff.mp ed
  obtain ⟨z, e2, ed⟩ := Option.bind_eq_some_iff.mp ed
  obtain ⟨f', e3, ed⟩ := Option.map_eq_some_iff.mp ed
  cases ed
  obtain ⟨v, ev, a, b, rfl, eA, ha, hb⟩ := rs.rep i _ (fdOf_ok e1)
  obtain ⟨k, k1, k2, k3⟩ := fd_put (b := b) e3
  exact ⟨_, ev, a, _, c, .int z, rfl, rfl, SqL.of ha, fd_at e2, _, _, rfl, rfl, a, _, c, k, rfl, rfl, ha, k1, by
    rw [k2]
    exact q σ Z _ F (fd_mid rs (fdOf_ok e1) ev eA hb k3) Keep.refl⟩
def dFeed (i : Nat) : Ev := fun ρ => match ρ[i]? with
  | some (some (.scr ns)) => some (.m (.fd ⟨ns, 0, 0, 1⟩), ρ)
  | _ => none
/-- [list(script), 0, 0, 1] -/
theorem e_feed {j1 j2 j3 : Nat} (hm : X.mg "list" = none) (h : (cVar X.N X.env.scope x i && isGl X.env.scope "list") = true) :
    VE X (.List [.Call (.Name "list" p) [.Name x p2] [] p3, .Constant (.int 0) j1 p4, .Constant (.int 0) j2 p5, .Constant (.int 1) j3 p6] pos) (dFeed i) := by
  simp only [Bool.and_eq_true] at h
  obtain ⟨h1, h2, h3, h4⟩ := cVar_ok h.1
  refine pe_mono (pe_lst (pa_cons (pe_callTy call_list_of (isGl_ok h.2).1 hm boot_t_list (pa_cons (pe_var h1 h2 h3 h4) pa_nil (star1 rfl)) (isGl_ok h.2).2.2 (isGl_ok h.2).2.1 rfl rfl) (pa_cons pe_int (pa_cons pe_int (pa_cons pe_int pa_nil rfl) rfl) rfl) rfl)) fun σ H Q ⟨Z, ρ, F, y, ρ2, rs, ed, q⟩ => ?_
  unfold dFeed at ed
  split at ed
  · rename_i ns e
    cases ed
    obtain ⟨v, ev, a, rfl, eA, hs⟩ := rs.rep i _ e
    refine ⟨_, ev, a, _, rfl, .inl (rs.zh.seq hs), fun l hl => ⟨show 4 ≤ sizeLine by decide, fun t ht => ?_⟩⟩
    have hlt : t ≠ l := fun z => by rw [z, upd_same] at ht; cases ht
    have ht' : H t = none := by rw [upd_ne hlt] at ht; exact ht
    refine q _ Z _ F [t, l] (Res.fin ⟨⟨t, l, rfl, rfl, upd_same, ?_⟩, by simp [hlt], Same.refl _, ?_, Same.upd_r (Same.upd_r rs.zh hl) ht, fun c hc => ?_, fun c hc => .inl hc⟩ rs)
    · rw [upd_ne (Ne.symm hlt), upd_same]
    · intro c o ec
      have c1 : c ≠ l := ne_of_none ec hl
      have c2 : c ≠ t := ne_of_none ec ht'
      rw [upd_ne c2, upd_ne c1]; exact ec
    · have hc' : c = t ∨ c = l := by simpa using hc
      rcases hc' with rfl | rfl
      · exact ⟨ht', Same.none rs.zh ht'⟩
      · exact ⟨hl, Same.none rs.zh hl⟩
  · cases ed
end
end Iv

set_option Elab.async false
set_option linter.all false
set_option maxRecDepth 100000
/-! Iv, part 13: a def that calls itself, the law's own def. -/
namespace Iv
open PySem PySem.Spec L2
section
variable {P : Program} {w : World} {K : PySem.W.Frag} {mg : Str → Option Value} {base : Heap} {k : Nat} {f : Addr} {fd : FuncData} {name qual : Str} {params : Arguments} {body : List Stmt} {scope : Scope} {N ps : List Str} {Pr : List Nat} {d : Es}
/-- no promise at all -/
theorem fn_none {n : Nat} (F : FunD K name qual params body scope [] [] f fd) (hm : mg name = some (.ref f)) (ps : List Str) (hbi : ∀ (kV doc pm : Value) (an : Option Addr) (cdv ct : Value) (us : List Value), us.length = ps.length → bindArgs (PySem.W.fnOf name qual params body scope .none kV doc pm an cdv ct) ⟨us, []⟩ = pure (ps.zip us)) :
    FnG P w K mg base name k n (fun _ => none) :=
  ⟨f, fd, ps, ⟨fun vs H Q E h => (spF_none h).elim, fun A outer s H args us vs Q E hr e0 hb r hsp => (spF_none hsp).elim⟩, hm, F.kp, F.bindsN hbi⟩
theorem fn_okL (F : FunD K name qual params body scope [] [] f fd) (S : FnScope N ps scope) (hPr : ∀ i ∈ Pr, i < ps.length)
    (hb : ∀ (A : Around) (s_0 : Shared) (H_0 : Hp) (env : Env) (outer stack : List Env) (ex : List Addr) (pn : List (Addr × Obj)), Room k A → VB (mkX P w K mg base A N s_0 H_0 env scope outer stack ex pn) Pr body d) : FnOk P w K mg base CX0 (k + 1) f fd ps (spF K ps.length (fnD ps.length N.length Pr d)) := by
  obtain ⟨oc, od, dV, kV, doc, pm, an, cdv, ct, osl, rfl, lk, hcd, _, _⟩ := F.ex
  refine fn_okD lk hcd S hPr fun X h1 h2 h3 h4 h5 h6 h7 h8 h9 h10 hr => ?_
  obtain ⟨prog, w', K', mg', base', A, N', s_0, H_0, env, outer, stack, ex, fn, calm, pn, xe⟩ := X
  cases h1; cases h2; cases h3; cases h4; cases h5; cases h6; cases h8; cases h9
  have e : fn = fun _ => true := funext h10
  subst e
  have q := hb A s_0 H_0 env outer stack ex pn hr
  cases env
  cases h7
  exact q
theorem spF_law {F_law : Sem1} {H : Hp} {a : Addr} {ns : List Int} (hS : SqL K H a (ns.map V.int)) (h : ∃ o, F_law [.scr ns] = some (.p (.bool true), o)) : spF K 1 F_law [.ref a] H (fun v _ => v = .bl true) fun _ _ _ => False := by
  obtain ⟨o, h⟩ := h
  refine ⟨rfl, H, [.scr ns], fun _ => [], _, o, ⟨rfl, Same.refl _, fun i m e => ?_, fun i e => rfl, (fun i j a h => by cases h), fun i => List.nodup_nil, (fun i a h => by cases h)⟩, h, fun v Z' H' F' A E => bl_rm E.rx.1⟩
  cases i with
  | zero => simp at e; subst e; exact ⟨_, rfl, a, rfl, rfl, hS⟩
  | succ i => simp at e
end
end Iv

set_option Elab.async false
set_option linter.all false
set_option maxRecDepth 100000
/-! Pl, part 1: plain runs of the calculus: what each form does on a written environment. -/
namespace Iv
open PySem PySem.Spec L2

theorem nr {α : Type} {a b : α} (h : a = b) : a = b := h
/-- a length (behind a choice: the kernel is not to compute it) -/
theorem sOk_ex : ∃ f : Nat → Bool, ∀ n, f n = true ↔ n ≤ sizeLine := ⟨fun n => decide (n ≤ sizeLine), fun _ => decide_eq_true_iff⟩
noncomputable def sOk : Nat → Bool := Classical.choose sOk_ex
theorem sOk_iff (n : Nat) : sOk n = true ↔ n ≤ sizeLine := Classical.choose_spec sOk_ex n
theorem sOk_of {n : Nat} (h : n ≤ 100000) : sOk n = true := (sOk_iff n).mpr (Nat.le_trans h (by decide))
theorem sOk_le {n m : Nat} (h : n ≤ m) (k : sOk m = true) : sOk n = true := (sOk_iff n).mpr (Nat.le_trans h ((sOk_iff m).mp k))
@[simp] theorem sOk_0 : sOk 0 = true := sOk_of (by decide)
@[simp] theorem sOk_1 : sOk 1 = true := sOk_of (by decide)
@[simp] theorem sOk_2 : sOk 2 = true := sOk_of (by decide)
@[simp] theorem sOk_3 : sOk 3 = true := sOk_of (by decide)
@[simp] theorem sOk_4 : sOk 4 = true := sOk_of (by decide)
@[simp] theorem sOk_5 : sOk 5 = true := sOk_of (by decide)
@[simp] theorem sOk_6 : sOk 6 = true := sOk_of (by decide)
@[simp] theorem sOk_7 : sOk 7 = true := sOk_of (by decide)
@[simp] theorem sOk_8 : sOk 8 = true := sOk_of (by decide)
theorem if_sOk {α : Type} {n : Nat} {a b : α} : (if n ≤ sizeLine then a else b) = if sOk n = true then a else b := by
  by_cases h : n ≤ sizeLine
  · rw [if_pos h, if_pos ((sOk_iff n).mpr h)]
  · rw [if_neg h, if_neg fun z => h ((sOk_iff n).mp z)]
/-- a range's end -/
theorem rOk_ex : ∃ f : Int → Bool, ∀ j, f j = true ↔ -(2 ^ 62) ≤ j ∧ j < 2 ^ 62 := ⟨fun j => decide (-(2 ^ 62) ≤ j ∧ j < 2 ^ 62), fun _ => decide_eq_true_iff⟩
noncomputable def rOk : Int → Bool := Classical.choose rOk_ex
theorem rOk_iff (j : Int) : rOk j = true ↔ -(2 ^ 62) ≤ j ∧ j < 2 ^ 62 := Classical.choose_spec rOk_ex j
@[simp] theorem rOk_0 : rOk 0 = true := (rOk_iff 0).mpr (by decide)
@[simp] theorem rOk_1 : rOk 1 = true := (rOk_iff 1).mpr (by decide)
theorem rOk_nat {n : Nat} (h : n ≤ 100000) : rOk (n : Int) = true := (rOk_iff _).mpr (by omega)
theorem rOk_int {n : Int} (h : 0 ≤ n) (h2 : n ≤ 100000) : rOk n = true := (rOk_iff _).mpr (by omega)
@[simp] theorem z_range1 : List.range 1 = [0] := rfl
@[simp] theorem z_range2 : List.range 2 = [0, 1] := rfl
@[simp] theorem z_range3 : List.range 3 = [0, 1, 2] := rfl
@[simp] theorem z_range4 : List.range 4 = [0, 1, 2, 3] := rfl
@[simp] theorem z_range5 : List.range 5 = [0, 1, 2, 3, 4] := rfl
@[simp] theorem z_range6 : List.range 6 = [0, 1, 2, 3, 4, 5] := rfl
section
variable {ρ ρ' : En} {d : D} {i j : Nat} {m : M}
@[simp] theorem z_dC : dC d ρ = some (.m (.p d), ρ) := nr rfl
@[simp] theorem z_dVar : dVar i ρ = match ρ[i]? with
  | some (some (.p d)) => some (.m (.p d), ρ)
  | some (some _) => some (.r i, ρ)
  | _ => none := nr rfl
@[simp] theorem z_dBin {g : M → M → Option M} {a b : Ev} : dBin g a b ρ = ((a ρ).bind fun p => (b p.2).bind fun q => (p.1.res q.2).bind fun x => (q.1.res q.2).bind fun y => (g x y).bind fun z => some (.m z, q.2)) := nr rfl
@[simp] theorem z_dUn {g : M → Option M} {a : Ev} : dUn g a ρ = ((a ρ).bind fun p => (p.1.res p.2).bind fun x => (g x).bind fun z => some (.m z, p.2)) := nr rfl
@[simp] theorem z_dF {a : Ev} : dF a ρ = ((a ρ).bind fun p => (p.1.res p.2).bind fun m => some (m.dat, p.1.frz p.2)) := nr rfl
@[simp] theorem z_dT {a : Ev} : dT a ρ = ((a ρ).bind fun p => (p.1.res p.2).bind fun x => (gBl x).bind fun b => some (b, p.2)) := nr rfl
@[simp] theorem z_dNotT {a : Et} : dNotT a ρ = ((a ρ).bind fun p => some (!p.1, p.2)) := nr rfl
@[simp] theorem z_dAndT {a b : Et} : dAndT a b ρ = ((a ρ).bind fun p => if p.1 = true then b p.2 else some (false, p.2)) := nr rfl
@[simp] theorem z_dOrT {a b : Et} : dOrT a b ρ = ((a ρ).bind fun p => if p.1 = true then some (true, p.2) else b p.2) := nr rfl
@[simp] theorem z_dBl {a : Et} : dBl a ρ = ((a ρ).bind fun p => some (.m (.p (.bool p.1)), p.2)) := nr rfl
@[simp] theorem z_dAnd {a b : Ev} : dAnd a b ρ = ((dT a ρ).bind fun p => if p.1 = true then b p.2 else some (.m (.p (.bool false)), p.2)) := nr rfl
@[simp] theorem z_dOr {a b : Ev} : dOr a b ρ = ((dT a ρ).bind fun p => if p.1 = true then some (.m (.p (.bool true)), p.2) else b p.2) := nr rfl
@[simp] theorem z_dNot {a : Ev} : dNot a ρ = dBl (dNotT (dT a)) ρ := nr rfl
@[simp] theorem z_dIfE {t : Et} {a b : Ev} : dIfE t a b ρ = ((t ρ).bind fun p => if p.1 = true then a p.2 else b p.2) := nr rfl
@[simp] theorem z_dYes : dYes ρ = some (true, ρ) := nr rfl
@[simp] theorem z_dChain {g g' : M → M → Option M} {a b c : Ev} : dChain g g' a b c ρ = ((a ρ).bind fun p => (b p.2).bind fun q => (p.1.res q.2).bind fun x => (q.1.res q.2).bind fun y => (g x y).bind fun z => match z with
  | .p (.bool true) => (c q.2).bind fun r => (q.1.res r.2).bind fun y' => (r.1.res r.2).bind fun w => (g' y' w).bind fun u => some (.m u, r.2)
  | .p (.bool false) => some (.m (.p (.bool false)), q.2)
  | _ => none) := nr rfl
@[simp] theorem z_gBl {b : Bool} : gBl (.p (.bool b)) = some b := nr rfl
/- results -/
@[simp] theorem z_res_p : X.res (.m (.p d)) ρ = some (.p d) := nr rfl
@[simp] theorem z_res_l {ds : List D} : X.res (.m (.lst ds)) ρ = some (.lst ds) := nr rfl
@[simp] theorem z_res_t {cs : List C} : X.res (.m (.tup cs)) ρ = some (.tup cs) := nr rfl
@[simp] theorem z_res_r : X.res (.r j) ρ = match ρ[j]? with
  | some (some q) => if q.ok = true then some q else none
  | _ => none := nr rfl
@[simp] theorem z_res_rc : X.res (.rc i j) ρ = match ρ[i]? with
    | some (some (.tup cs)) => match cs[j]? with
      | some (.p d) => some (.p d)
      | some (.l ds) => some (.lst ds)
      | none => none
    | some (some (.p (.tuple ds))) => match ds[j]? with
      | some d => some (.p d)
      | none => none
    | _ => none := nr rfl
@[simp] theorem z_ok_p : M.ok (.p d) = true := nr rfl
@[simp] theorem z_ok_l {ds : List D} : M.ok (.lst ds) = true := nr rfl
@[simp] theorem z_ok_t {cs : List C} : M.ok (.tup cs) = true := nr rfl
@[simp] theorem z_dat_p : M.dat (.p d) = d := nr rfl
@[simp] theorem z_dat_l {ds : List D} : M.dat (.lst ds) = .list ds := nr rfl
@[simp] theorem z_dat_t {cs : List C} : M.dat (.tup cs) = .tuple (cs.map C.dat) := nr rfl
@[simp] theorem z_cdat_p : C.dat (.p d) = d := nr rfl
@[simp] theorem z_cdat_l {ds : List D} : C.dat (.l ds) = .list ds := nr rfl
@[simp] theorem z_frz_m : X.frz (.m m) ρ = ρ := nr rfl
@[simp] theorem z_frz_r : X.frz (.r j) ρ = match ρ[j]? with
  | some (some m) => if m.ok = true then ρ.set j (some (.p m.dat)) else ρ
  | _ => ρ := nr rfl
@[simp] theorem z_frz_rc : X.frz (.rc j i) ρ = match ρ[j]? with
  | some (some m) => if m.ok = true then ρ.set j (some (.p m.dat)) else ρ
  | _ => ρ := nr rfl
@[simp] theorem z_tk_m : X.tk (.m m) ρ = some (m, ρ) := nr rfl
@[simp] theorem z_tk_r : X.tk (.r j) ρ = (X.res (.r j) ρ).map fun m => (.p m.dat, X.frz (.r j) ρ) := nr rfl
@[simp] theorem z_tk_rc : X.tk (.rc j i) ρ = (X.res (.rc j i) ρ).map fun m => (.p m.dat, X.frz (.rc j i) ρ) := nr rfl
@[simp] theorem z_mv_m {P : List Nat} : X.mv P (.m m) ρ = some (m, ρ) := nr rfl
@[simp] theorem z_mv_r {P : List Nat} : X.mv P (.r j) ρ = if j ∈ P then X.tk (.r j) ρ else (X.res (.r j) ρ).map fun m => (m, ρ.set j none) := nr rfl
@[simp] theorem z_mv_rc {P : List Nat} : X.mv P (.rc j i) ρ = X.tk (.rc j i) ρ := nr rfl
/- operators on ints -/
@[simp] theorem z_gII {c : Int → Int → Bool} {f : Int → Int → D} {a b : Int} : gII c f (.p (.int a)) (.p (.int b)) = if c a b = true then some (.p (f a b)) else none := nr rfl
@[simp] theorem z_gAdd {a b : Int} : gAdd (.p (.int a)) (.p (.int b)) = some (.p (.int (a + b))) := nr rfl
@[simp] theorem z_gSub {a b : Int} : gSub (.p (.int a)) (.p (.int b)) = some (.p (.int (a - b))) := by simp [gSub]
@[simp] theorem z_gMul {a b : Int} : gMul (.p (.int a)) (.p (.int b)) = if cMul a b = true then some (.p (.int (a * b))) else none := nr rfl
@[simp] theorem z_gDiv {a b : Int} : gDiv (.p (.int a)) (.p (.int b)) = if cDiv a b = true then some (.p (.int (a / b))) else none := nr rfl
@[simp] theorem z_gMod {a b : Int} : gMod (.p (.int a)) (.p (.int b)) = if 0 < b then some (.p (.int (a % b))) else none := by simp [gMod]
@[simp] theorem z_gPow {a b : Int} : gPow (.p (.int a)) (.p (.int b)) = if cPow a b = true then some (.p (.int (a ^ b.toNat))) else none := nr rfl
@[simp] theorem z_gLt {a b : Int} : gLt (.p (.int a)) (.p (.int b)) = some (.p (.bool (decide (a < b)))) := by simp [gLt]
@[simp] theorem z_gLe {a b : Int} : gLe (.p (.int a)) (.p (.int b)) = some (.p (.bool (decide (a ≤ b)))) := by simp [gLe]
@[simp] theorem z_gGt {a b : Int} : gGt (.p (.int a)) (.p (.int b)) = some (.p (.bool (decide (b < a)))) := by simp [gGt]
@[simp] theorem z_gGe {a b : Int} : gGe (.p (.int a)) (.p (.int b)) = some (.p (.bool (decide (b ≤ a)))) := by simp [gGe]
@[simp] theorem z_gEq {a b : Int} : gEq (.p (.int a)) (.p (.int b)) = some (.p (.bool (decide (a = b)))) := nr rfl
@[simp] theorem z_gNe {a b : Int} : gNe (.p (.int a)) (.p (.int b)) = some (.p (.bool (!decide (a = b)))) := nr rfl
@[simp] theorem z_gEqB {a b : Bool} : gEq (.p (.bool a)) (.p (.bool b)) = some (.p (.bool (decide (a = b)))) := nr rfl
@[simp] theorem z_gNeB {a b : Bool} : gNe (.p (.bool a)) (.p (.bool b)) = some (.p (.bool (!decide (a = b)))) := nr rfl
@[simp] theorem z_gIsB {a b : Bool} : gIs (.p (.bool a)) (.p (.bool b)) = some (.p (.bool (decide (a = b)))) := nr rfl
@[simp] theorem z_gIsNB {a b : Bool} : gIsN (.p (.bool a)) (.p (.bool b)) = some (.p (.bool (!decide (a = b)))) := nr rfl
@[simp] theorem z_gIs0 {a : D} : gIs (.p a) (.p .none) = some (.p (.bool (match a with
  | .none => true
  | _ => false))) := by cases a <;> rfl
@[simp] theorem z_gIsN0 {a : D} : gIsN (.p a) (.p .none) = some (.p (.bool (!(match a with
  | .none => true
  | _ => false)))) := by cases a <;> rfl
@[simp] theorem z_gNeg {a : Int} : gNeg (.p (.int a)) = some (.p (.int (-a))) := nr rfl
@[simp] theorem z_gInt {a : Int} : gInt (.p (.int a)) = some (.p (.int a)) := nr rfl
@[simp] theorem z_gInt1 {f : Int → D} {a : Int} : gInt1 f (.p (.int a)) = some (.p (f a)) := nr rfl
@[simp] theorem z_max2 {a b : Int} : gMax2 (.p (.int a)) (.p (.int b)) = some (.p (.int (if b > a then b else a))) := by simp [gMax2]
@[simp] theorem z_min2 {a b : Int} : gMin2 (.p (.int a)) (.p (.int b)) = some (.p (.int (if b < a then b else a))) := by simp [gMin2]
/- lists -/
@[simp] theorem z_gAdd_pl {xs ys : List D} : gAdd (.p (.list xs)) (.lst ys) = if sOk (xs.length + ys.length) = true then some (.lst (xs ++ ys)) else none := by
  rw [← if_sOk]; exact nr rfl
@[simp] theorem z_gAdd_pp {xs ys : List D} : gAdd (.p (.list xs)) (.p (.list ys)) = if sOk (xs.length + ys.length) = true then some (.lst (xs ++ ys)) else none := by
  rw [← if_sOk]; exact nr rfl
@[simp] theorem z_gAdd_lp {xs ys : List D} : gAdd (.lst xs) (.p (.list ys)) = if sOk (xs.length + ys.length) = true then some (.lst (xs ++ ys)) else none := by
  rw [← if_sOk]; exact nr rfl
@[simp] theorem z_gAdd_ll {xs ys : List D} : gAdd (.lst xs) (.lst ys) = if sOk (xs.length + ys.length) = true then some (.lst (xs ++ ys)) else none := by
  rw [← if_sOk]; exact nr rfl
@[simp] theorem z_ls_p {ds : List D} : M.ls (.p (.list ds)) = some ds := nr rfl
@[simp] theorem z_ls_l {ds : List D} : M.ls (.lst ds) = some ds := nr rfl
@[simp] theorem z_its_p {ds : List D} : M.its (.p (.list ds)) = some ds := nr rfl
@[simp] theorem z_its_t {ds : List D} : M.its (.p (.tuple ds)) = some ds := nr rfl
@[simp] theorem z_its_l {ds : List D} : M.its (.lst ds) = some ds := nr rfl
@[simp] theorem z_gList_p {ds : List D} : gList (.p (.list ds)) = some (.lst ds) := nr rfl
@[simp] theorem z_gList_l {ds : List D} : gList (.lst ds) = some (.lst ds) := nr rfl
@[simp] theorem z_gList_t {ds : List D} : gList (.p (.tuple ds)) = some (.lst ds) := nr rfl
@[simp] theorem z_isI {T : String} : gIsI T m = (isTy T m.dat).map fun b => .p (.bool b) := nr rfl
@[simp] theorem z_isTy_int : isTy "int" d = some (match d with
  | .int _ => true
  | .bool _ => true
  | _ => false) := by cases d <;> rfl
@[simp] theorem z_isTy_bool : isTy "bool" d = some (match d with
  | .bool _ => true
  | _ => false) := by cases d <;> rfl
@[simp] theorem z_isTy_str : isTy "str" d = some (match d with
  | .str _ => true
  | _ => false) := by cases d <;> rfl
@[simp] theorem z_isTy_list : isTy "list" d = some (match d with
  | .list _ => true
  | _ => false) := by cases d <;> rfl
@[simp] theorem z_isTy_tuple : isTy "tuple" d = some (match d with
  | .tuple _ => true
  | _ => false) := by cases d <;> rfl
@[simp] theorem z_dIx {a b : Ev} : dIx a b ρ = ((a ρ).bind fun p => (b p.2).bind fun q => (p.1.res q.2).bind fun m => (q.1.res q.2).bind fun k => match k with
  | .p (.int i) => (ixX p.1 m i).map fun x => (x, q.2)
  | _ => none) := nr rfl
@[simp] theorem z_ix_p {x : X} {ds : List D} {k : Int} : ixX x (.p (.list ds)) k = (L2.atI ds k).map fun d => .m (.p d) := nr rfl
@[simp] theorem z_ix_t {x : X} {ds : List D} {k : Int} : ixX x (.p (.tuple ds)) k = (L2.atI ds k).map fun d => .m (.p d) := nr rfl
@[simp] theorem z_ix_l {x : X} {ds : List D} {k : Int} : ixX x (.lst ds) k = (L2.atI ds k).map fun d => .m (.p d) := nr rfl
@[simp] theorem z_dSl {a : Ev} {lo hi : Ov} : dSl a lo hi ρ = ((a ρ).bind fun p => (lo p.2).bind fun l => (hi l.2).bind fun h => (p.1.res h.2).bind fun m => (gSl l.1 h.1 m).map fun z => (.m z, h.2)) := nr rfl
@[simp] theorem z_dNo : dNo ρ = some (none, ρ) := nr rfl
@[simp] theorem z_dPt {a : Ev} : dPt a ρ = ((a ρ).bind fun p => (p.1.res p.2).bind fun m => match m with
  | .p (.int i) => some (some i, p.2)
  | _ => none) := nr rfl
@[simp] theorem z_gSl_p {lo hi : Option Int} {ds : List D} : gSl lo hi (.p (.list ds)) = some (.lst (cut ds lo hi)) := nr rfl
@[simp] theorem z_gSl_l {lo hi : Option Int} {ds : List D} : gSl lo hi (.lst ds) = some (.lst (cut ds lo hi)) := nr rfl
@[simp] theorem z_dNil : dNil ρ = some ([], ρ) := nr rfl
@[simp] theorem z_dCons {a : Fv} {r : Lv} : dCons a r ρ = ((a ρ).bind fun p => (r p.2).bind fun q => some (p.1 :: q.1, q.2)) := nr rfl
@[simp] theorem z_dLst {r : Lv} : dLst r ρ = ((r ρ).bind fun p => if sOk p.1.length = true then some (.m (.lst p.1), p.2) else none) := by simp only [dLst, if_sOk]
@[simp] theorem z_dTup {r : Lv} : dTup r ρ = ((r ρ).bind fun p => if sOk p.1.length = true then some (.m (.p (.tuple p.1)), p.2) else none) := by simp only [dTup, if_sOk]
@[simp] theorem z_clNil : clNil ρ = some ([], ρ) := nr rfl
@[simp] theorem z_clCons {a : Cv} {r : Clv} : clCons a r ρ = ((a ρ).bind fun p => (r p.2).bind fun q => some (p.1 :: q.1, q.2)) := nr rfl
@[simp] theorem z_cF {a : Fv} : cF a ρ = ((a ρ).map fun p => (.p p.1, p.2)) := nr rfl
@[simp] theorem z_dTupK {r : Clv} : dTupK r ρ = ((r ρ).bind fun p => if sOk p.1.length = true then some (.m (.tup p.1), p.2) else none) := by simp only [dTupK, if_sOk]
/- statements -/
@[simp] theorem z_sNx : sNx ρ = some (.nx, ρ) := nr rfl
@[simp] theorem z_sBk : sBk ρ = some (.bk, ρ) := nr rfl
@[simp] theorem z_sCt : sCt ρ = some (.ct, ρ) := nr rfl
@[simp] theorem z_sExpr {a : Ev} : sExpr a ρ = ((a ρ).map fun p => (.nx, p.2)) := nr rfl
@[simp] theorem z_sIf {c : Et} {a b : Es} : sIf c a b ρ = ((c ρ).bind fun p => if p.1 = true then a p.2 else b p.2) := nr rfl
@[simp] theorem z_sAsg {a : Ev} {g : Gv} : sAsg a g ρ = ((a ρ).bind fun p => (p.1.tk p.2).bind fun q => (g q.1 q.2).map fun ρ' => (.nx, ρ')) := nr rfl
@[simp] theorem z_sRet {P : List Nat} {a : Ev} : sRet P a ρ = ((a ρ).bind fun p => (p.1.mv P p.2).map fun q => (.rt q.1, q.2)) := nr rfl
@[simp] theorem z_sRetN : sRetN ρ = some (.rt (.p .none), ρ) := nr rfl
@[simp] theorem z_gSet : gSet i m ρ = some (ρ.set i (some m)) := nr rfl
@[simp] theorem z_sSeq {a b : Es} : sSeq a b ρ = ((a ρ).bind fun p => match p.1 with
  | .nx => b p.2
  | f => some (f, p.2)) := nr rfl
@[simp] theorem z_sFor {it : Itv'} {g : Gv} {b : Es} : sFor it g b ρ = ((it ρ).bind fun p => forL g b p.1 p.2) := nr rfl
@[simp] theorem z_dLc {it : Itv'} {g : Gv} {c : Et} {e : Fv} {own : List Nat} : dLc it g c e own ρ = ((it ρ).bind fun p => (lcL g c e own p.1 (wipeE own p.2)).bind fun r => if sOk r.1.length = true then some (.m (.lst r.1), backE own p.2 r.2) else none) := by simp only [dLc, if_sOk]
@[simp] theorem z_wipe0 : wipeE [] ρ = ρ := nr rfl
@[simp] theorem z_wipe1 {own : List Nat} : wipeE (i :: own) ρ = wipeE own (ρ.set i none) := nr rfl
@[simp] theorem z_back0 : backE [] ρ ρ' = ρ' := nr rfl
@[simp] theorem z_back1 {own : List Nat} : backE (i :: own) ρ ρ' = backE own ρ (ρ'.set i ((ρ[i]?).join)) := nr rfl
@[simp] theorem z_mut {f : List D → List D → Option (List D × D)} {o : Ev} {as : Lv} : dMut f o as ρ = ((o ρ).bind fun p => (p.1.res p.2).bind fun m => if m.ls.isSome = true then (as p.2).bind fun q => (p.1.upd (f q.1) q.2).map fun z => (.m (.p z.1), z.2) else none) := nr rfl
@[simp] theorem z_upd_r {α : Type} {f : List D → Option (List D × α)} : X.upd f (.r i) ρ = match ρ[i]? with
    | some (some (.lst ds)) => (f ds).map fun p => (p.2, ρ.set i (some (.lst p.1)))
    | _ => none := nr rfl
@[simp] theorem z_upd_rc {α : Type} {f : List D → Option (List D × α)} : X.upd f (.rc i j) ρ = match ρ[i]? with
    | some (some (.tup cs)) => match cs[j]? with
      | some (.l ds) => (f ds).map fun p => (p.2, ρ.set i (some (.tup (cs.set j (.l p.1)))))
      | _ => none
    | _ => none := nr rfl
@[simp] theorem z_app {ds : List D} : fApp [d] ds = if sOk (ds.length + 1) = true then some (ds ++ [d], .none) else none := by
  rw [← if_sOk]; exact nr rfl
/- iterables -/
@[simp] theorem z_dIt {a : Fv} : dIt a ρ = ((a ρ).bind fun p => match p.1 with
  | .list ds => some (ds, p.2)
  | .tuple ds => some (ds, p.2)
  | .str s => some (s.cps.toList.map fun c => .str ⟨#[c]⟩, p.2)
  | _ => none) := by unfold dIt; first | rfl | (congr 1; funext p; cases p.1 <;> rfl)
@[simp] theorem z_rng1 {a : Fv} : dRng1 a ρ = ((a ρ).bind fun p => match p.1 with
  | .int j => if rOk j = true then some (rngD 0 1 j.toNat, p.2) else none
  | _ => none) := by
  unfold dRng1
  congr 1
  funext p
  cases p.1 with
  | int j =>
    dsimp only
    by_cases h : rOk j = true
    · rw [if_pos h, if_pos ((rOk_iff _).mp h)]
    · rw [if_neg h, if_neg fun z => h ((rOk_iff _).mpr z)]
  | _ => rfl
@[simp] theorem z_rng2 {a b : Fv} : dRng2 a b ρ = ((a ρ).bind fun p => (b p.2).bind fun q => match p.1, q.1 with
  | .int i, .int j => if rOk i = true ∧ rOk j = true then some (rngD i 1 (j - i).toNat, q.2) else none
  | _, _ => none) := by
  unfold dRng2
  congr 1
  funext p
  congr 1
  funext q
  cases p.1 with
  | int i => cases q.1 with
    | int j =>
      dsimp only
      by_cases h : rOk i = true ∧ rOk j = true
      · rw [if_pos h, if_pos ⟨((rOk_iff _).mp h.1).1, ((rOk_iff _).mp h.1).2, (rOk_iff _).mp h.2⟩]
      · rw [if_neg h, if_neg fun z => h ⟨(rOk_iff _).mpr ⟨z.1, z.2.1⟩, (rOk_iff _).mpr z.2.2⟩]
    | _ => rfl
  | _ => rfl
@[simp] theorem z_enum {a : Fv} : dEnum a ρ = ((a ρ).bind fun p => match p.1 with
  | .list ds => some (enumD ds, p.2)
  | _ => none) := by unfold dEnum; first | rfl | (congr 1; funext p; cases p.1 <;> rfl)
@[simp] theorem z_zip {a b : Fv} : dZip a b ρ = ((a ρ).bind fun p => (b p.2).bind fun q => match p.1, q.1 with
  | .list xs, .list ys => some (zipD xs ys, q.2)
  | _, _ => none) := by unfold dZip; first | rfl | (congr 1)
/- targets -/
@[simp] theorem z_gcNil : gcNil [] ρ = some ρ := nr rfl
/- calls -/
@[simp] theorem z_agv0 : agv [] ρ = some ([], ρ) := nr rfl
@[simp] theorem z_agvE {a : Fv} {as : List Ag} : agv (.ex a :: as) ρ = ((a ρ).bind fun p => (agv as p.2).bind fun q => some (some p.1 :: q.1, q.2)) := nr rfl
@[simp] theorem z_agvI {as : List Ag} : agv (.io i :: as) ρ = match ρ[i]? with
    | some (some _) => (agv as ρ).bind fun q => some (none :: q.1, q.2)
    | _ => none := nr rfl
@[simp] theorem z_agvV {as : List Ag} : agv (.var i :: as) ρ = match ρ[i]? with
    | some (some _) => (agv as ρ).bind fun q => some (none :: q.1, q.2)
    | _ => none := nr rfl
@[simp] theorem z_agvP {a : Ev} {as : List Ag} : agv (.pt i j a :: as) ρ = ((a ρ).bind fun p => match p.1 with
    | .rc k l => if k = i ∧ l = j then (agv as p.2).bind fun q => some (none :: q.1, q.2) else none
    | .m (.p e) => (agv as p.2).bind fun q => some (some e :: q.1, q.2)
    | _ => none) := nr rfl
@[simp] theorem z_asm0 : asm ρ [] [] = some [] := nr rfl
@[simp] theorem z_asm1 {a : Ag} {x : Option D} {as : List Ag} {xs : List (Option D)} : asm ρ (a :: as) (x :: xs) = ((asm1 ρ a x).bind fun m => (asm ρ as xs).bind fun ms => some (m :: ms)) := nr rfl
@[simp] theorem z_as1E {a : Fv} : asm1 ρ (.ex a) (some d) = some (.p d) := nr rfl
@[simp] theorem z_as1I : asm1 ρ (.io i) none = match ρ[i]? with
    | some (some m) => some m
    | _ => none := nr rfl
@[simp] theorem z_as1V : asm1 ρ (.var i) none = match ρ[i]? with
    | some (some (.fd _)) => none
    | some (some m) => some (lend m)
    | _ => none := nr rfl
@[simp] theorem z_as1P {a : Ev} : asm1 ρ (.pt i j a) none = (X.res (.rc i j) ρ).map fun m => .p m.dat := nr rfl
@[simp] theorem z_as1Q {a : Ev} : asm1 ρ (.pt i j a) (some d) = some (.p d) := nr rfl
@[simp] theorem z_lendS {ns : List Int} : lend (.scr ns) = .scr ns := nr rfl
@[simp] theorem z_lendP : lend (.p d) = .p d := nr rfl
@[simp] theorem z_lendL {ds : List D} : lend (.lst ds) = .p (.list ds) := nr rfl
@[simp] theorem z_lendT {cs : List C} : lend (.tup cs) = .p (.tuple (cs.map C.dat)) := nr rfl
@[simp] theorem z_put0 {os : En} : putO [] os ρ = ρ := by cases os <;> rfl
@[simp] theorem z_putI {as : List Ag} {o : Option M} {os : En} : putO (.io i :: as) (o :: os) ρ = putO as os (ρ.set i o) := nr rfl
@[simp] theorem z_putV {as : List Ag} {o : Option M} {os : En} : putO (.var i :: as) (o :: os) ρ = putO as os ρ := nr rfl
@[simp] theorem z_putE {a : Fv} {as : List Ag} {o : Option M} {os : En} : putO (.ex a :: as) (o :: os) ρ = putO as os ρ := nr rfl
@[simp] theorem z_putP {a : Ev} {as : List Ag} {o : Option M} {os : En} : putO (.pt i j a :: as) (o :: os) ρ = putO as os ρ := nr rfl
@[simp] theorem z_call {f : Sem1} {as : List Ag} : dCall f as ρ = ((agv as ρ).bind fun p => (asm p.2 as p.1).bind fun ms => (f ms).bind fun r =>
  if iosOk as = true ∧ (as.all (freeV p.2) = true ∨ (pureM r.1 = true ∧ r.2.all (fun o => match o with
    | some m => pureM m
    | none => true) = true)) then some (.m r.1, putO as r.2 p.2) else none) := nr rfl
@[simp] theorem z_ios0 : iosOk [] = true := nr rfl
@[simp] theorem z_iosE {a : Fv} {as : List Ag} : iosOk (.ex a :: as) = iosOk as := nr rfl
@[simp] theorem z_iosP {a : Ev} {as : List Ag} : iosOk (.pt i j a :: as) = (as.all (fun b => match b with
    | .io j => i != j
    | _ => true) && iosOk as) := nr rfl
@[simp] theorem z_iosV {as : List Ag} : iosOk (.var i :: as) = (as.all (fun b => match b with
    | .io j => i != j
    | _ => true) && iosOk as) := nr rfl
@[simp] theorem z_iosI {as : List Ag} : iosOk (.io i :: as) = (as.all (fun b => match b with
    | .io j => i != j
    | .var j => i != j
    | .pt j _ _ => i != j
    | _ => true) && iosOk as) := nr rfl
@[simp] theorem z_freeE {a : Fv} : freeV ρ (.ex a) = true := nr rfl
@[simp] theorem z_freeI : freeV ρ (.io i) = true := nr rfl
@[simp] theorem z_freeV : freeV ρ (.var i) = match ρ[i]? with
    | some (some (.p _)) => true
    | some (some (.scr _)) => true
    | _ => false := nr rfl
@[simp] theorem z_freeP {a : Ev} : freeV ρ (.pt i j a) = match ρ[i]? with
    | some (some (.p _)) => true
    | _ => false := nr rfl
@[simp] theorem z_pureI {a : Int} : pureM (.p (.int a)) = true := nr rfl
@[simp] theorem z_pureB {a : Bool} : pureM (.p (.bool a)) = true := nr rfl
@[simp] theorem z_pureN : pureM (.p .none) = true := nr rfl
@[simp] theorem z_fdOf : fdOf i ρ = match ρ[i]? with
  | some (some (.fd f)) => some f
  | _ => none := nr rfl
end
/-! ### lists of ints -/
def il (ns : List Int) : D := .list (ns.map .int)
@[simp] theorem il_e (ns : List Int) : il ns = .list (ns.map .int) := rfl
theorem lcL_ok {g : Gv} {c : Et} {elt : Fv} {own : List Nat} {ρ : En} (b : D → Bool) (f : D → D) : ∀ ds : List D, (∀ d ∈ ds, ∃ ρ1 ρ2, g (.p d) ρ = some ρ1 ∧ c ρ1 = some (b d, ρ2) ∧ (b d = true → ∃ ρ3, elt ρ2 = some (f d, ρ3) ∧ wipeE own ρ3 = ρ) ∧ (b d = false → wipeE own ρ2 = ρ)) →
    lcL g c elt own ds ρ = some ((ds.filter b).map f, ρ)
  | [], _ => rfl
  | d :: ds, h => by
    obtain ⟨ρ1, ρ2, h1, h2, h3, h4⟩ := h d (by simp)
    have ih := lcL_ok b f ds fun x hx => h x (by simp [hx])
    show (g (.p d) ρ).bind _ = _
    rw [h1]
    show (c ρ1).bind _ = _
    rw [h2]
    cases hb : b d with
    | true =>
      obtain ⟨ρ3, h5, h6⟩ := h3 hb
      show (elt ρ2).bind _ = _
      rw [h5]
      show (lcL g c elt own ds (wipeE own ρ3)).bind _ = _
      rw [h6, ih]
      simp [hb]
    | false =>
      show lcL g c elt own ds (wipeE own ρ2) = _
      rw [h4 hb, ih]
      simp [hb]
/-- all taken -/
theorem lcL_map {g : Gv} {elt : Fv} {own : List Nat} {ρ : En} (f : D → D) (ds : List D) (h : ∀ d ∈ ds, ∃ ρ1 ρ3, g (.p d) ρ = some ρ1 ∧ elt ρ1 = some (f d, ρ3) ∧ wipeE own ρ3 = ρ) :
    lcL g dYes elt own ds ρ = some (ds.map f, ρ) := by
  have := lcL_ok (c := dYes) (elt := elt) (own := own) (g := g) (ρ := ρ) (fun _ => true) f ds fun d hd => by
    obtain ⟨ρ1, ρ3, h1, h2, h3⟩ := h d hd
    exact ⟨ρ1, ρ1, h1, rfl, fun _ => ⟨ρ3, h2, h3⟩, fun z => by cases z⟩
  rwa [List.filter_eq_self.mpr fun _ _ => rfl] at this
end Iv

set_option Elab.async false
set_option linter.all false
set_option maxRecDepth 100000
/-! Pl, part 2: loops and words over lists, in plain terms; the draws. -/
namespace Iv
open PySem PySem.Spec L2
theorem sz {n : Nat} (h : n ≤ 100000) : n ≤ sizeLine := by unfold sizeLine; omega
section
variable {α : Type}
@[simp] theorem bls_map (xs : List α) (f : α → Bool) : blsD (xs.map fun x => .bool (f x)) = some (xs.map f) := by
  have := blsD_map (xs.map f)
  rwa [List.map_map] at this
@[simp] theorem ints_map (xs : List α) (f : α → Int) : intsD (xs.map fun x => .int (f x)) = some (xs.map f) := by
  have := intsD_map (xs.map f)
  rwa [List.map_map] at this
@[simp] theorem ints_mapI (xs : List Int) : intsD (xs.map PyData.int) = some xs := intsD_map xs
@[simp] theorem z_all (xs : List α) (f : α → Bool) : gAll (.lst (xs.map fun x => .bool (f x))) = some (.p (.bool (xs.all f))) := by
  simp [gAll, M.ls]
@[simp] theorem z_any (xs : List α) (f : α → Bool) : gAny (.lst (xs.map fun x => .bool (f x))) = some (.p (.bool (xs.any f))) := by
  simp [gAny, M.ls]
@[simp] theorem z_sum (xs : List α) (f : α → Int) : gSum (.lst (xs.map fun x => .int (f x))) = some (.p (.int (xs.map f).sum)) := by simp [gSum, M.ls]
@[simp] theorem z_len_l {ds : List D} : gLen (.lst ds) = some (.p (.int (ds.length : Int))) := nr rfl
@[simp] theorem z_len_p {ds : List D} : gLen (.p (.list ds)) = some (.p (.int (ds.length : Int))) := nr rfl
@[simp] theorem z_len_t {ds : List D} : gLen (.p (.tuple ds)) = some (.p (.int (ds.length : Int))) := nr rfl
@[simp] theorem z_len_c {cs : List C} : gLen (.tup cs) = some (.p (.int (cs.length : Int))) := nr rfl
end
/-- a block over ints, all taken -/
theorem lcL_int {g : Gv} {elt : Fv} {own : List Nat} {ρ : En} (f : Int → D) (ns : List Int) (h : ∀ n ∈ ns, ∃ ρ1, g (.p (.int n)) ρ = some ρ1 ∧ elt ρ1 = some (f n, ρ1) ∧ wipeE own ρ1 = ρ) :
    lcL g dYes elt own (ns.map .int) ρ = some (ns.map f, ρ) := by
  induction ns with
  | nil => rfl
  | cons n ns ih =>
    obtain ⟨ρ1, h1, h2, h3⟩ := h n (by simp)
    have ih := ih fun x hx => h x (by simp [hx])
    show (g (.p (.int n)) ρ).bind _ = _
    rw [h1]
    show (elt ρ1).bind _ = _
    rw [h2]
    show (lcL g dYes elt own (ns.map .int) (wipeE own ρ1)).bind _ = _
    rw [h3, ih]
    rfl
/-- a block over ints, some taken -/
theorem lcL_intF {g : Gv} {c : Et} {elt : Fv} {own : List Nat} {ρ : En} (b : Int → Bool) (f : Int → D) (ns : List Int) (h : ∀ n ∈ ns, ∃ ρ1, g (.p (.int n)) ρ = some ρ1 ∧ c ρ1 = some (b n, ρ1) ∧ (b n = true → elt ρ1 = some (f n, ρ1)) ∧ wipeE own ρ1 = ρ) :
    lcL g c elt own (ns.map .int) ρ = some ((ns.filter b).map f, ρ) := by
  induction ns with
  | nil => rfl
  | cons n ns ih =>
    obtain ⟨ρ1, h1, h2, h3, h4⟩ := h n (by simp)
    have ih := ih fun x hx => h x (by simp [hx])
    show (g (.p (.int n)) ρ).bind _ = _
    rw [h1]
    show (c ρ1).bind _ = _
    rw [h2]
    cases hb : b n with
    | true =>
      show (elt ρ1).bind _ = _
      rw [h3 hb]
      show (lcL g c elt own (ns.map .int) (wipeE own ρ1)).bind _ = _
      rw [h4, ih]
      simp [hb]
    | false =>
      show lcL g c elt own (ns.map .int) (wipeE own ρ1) = _
      rw [h4, ih]
      simp [hb]
/-- the numbers of a range -/
def rngI (lo : Int) (n : Nat) : List Int := (List.range n).map fun (i : Nat) => lo + (i : Int)
theorem rngD_ints (lo : Int) (n : Nat) : rngD lo 1 n = (rngI lo n).map .int := by
  unfold rngD rngI
  rw [List.map_map]
  congr 1
  funext i
  simp
theorem mem_rngI {lo : Int} {n : Nat} {z : Int} : z ∈ rngI lo n ↔ lo ≤ z ∧ z < lo + n := by
  unfold rngI
  simp only [List.mem_map, List.mem_range]
  constructor
  · rintro ⟨i, h, rfl⟩; omega
  · intro h; exact ⟨(z - lo).toNat, by omega, by omega⟩
theorem rngI_succ (lo : Int) (n : Nat) : rngI lo (n + 1) = lo :: rngI (lo + 1) n := by
  unfold rngI
  rw [List.range_succ_eq_map, List.map_cons, List.map_map]
  congr 1
  · simp
  · congr 1; funext i; simp; omega
/-- indexing -/
theorem atI_nat {α : Type} {xs : List α} {i : Int} {k : Nat} (h : i = k) (hk : k < xs.length) : L2.atI xs i = some xs[k] := by
  subst h
  unfold L2.atI L2.ixN
  rw [if_pos (by omega), if_pos (by omega)]
  simp [hk]
theorem atI_neg1 {α : Type} {xs : List α} (h : 0 < xs.length) : L2.atI xs (-1) = some xs[xs.length - 1] := by
  unfold L2.atI L2.ixN
  rw [if_neg (by omega), if_pos (by omega)]
  show xs[(-1 + (xs.length : Int)).toNat]? = _
  have e : (-1 + (xs.length : Int)).toNat = xs.length - 1 := by omega
  rw [e, List.getElem?_eq_getElem]
/-- the k-th number -/
def gd (ns : List Int) (k : Int) : Int := ns.getD k.toNat 0
theorem atI_mapI {ns : List Int} {i : Int} (h0 : 0 ≤ i) (h1 : i < ns.length) : L2.atI (ns.map PyData.int) i = some (.int (gd ns i)) := by
  have hk : i.toNat < (ns.map PyData.int).length := by rw [List.length_map]; omega
  have hk' : i.toNat < ns.length := by rw [List.length_map] at hk; exact hk
  rw [atI_nat (k := i.toNat) (by omega) hk, List.getElem_map]
  simp [gd, List.getD, List.getElem?_eq_getElem hk']
theorem gd_at {ns : List Int} {k : Nat} (h : k < ns.length) : gd ns (k : Int) = ns[k] := by
  simp [gd, List.getD, List.getElem?_eq_getElem h]
@[simp] theorem rngI_len (lo : Int) (n : Nat) : (rngI lo n).length = n := by simp [rngI]
theorem forL_nx {g : Gv} {body : Es} {d : D} {ds : List D} {ρ ρ1 ρ2 : En} (hg : g (.p d) ρ = some ρ1) (hb : body ρ1 = some (.nx, ρ2)) : forL g body (d :: ds) ρ = forL g body ds ρ2 := by
  show (g (.p d) ρ).bind _ = _
  rw [hg]
  show (body ρ1).bind _ = _
  rw [hb]
  rfl
theorem forL_rt {g : Gv} {body : Es} {d : D} {ds : List D} {ρ ρ1 ρ2 : En} {m : M} (hg : g (.p d) ρ = some ρ1) (hb : body ρ1 = some (.rt m, ρ2)) : forL g body (d :: ds) ρ = some (.rt m, ρ2) := by
  show (g (.p d) ρ).bind _ = _
  rw [hg]
  show (body ρ1).bind _ = _
  rw [hb]
  rfl
/-- a def's run from its body's -/
theorem fn1 {n N : Nat} {P : List Nat} {b : Es} {ms : List M} {ρ' : En} {r : M} (hl : ms.length = n) (h : b (ms.map some ++ List.replicate (N - n) none) = some (.rt r, ρ')) : fnD n N P b ms = some (r, (List.range n).map fun i => if i ∈ P then (ρ'[i]?).join else none) := by
  unfold fnD; rw [if_pos hl, h]; rfl
/-! ### the draws -/
/-- a feed as it comes -/
structure FdOk (f : Fd) : Prop where
  i0 : 0 ≤ f.i
  i1 : f.i ≤ f.ns.length
  j0 : 0 ≤ f.j
  k0 : 0 ≤ f.k
  k1 : f.k < 2147483647
  len : f.ns.length ≤ 100000
def b_draw : Es := (sSeq (sIf (dAndT (dT (dBin gEq (dFdc 0 2) (dC (.int 0)))) (dT (dBin gLt (dFdc 0 1) (dFdLen 0)))) (sSeq (sAsg (dUn (gInt1 fun i => .int (if i < 0 then -i else i)) (dUn gInt (dFdAt 0 1))) (gSet 2)) (sSeq (sFdInc 0 1 1) (sIf (dT (dBin gGe (dVar 2) (dBin gPow (dC (.int 10)) (dC (.int 18))))) (sFdSt 0 2 (dF (dVar 2))) (sFdSt 0 3 (dF (dBin gMod (dUn gInt (dBin gAdd (dBin gAdd (dBin gMul (dFdc 0 3) (dC (.int 48271))) (dBin gMul (dVar 2) (dC (.int 69621)))) (dFdc 0 1))) (dC (.int 2147483647)))))))) sNx) (sSeq (sIf (dT (dBin gGt (dFdc 0 2) (dC (.int 0)))) (sSeq (sAsg (dBin gMod (dUn gInt (dFdc 0 2)) (dVar 1)) (gSet 3)) (sSeq (sFdSt 0 2 (dF (dBin gDiv (dFdc 0 2) (dVar 1)))) (sRet [0] (dVar 3)))) sNx) (sSeq (sFdSt 0 3 (dF (dBin gMod (dUn gInt (dBin gAdd (dBin gMul (dFdc 0 3) (dC (.int 16807))) (dC (.int 12345)))) (dC (.int 2147483647))))) (sSeq (sAsg (dBin gMod (dUn gInt (dBin gAdd (dBin gMul (dFdc 0 3) (dFdc 0 3)) (dFdc 0 3))) (dC (.int 2147483629))) (gSet 4)) (sRet [0] (dBin gMod (dBin gDiv (dVar 4) (dC (.int 11))) (dVar 1)))))))
def F_draw : Sem1 := fnD 2 5 [0] b_draw
section
variable {ρ : En} {i : Nat} {c n z : Int} {f : Fd}
theorem y_fdc (h : ρ[i]? = some (some (.fd f))) (h2 : f.at c = some z) : dFdc i c ρ = some (.m (.p (.int z)), ρ) := by simp [dFdc, h, h2]
theorem y_st {a : Fv} {ρ' : En} {f' : Fd} (ha : a ρ = some (.int z, ρ')) (h : ρ'[i]? = some (some (.fd f))) (h2 : f.put c z = some f') : sFdSt i c a ρ = some (.nx, ρ'.set i (some (.fd f'))) := by simp [sFdSt, ha, h, h2]
end
theorem cMul_small {a b : Int} (h : -(2 ^ 64) < b ∧ b < 2 ^ 64) : cMul a b = true := by
  unfold cMul; exact decide_eq_true (.inr h)
theorem cDiv_small {a b : Int} (h : 0 < b) (h2 : b < 18446744073709551616) : cDiv a b = true := by
  unfold cDiv; exact decide_eq_true ⟨h, h2⟩
theorem pow1018 : cPow 10 18 = true := by decide
/-- the draw's tail -/
def b_draw2 : Es := (sSeq (sIf (dT (dBin gGt (dFdc 0 2) (dC (.int 0)))) (sSeq (sAsg (dBin gMod (dUn gInt (dFdc 0 2)) (dVar 1)) (gSet 3)) (sSeq (sFdSt 0 2 (dF (dBin gDiv (dFdc 0 2) (dVar 1)))) (sRet [0] (dVar 3)))) sNx) (sSeq (sFdSt 0 3 (dF (dBin gMod (dUn gInt (dBin gAdd (dBin gMul (dFdc 0 3) (dC (.int 16807))) (dC (.int 12345)))) (dC (.int 2147483647))))) (sSeq (sAsg (dBin gMod (dUn gInt (dBin gAdd (dBin gMul (dFdc 0 3) (dFdc 0 3)) (dFdc 0 3))) (dC (.int 2147483629))) (gSet 4)) (sRet [0] (dBin gMod (dBin gDiv (dVar 4) (dC (.int 11))) (dVar 1))))))
theorem draw2_ok {f : Fd} {many : Int} {o : Option M} (hf : FdOk f) (h0 : 0 < many) (h1 : many < 18446744073709551616) : ∃ r f' ρ', 0 ≤ r ∧ r < many ∧ FdOk f' ∧ ρ'[0]? = some (some (M.fd f')) ∧
    b_draw2 [some (.fd f), some (.p (.int many)), o, none, none] = some (.rt (.p (.int r)), ρ') := by
  have hd := cDiv_small (a := f.j) h0 h1
  by_cases hj : 0 < f.j
  · refine ⟨f.j % many, { f with j := f.j / many }, [some (.fd { f with j := f.j / many }), some (.p (.int many)), o, some (.p (.int (f.j % many))), none], Int.emod_nonneg _ (by omega), Int.emod_lt_of_pos _ h0, ⟨hf.i0, hf.i1, Int.ediv_nonneg hf.j0 (by omega), hf.k0, hf.k1, hf.len⟩, rfl, ?_⟩
    simp [b_draw2, dFdc, Fd.at, hj, h0, hd, sFdSt, Fd.put]
  · have m1 : cMul f.k 16807 = true := cMul_small (by decide)
    have k0 := Int.emod_nonneg (f.k * 16807 + 12345) (b := 2147483647) (by decide)
    have k1 := Int.emod_lt_of_pos (f.k * 16807 + 12345) (b := 2147483647) (by decide)
    have m2 : cMul ((f.k * 16807 + 12345) % 2147483647) ((f.k * 16807 + 12345) % 2147483647) = true := cMul_small (by constructor <;> omega)
    have d2 : ∀ a, cDiv a 11 = true := fun a => cDiv_small (by decide) (by decide)
    refine ⟨_, { f with k := (f.k * 16807 + 12345) % 2147483647 }, _, ?_, ?_, ⟨hf.i0, hf.i1, hf.j0, k0, k1, hf.len⟩, ?_, by simp [b_draw2, dFdc, Fd.at, hj, h0, hd, sFdSt, Fd.put, m1, m2, d2]; exact ⟨rfl, rfl⟩⟩
    · exact Int.emod_nonneg _ (by omega)
    · exact Int.emod_lt_of_pos _ h0
    · rfl
theorem draw_split : b_draw = sSeq (sIf (dAndT (dT (dBin gEq (dFdc 0 2) (dC (.int 0)))) (dT (dBin gLt (dFdc 0 1) (dFdLen 0)))) (sSeq (sAsg (dUn (gInt1 fun i => .int (if i < 0 then -i else i)) (dUn gInt (dFdAt 0 1))) (gSet 2)) (sSeq (sFdInc 0 1 1) (sIf (dT (dBin gGe (dVar 2) (dBin gPow (dC (.int 10)) (dC (.int 18))))) (sFdSt 0 2 (dF (dVar 2))) (sFdSt 0 3 (dF (dBin gMod (dUn gInt (dBin gAdd (dBin gAdd (dBin gMul (dFdc 0 3) (dC (.int 48271))) (dBin gMul (dVar 2) (dC (.int 69621)))) (dFdc 0 1))) (dC (.int 2147483647)))))))) sNx) b_draw2 := rfl
/-- a draw -/
theorem draw_ok {f : Fd} {many : Int} (hf : FdOk f) (h0 : 0 < many) (h1 : many < 18446744073709551616) : ∃ r f', 0 ≤ r ∧ r < many ∧ FdOk f' ∧ F_draw [.fd f, .p (.int many)] = some (.p (.int r), [some (.fd f'), none]) := by
  have hl := sz hf.len
  have key : ∃ f2 o, FdOk f2 ∧ b_draw [some (.fd f), some (.p (.int many)), none, none, none] = b_draw2 [some (.fd f2), some (.p (.int many)), o, none, none] := by
    rw [draw_split]
    by_cases hj : f.j = 0 ∧ f.i < f.ns.length
    · obtain ⟨hj, hi⟩ := hj
      have i0 := hf.i0
      have at_ : L2.atI f.ns f.i = some (f.ns[f.i.toNat]'(by omega)) := atI_nat (by omega) _
      generalize f.ns[f.i.toNat]'(by omega) = y at at_
      have mA : cMul f.k 48271 = true := cMul_small (by decide)
      generalize hc : (if y < 0 then -y else y) = cell
      have c0 : 0 ≤ cell := by rw [← hc]; split <;> omega
      have mB : cMul cell 69621 = true := cMul_small (by decide)
      by_cases hb : (1000000000000000000 : Int) ≤ cell
      · refine ⟨{ f with i := f.i + 1, j := cell }, some (.p (.int cell)), ⟨by show 0 ≤ f.i + 1; omega, by show f.i + 1 ≤ f.ns.length; omega, c0, hf.k0, hf.k1, hf.len⟩, ?_⟩
        simp [dFdc, Fd.at, hj, dFdLen, hl, hi, dFdAt, at_, hc, sFdInc, Fd.put, pow1018, hb, sFdSt]
      · have k0 := Int.emod_nonneg (f.k * 48271 + cell * 69621 + (f.i + 1)) (b := 2147483647) (by decide)
        have k1 := Int.emod_lt_of_pos (f.k * 48271 + cell * 69621 + (f.i + 1)) (b := 2147483647) (by decide)
        refine ⟨{ f with i := f.i + 1, k := (f.k * 48271 + cell * 69621 + (f.i + 1)) % 2147483647 }, some (.p (.int cell)), ⟨by show 0 ≤ f.i + 1; omega, by show f.i + 1 ≤ f.ns.length; omega, hf.j0, k0, k1, hf.len⟩, ?_⟩
        simp [dFdc, Fd.at, hj, dFdLen, hl, hi, dFdAt, at_, hc, sFdInc, Fd.put, pow1018, hb, sFdSt, mA, mB]
    · refine ⟨f, none, hf, ?_⟩
      by_cases hj2 : f.j = 0
      · have hi : ¬ f.i < f.ns.length := fun z => hj ⟨hj2, z⟩
        simp [dFdc, Fd.at, hj2, dFdLen, hl, hi]
      · simp [dFdc, Fd.at, hj2]
  obtain ⟨f2, o, hf2, e⟩ := key
  obtain ⟨r, f', ρ', r0, r1, hf', e0, e1⟩ := draw2_ok (o := o) hf2 h0 h1
  refine ⟨r, f', r0, r1, hf', ?_⟩
  have e2 := e.trans e1
  unfold F_draw fnD
  simp [e2]
  simp [List.range_succ, e0]
end Iv

set_option Elab.async false
set_option linter.all false
set_option maxRecDepth 100000
set_option maxHeartbeats 0
namespace Lk
open PySem PySem.Spec L2 Iv
def top (i : Nat) : Stmt := PySem.Challenge.pw_storedfresh_k44_whole_askings_made_one.main.body.getD i (.Pass ⟨0, 0, 0, 0⟩)
abbrev s_is_whole : Stmt := top 1
def d_is_whole : He.DefD := ⟨("is_whole", none), "is_whole", "is_whole", defArgs s_is_whole, defBody s_is_whole, defScope s_is_whole, [], []⟩
abbrev s_are_wholes : Stmt := top 2
def d_are_wholes : He.DefD := ⟨("are_wholes", none), "are_wholes", "are_wholes", defArgs s_are_wholes, defBody s_are_wholes, defScope s_are_wholes, [], []⟩
abbrev s_are_between : Stmt := top 3
def d_are_between : He.DefD := ⟨("are_between", none), "are_between", "are_between", defArgs s_are_between, defBody s_are_between, defScope s_are_between, [], []⟩
abbrev s_is_rising : Stmt := top 4
def d_is_rising : He.DefD := ⟨("is_rising", none), "is_rising", "is_rising", defArgs s_is_rising, defBody s_is_rising, defScope s_is_rising, [], []⟩
abbrev s_is_index_list : Stmt := top 5
def d_is_index_list : He.DefD := ⟨("is_index_list", none), "is_index_list", "is_index_list", defArgs s_is_index_list, defBody s_is_index_list, defScope s_is_index_list, [], []⟩
abbrev s_made_one : Stmt := top 7
def d_made_one : He.DefD := ⟨("made_one", none), "made_one", "made_one", defArgs s_made_one, defBody s_made_one, defScope s_made_one, [], []⟩
abbrev s_fewest_asks : Stmt := top 8
def d_fewest_asks : He.DefD := ⟨("fewest_asks", none), "fewest_asks", "fewest_asks", defArgs s_fewest_asks, defBody s_fewest_asks, defScope s_fewest_asks, [], []⟩
abbrev s_shows_apart : Stmt := top 9
def d_shows_apart : He.DefD := ⟨("shows_apart", none), "shows_apart", "shows_apart", defArgs s_shows_apart, defBody s_shows_apart, defScope s_shows_apart, [], []⟩
abbrev s__law_feed : Stmt := top 11
def d__law_feed : He.DefD := ⟨("_law_feed", none), "_law_feed", "_law_feed", defArgs s__law_feed, defBody s__law_feed, defScope s__law_feed, [], []⟩
abbrev s__law_draw : Stmt := top 12
def d__law_draw : He.DefD := ⟨("_law_draw", none), "_law_draw", "_law_draw", defArgs s__law_draw, defBody s__law_draw, defScope s__law_draw, [], []⟩
abbrev s__law_same : Stmt := top 13
def d__law_same : He.DefD := ⟨("_law_same", none), "_law_same", "_law_same", defArgs s__law_same, defBody s__law_same, defScope s__law_same, [], []⟩
abbrev s__law_asks : Stmt := top 14
def d__law_asks : He.DefD := ⟨("_law_asks", none), "_law_asks", "_law_asks", defArgs s__law_asks, defBody s__law_asks, defScope s__law_asks, [], []⟩
abbrev s__law_run : Stmt := top 15
def d__law_run : He.DefD := ⟨("_law_run", none), "_law_run", "_law_run", defArgs s__law_run, defBody s__law_run, defScope s__law_run, [], []⟩
abbrev s__law_serves : Stmt := top 16
def d__law_serves : He.DefD := ⟨("_law_serves", none), "_law_serves", "_law_serves", defArgs s__law_serves, defBody s__law_serves, defScope s__law_serves, [], []⟩
abbrev s__law_least : Stmt := top 17
def d__law_least : He.DefD := ⟨("_law_least", none), "_law_least", "_law_least", defArgs s__law_least, defBody s__law_least, defScope s__law_least, [], []⟩
abbrev s__law_is_apart : Stmt := top 18
def d__law_is_apart : He.DefD := ⟨("_law_is_apart", none), "_law_is_apart", "_law_is_apart", defArgs s__law_is_apart, defBody s__law_is_apart, defScope s__law_is_apart, [], []⟩
abbrev s__law_fewest_holds : Stmt := top 19
def d__law_fewest_holds : He.DefD := ⟨("_law_fewest_holds", none), "_law_fewest_holds", "_law_fewest_holds", defArgs s__law_fewest_holds, defBody s__law_fewest_holds, defScope s__law_fewest_holds, [], []⟩
abbrev s__law_holds : Stmt := top 20
def d__law_holds : He.DefD := ⟨("_law_holds", none), "_law_holds", "_law_holds", defArgs s__law_holds, defBody s__law_holds, defScope s__law_holds, [], []⟩
abbrev s_law : Stmt := top 21
def d_law : He.DefD := ⟨("law", none), "law", "law", defArgs s_law, defBody s_law, defScope s_law, [], []⟩
def fnl : List He.DefD := [d_is_whole, d_are_wholes, d_are_between, d_is_rising, d_is_index_list, d_made_one, d_fewest_asks, d_shows_apart, d__law_feed, d__law_draw, d__law_same, d__law_asks, d__law_run, d__law_serves, d__law_least, d__law_is_apart, d__law_fewest_holds, d__law_holds, d_law]
def fal : List He.Fa := [.glo "is_whole", .glo "are_wholes", .glo "are_between", .glo "is_rising", .glo "is_index_list", .glo "made_one", .glo "fewest_asks", .glo "shows_apart", .glo "_law_feed", .glo "_law_draw", .glo "_law_same", .glo "_law_asks", .glo "_law_run", .glo "_law_serves", .glo "_law_least", .glo "_law_is_apart", .glo "_law_fewest_holds", .glo "_law_holds", .glo "law", .free "isinstance", .free "int", .free "bool", .free "list", .free "tuple", .free "str", .free "len", .free "range", .free "enumerate", .free "min", .free "abs", .free "all"]
abbrev R : PySem.W.OpenRow := PySem.W.OpenLaw.row PySem.Challenge.rw_storedfresh_k44_whole_askings_made_one
abbrev hk : PySem.W.Hook := He.hookD 4 fal fnl
def ob (s : PySem.W.SharedT) : He.AlD := He.obsDG 4 fal fnl (HandSHeadRun.getT s)
theorem ob_eq (s : PySem.W.SharedT) : ob s = hk.obs s.abs := He.obsDG_eq (HandSHeadRun.getT_eq s)
def loose : List Str := ["is_whole", "are_wholes", "are_between", "is_rising", "is_index_list", "made_one", "fewest_asks", "shows_apart", "_law_feed", "_law_draw", "_law_same", "_law_asks", "_law_run", "_law_serves", "_law_least", "_law_is_apart", "_law_fewest_holds", "_law_holds"]
theorem run (w : World) : HandSHeadRun.RunEq R (PySem.W.view R.prog [21]) hk ob 4000 loose w := by
  intro os
  kernel_rfl
def wf : Nat := 100000
structure Bs (mg : Str → Option Value) : Prop where
  isinstance_ : mg "isinstance" = none
  int_ : mg "int" = none
  bool_ : mg "bool" = none
  list_ : mg "list" = none
  tuple_ : mg "tuple" = none
  str_ : mg "str" = none
  len_ : mg "len" = none
  range_ : mg "range" = none
  enumerate_ : mg "enumerate" = none
  min_ : mg "min" = none
  abs_ : mg "abs" = none
  all_ : mg "all" = none
def N_is_whole : List Str := ["value"]
theorem sc_is_whole : FnScope N_is_whole ["value"] (defScope s_is_whole) := ⟨rfl, rfl, rfl, by decide +kernel, rfl, by decide +kernel, by decide +kernel⟩
def b_is_whole : Es := (sRet [] (dAnd (dUn (gIsI "int") (dVar 0)) (dNot (dUn (gIsI "bool") (dVar 0)))))
def F_is_whole : Sem1 := fnD 1 1 [] (b_is_whole)
theorem ok_is_whole {P : Program} {w : World} {K : PySem.W.Frag} {mg : Str → Option Value} {base : Heap} {fa : Addr} {fd : FuncData} (B : Bs mg) (F : FunD K "is_whole" "is_whole" (defArgs s_is_whole) (defBody s_is_whole) (defScope s_is_whole) [] [] fa fd) (hm : mg "is_whole" = some (.ref fa)) : FnG P w K mg base "is_whole" 1 1 F_is_whole := by
  refine fn_okM (ps := ["value"]) (N := N_is_whole) (Pr := []) F sc_is_whole (by decide) hm (fun _ _ _ _ _ _ us hl => match us, hl with | [_], _ => rfl) fun A s_0 H_0 env outer stack ex pn hr => ?_
  have hu : A.units + 64 < cLine := by have := hr.un; omega
  exact (vb_one (vs_ret (ve_and (e_isi B.isinstance_ B.int_ boot_t_int (e_var (by kernel_rfl)) (by kernel_rfl)) (ve_one (ve_not (e_isi B.isinstance_ B.bool_ boot_t_bool (e_var (by kernel_rfl)) (by kernel_rfl)))))))
def v_are_wholes1 (c_is_whole : Sem1) : Fv := (dF (dCall c_is_whole [.ex (dF (dVar 1))]))
def N_are_wholes : List Str := ["value", "number"]
theorem sc_are_wholes : FnScope N_are_wholes ["value"] (defScope s_are_wholes) := ⟨rfl, rfl, rfl, by decide +kernel, rfl, by decide +kernel, by decide +kernel⟩
def b_are_wholes (c_is_whole : Sem1) : Es := (sSeq (sIf (dNotT (dT (dUn (gIsI "list") (dVar 0)))) (sRet [] (dC (.bool false))) sNx) (sRet [] (dUn gAll (dLc (dIt (dF (dVar 0))) (gSet 1) dYes (v_are_wholes1 c_is_whole) [1]))))
def F_are_wholes : Sem1 := fnD 1 2 [] (b_are_wholes F_is_whole)
theorem ok_are_wholes {P : Program} {w : World} {K : PySem.W.Frag} {mg : Str → Option Value} {base : Heap} {fa : Addr} {fd : FuncData} (B : Bs mg) (F : FunD K "are_wholes" "are_wholes" (defArgs s_are_wholes) (defBody s_are_wholes) (defScope s_are_wholes) [] [] fa fd) (hm : mg "are_wholes" = some (.ref fa)) (G_is_whole : FnG P w K mg base "is_whole" 1 1 F_is_whole) : FnG P w K mg base "are_wholes" 2 1 F_are_wholes := by
  replace G_is_whole := G_is_whole.mono (k := 1) (by decide)
  refine fn_okM (ps := ["value"]) (N := N_are_wholes) (Pr := []) F sc_are_wholes (by decide) hm (fun _ _ _ _ _ _ us hl => match us, hl with | [_], _ => rfl) fun A s_0 H_0 env outer stack ex pn hr => ?_
  have hu : A.units + 64 < cLine := by have := hr.un; omega
  exact (vb_cons (vs_if (vt_not (t_call (e_isi B.isinstance_ B.list_ boot_t_list (e_var (by kernel_rfl)) (by kernel_rfl)))) (vb_one (vs_ret ve_bl)) vb_nil)
    (vb_one (vs_ret (e_all rfl B.all_ (e_lc [("number", 1)] rfl (vi_seq (ve_F (e_var (by kernel_rfl)))) (fun _ _ _ _ _ => (g_name (by kernel_rfl))) (fun _ _ _ _ _ => vts_nil) (fun _ _ _ _ _ => (ve_F (e_call G_is_whole hr (a_ex (ve_F (e_var (by kernel_rfl))) va_nil rfl) rfl (by kernel_rfl) (by rfl)))) (by kernel_rfl)) (by kernel_rfl)))))
def v_are_between1 (c_are_wholes : Sem1) : Fv := (dF (dChain gLe gLe (dVar 1) (dVar 3) (dVar 2)))
def N_are_between : List Str := ["value", "least", "most", "number"]
theorem sc_are_between : FnScope N_are_between ["value", "least", "most"] (defScope s_are_between) := ⟨rfl, rfl, rfl, by decide +kernel, rfl, by decide +kernel, by decide +kernel⟩
def b_are_between (c_are_wholes : Sem1) : Es := (sSeq (sIf (dNotT (dT (dCall c_are_wholes [.ex (dF (dVar 0))]))) (sRet [] (dC (.bool false))) sNx) (sRet [] (dUn gAll (dLc (dIt (dF (dVar 0))) (gSet 3) dYes (v_are_between1 c_are_wholes) [3]))))
def F_are_between : Sem1 := fnD 3 4 [] (b_are_between F_are_wholes)
theorem ok_are_between {P : Program} {w : World} {K : PySem.W.Frag} {mg : Str → Option Value} {base : Heap} {fa : Addr} {fd : FuncData} (B : Bs mg) (F : FunD K "are_between" "are_between" (defArgs s_are_between) (defBody s_are_between) (defScope s_are_between) [] [] fa fd) (hm : mg "are_between" = some (.ref fa)) (G_are_wholes : FnG P w K mg base "are_wholes" 2 1 F_are_wholes) : FnG P w K mg base "are_between" 3 3 F_are_between := by
  replace G_are_wholes := G_are_wholes.mono (k := 2) (by decide)
  refine fn_okM (ps := ["value", "least", "most"]) (N := N_are_between) (Pr := []) F sc_are_between (by decide) hm (fun _ _ _ _ _ _ us hl => match us, hl with | [_, _, _], _ => rfl) fun A s_0 H_0 env outer stack ex pn hr => ?_
  have hu : A.units + 64 < cLine := by have := hr.un; omega
  exact (vb_cons (vs_if (vt_not (t_call (e_call G_are_wholes hr (a_ex (ve_F (e_var (by kernel_rfl))) va_nil rfl) rfl (by kernel_rfl) (by rfl)))) (vb_one (vs_ret ve_bl)) vb_nil)
    (vb_one (vs_ret (e_all rfl B.all_ (e_lc [("number", 3)] rfl (vi_seq (ve_F (e_var (by kernel_rfl)))) (fun _ _ _ _ _ => (g_name (by kernel_rfl))) (fun _ _ _ _ _ => vts_nil) (fun _ _ _ _ _ => (ve_F (ve_chain op_le op_le opv_le opv_le rfl (e_var (by kernel_rfl)) (e_var (by kernel_rfl)) (e_var (by kernel_rfl))))) (by kernel_rfl)) (by kernel_rfl)))))
def v_is_rising1 : Fv := (dF (dBin gLt (dIx (dVar 0) (dBin gSub (dVar 1) (dC (.int 1)))) (dIx (dVar 0) (dVar 1))))
def N_is_rising : List Str := ["numbers", "at"]
theorem sc_is_rising : FnScope N_is_rising ["numbers"] (defScope s_is_rising) := ⟨rfl, rfl, rfl, by decide +kernel, rfl, by decide +kernel, by decide +kernel⟩
def b_is_rising : Es := (sRet [] (dUn gAll (dLc (dRng2 (dF (dC (.int 1))) (dF (dUn gLen (dVar 0)))) (gSet 1) dYes v_is_rising1 [1])))
def F_is_rising : Sem1 := fnD 1 2 [] (b_is_rising)
theorem ok_is_rising {P : Program} {w : World} {K : PySem.W.Frag} {mg : Str → Option Value} {base : Heap} {fa : Addr} {fd : FuncData} (B : Bs mg) (F : FunD K "is_rising" "is_rising" (defArgs s_is_rising) (defBody s_is_rising) (defScope s_is_rising) [] [] fa fd) (hm : mg "is_rising" = some (.ref fa)) : FnG P w K mg base "is_rising" 1 1 F_is_rising := by
  refine fn_okM (ps := ["numbers"]) (N := N_is_rising) (Pr := []) F sc_is_rising (by decide) hm (fun _ _ _ _ _ _ us hl => match us, hl with | [_], _ => rfl) fun A s_0 H_0 env outer stack ex pn hr => ?_
  have hu : A.units + 64 < cLine := by have := hr.un; omega
  exact (vb_one (vs_ret (e_all rfl B.all_ (e_lc [("at", 1)] rfl (i_rng2 B.range_ (ve_F ve_int) (ve_F (e_len B.len_ (e_var (by kernel_rfl)) (by kernel_rfl))) (by kernel_rfl)) (fun _ _ _ _ _ => (g_name (by kernel_rfl))) (fun _ _ _ _ _ => vts_nil) (fun _ _ _ _ _ => (ve_F (e_cmp op_lt opv_lt (e_ix (e_var (by kernel_rfl)) (ve_bin op_sub opv_sub (e_var (by kernel_rfl)) ve_int) rfl) (e_ix (e_var (by kernel_rfl)) (e_var (by kernel_rfl)) rfl) rfl))) (by kernel_rfl)) (by kernel_rfl))))
def N_is_index_list : List Str := ["value", "many"]
theorem sc_is_index_list : FnScope N_is_index_list ["value", "many"] (defScope s_is_index_list) := ⟨rfl, rfl, rfl, by decide +kernel, rfl, by decide +kernel, by decide +kernel⟩
def b_is_index_list (c_are_between c_is_rising : Sem1) : Es := (sRet [] (dAnd (dCall c_are_between [.ex (dF (dVar 0)), .ex (dF (dC (.int 0))), .ex (dF (dBin gSub (dVar 1) (dC (.int 1))))]) (dCall c_is_rising [.ex (dF (dVar 0))])))
def F_is_index_list : Sem1 := fnD 2 2 [] (b_is_index_list F_are_between F_is_rising)
theorem ok_is_index_list {P : Program} {w : World} {K : PySem.W.Frag} {mg : Str → Option Value} {base : Heap} {fa : Addr} {fd : FuncData} (B : Bs mg) (F : FunD K "is_index_list" "is_index_list" (defArgs s_is_index_list) (defBody s_is_index_list) (defScope s_is_index_list) [] [] fa fd) (hm : mg "is_index_list" = some (.ref fa)) (G_are_between : FnG P w K mg base "are_between" 3 3 F_are_between) (G_is_rising : FnG P w K mg base "is_rising" 1 1 F_is_rising) : FnG P w K mg base "is_index_list" 4 2 F_is_index_list := by
  replace G_are_between := G_are_between.mono (k := 3) (by decide)
  replace G_is_rising := G_is_rising.mono (k := 3) (by decide)
  refine fn_okM (ps := ["value", "many"]) (N := N_is_index_list) (Pr := []) F sc_is_index_list (by decide) hm (fun _ _ _ _ _ _ us hl => match us, hl with | [_, _], _ => rfl) fun A s_0 H_0 env outer stack ex pn hr => ?_
  have hu : A.units + 64 < cLine := by have := hr.un; omega
  exact (vb_one (vs_ret (ve_and (e_call G_are_between hr (a_ex (ve_F (e_var (by kernel_rfl))) (a_ex (ve_F ve_int) (a_ex (ve_F (ve_bin op_sub opv_sub (e_var (by kernel_rfl)) ve_int)) va_nil rfl) rfl) rfl) rfl (by kernel_rfl) (by rfl)) (ve_one (e_call G_is_rising hr (a_ex (ve_F (e_var (by kernel_rfl))) va_nil rfl) rfl (by kernel_rfl) (by rfl))))))
def l_made_one1 : Es := (sSeq (sIf (dT (dBin gGe (dBin gSub (dVar 5) (dIx (dVar 0) (dVar 3))) (dVar 1))) (sAsg (dVar 4) (gSet 3)) sNx) (sExpr (dMut fApp (dVar 2) (dCons (dF (dVar 3)) dNil))))
def N_made_one : List Str := ["asks", "long", "told", "sent", "at", "time"]
theorem sc_made_one : FnScope N_made_one ["asks", "long"] (defScope s_made_one) := ⟨rfl, rfl, rfl, by decide +kernel, rfl, by decide +kernel, by decide +kernel⟩
def b_made_one : Es := (sSeq (sAsg (dLst dNil) (gSet 2)) (sSeq (sAsg (dC (.int 0)) (gSet 3)) (sSeq (sFor (dEnum (dF (dVar 0))) (gTupT 2 (gcCons (gSet 4) (gcCons (gSet 5) gcNil))) l_made_one1) (sRet [] (dVar 2)))))
def F_made_one : Sem1 := fnD 2 6 [] (b_made_one)
theorem ok_made_one {P : Program} {w : World} {K : PySem.W.Frag} {mg : Str → Option Value} {base : Heap} {fa : Addr} {fd : FuncData} (B : Bs mg) (F : FunD K "made_one" "made_one" (defArgs s_made_one) (defBody s_made_one) (defScope s_made_one) [] [] fa fd) (hm : mg "made_one" = some (.ref fa)) : FnG P w K mg base "made_one" 1 2 F_made_one := by
  refine fn_okM (ps := ["asks", "long"]) (N := N_made_one) (Pr := []) F sc_made_one (by decide) hm (fun _ _ _ _ _ _ us hl => match us, hl with | [_, _], _ => rfl) fun A s_0 H_0 env outer stack ex pn hr => ?_
  have hu : A.units + 64 < cLine := by have := hr.un; omega
  exact (vb_cons (s_set (ve_lst vl_nil) (by kernel_rfl))
    (vb_cons (s_set ve_int (by kernel_rfl))
    (vb_cons (s_for rfl rfl (i_enum B.enumerate_ (ve_F (e_var (by kernel_rfl))) (by kernel_rfl)) (g_tup rfl (g_cons (g_name (by kernel_rfl)) (g_cons (g_name (by kernel_rfl)) vgs_nil rfl) rfl) rfl) (vb_cons (vs_if (t_cmp op_ge opv_ge (ve_bin op_sub opv_sub (e_var (by kernel_rfl)) (e_ix (e_var (by kernel_rfl)) (e_var (by kernel_rfl)) rfl)) (e_var (by kernel_rfl)) rfl) (vb_one (s_set (e_var (by kernel_rfl)) (by kernel_rfl))) vb_nil)
    (vb_one (s_expr (e_append (e_var (by kernel_rfl)) (l_cons (ve_F (e_var (by kernel_rfl))) vl_nil rfl) (by kernel_rfl)) rfl))) rfl)
    (vb_one (vs_ret (e_var (by kernel_rfl)))))))
def v_fewest_asks1 (c_made_one : Sem1) : Fv := (dF (dVar 4))
def N_fewest_asks : List Str := ["asks", "long", "told", "apart", "at"]
theorem sc_fewest_asks : FnScope N_fewest_asks ["asks", "long"] (defScope s_fewest_asks) := ⟨rfl, rfl, rfl, by decide +kernel, rfl, by decide +kernel, by decide +kernel⟩
def b_fewest_asks (c_made_one : Sem1) : Es := (sSeq (sAsg (dCall c_made_one [.ex (dF (dVar 0)), .ex (dF (dVar 1))]) (gSet 2)) (sSeq (sAsg (dLc (dRng1 (dF (dUn gLen (dVar 0)))) (gSet 4) (dT (dBin gEq (dIx (dVar 2) (dVar 4)) (dVar 4))) (v_fewest_asks1 c_made_one) [4]) (gSet 3)) (sRet [] (dTupK (clCons (cF (dF (dUn gLen (dVar 3)))) (clCons (cM [] (dVar 3)) clNil))))))
def F_fewest_asks : Sem1 := fnD 2 5 [] (b_fewest_asks F_made_one)
theorem ok_fewest_asks {P : Program} {w : World} {K : PySem.W.Frag} {mg : Str → Option Value} {base : Heap} {fa : Addr} {fd : FuncData} (B : Bs mg) (F : FunD K "fewest_asks" "fewest_asks" (defArgs s_fewest_asks) (defBody s_fewest_asks) (defScope s_fewest_asks) [] [] fa fd) (hm : mg "fewest_asks" = some (.ref fa)) (G_made_one : FnG P w K mg base "made_one" 1 2 F_made_one) : FnG P w K mg base "fewest_asks" 2 2 F_fewest_asks := by
  replace G_made_one := G_made_one.mono (k := 1) (by decide)
  refine fn_okM (ps := ["asks", "long"]) (N := N_fewest_asks) (Pr := []) F sc_fewest_asks (by decide) hm (fun _ _ _ _ _ _ us hl => match us, hl with | [_, _], _ => rfl) fun A s_0 H_0 env outer stack ex pn hr => ?_
  have hu : A.units + 64 < cLine := by have := hr.un; omega
  exact (vb_cons (s_set (e_call G_made_one hr (a_ex (ve_F (e_var (by kernel_rfl))) (a_ex (ve_F (e_var (by kernel_rfl))) va_nil rfl) rfl) rfl (by kernel_rfl) (by rfl)) (by kernel_rfl))
    (vb_cons (s_setLc [("at", 4)] rfl rfl (i_rng1 B.range_ (ve_F (e_len B.len_ (e_var (by kernel_rfl)) (by kernel_rfl))) (by kernel_rfl)) (fun _ _ _ _ _ => (g_name (by kernel_rfl))) (fun _ _ _ _ _ => (vts_one (t_cmp (op_eqA hu) opv_eq (e_ix (e_var (by kernel_rfl)) (e_var (by kernel_rfl)) rfl) (e_var (by kernel_rfl)) rfl))) (fun _ _ _ _ _ => (ve_F (e_var (by kernel_rfl)))) (by kernel_rfl) (by kernel_rfl))
    (vb_one (vs_ret (ve_tupK (cl_cons (vc_F (ve_F (e_len B.len_ (e_var (by kernel_rfl)) (by kernel_rfl)))) (cl_cons (vc_M (e_var (by kernel_rfl))) vcl_nil rfl) rfl))))))
def v_shows_apart1 (c_is_index_list : Sem1) : Fv := (dF (dBin gGe (dBin gSub (dIx (dVar 3) (dVar 4)) (dIx (dVar 3) (dBin gSub (dVar 4) (dC (.int 1))))) (dVar 1)))
def v_shows_apart2 (c_is_index_list : Sem1) : Fv := (dF (dIx (dVar 0) (dVar 4)))
def N_shows_apart : List Str := ["asks", "long", "apart", "times", "at"]
theorem sc_shows_apart : FnScope N_shows_apart ["asks", "long", "apart"] (defScope s_shows_apart) := ⟨rfl, rfl, rfl, by decide +kernel, rfl, by decide +kernel, by decide +kernel⟩
def b_shows_apart (c_is_index_list : Sem1) : Es := (sSeq (sIf (dNotT (dT (dCall c_is_index_list [.ex (dF (dVar 2)), .ex (dF (dUn gLen (dVar 0)))]))) (sRet [] (dC (.bool false))) sNx) (sSeq (sAsg (dLc (dIt (dF (dVar 2))) (gSet 4) dYes (v_shows_apart2 c_is_index_list) [4]) (gSet 3)) (sRet [] (dUn gAll (dLc (dRng2 (dF (dC (.int 1))) (dF (dUn gLen (dVar 3)))) (gSet 4) dYes (v_shows_apart1 c_is_index_list) [4])))))
def F_shows_apart : Sem1 := fnD 3 5 [] (b_shows_apart F_is_index_list)
theorem ok_shows_apart {P : Program} {w : World} {K : PySem.W.Frag} {mg : Str → Option Value} {base : Heap} {fa : Addr} {fd : FuncData} (B : Bs mg) (F : FunD K "shows_apart" "shows_apart" (defArgs s_shows_apart) (defBody s_shows_apart) (defScope s_shows_apart) [] [] fa fd) (hm : mg "shows_apart" = some (.ref fa)) (G_is_index_list : FnG P w K mg base "is_index_list" 4 2 F_is_index_list) : FnG P w K mg base "shows_apart" 5 3 F_shows_apart := by
  replace G_is_index_list := G_is_index_list.mono (k := 4) (by decide)
  refine fn_okM (ps := ["asks", "long", "apart"]) (N := N_shows_apart) (Pr := []) F sc_shows_apart (by decide) hm (fun _ _ _ _ _ _ us hl => match us, hl with | [_, _, _], _ => rfl) fun A s_0 H_0 env outer stack ex pn hr => ?_
  have hu : A.units + 64 < cLine := by have := hr.un; omega
  exact (vb_cons (vs_if (vt_not (t_call (e_call G_is_index_list hr (a_ex (ve_F (e_var (by kernel_rfl))) (a_ex (ve_F (e_len B.len_ (e_var (by kernel_rfl)) (by kernel_rfl))) va_nil rfl) rfl) rfl (by kernel_rfl) (by rfl)))) (vb_one (vs_ret ve_bl)) vb_nil)
    (vb_cons (s_setC (e_lc [("at", 4)] rfl (vi_seq (ve_F (e_var (by kernel_rfl)))) (fun _ _ _ _ _ => (g_name (by kernel_rfl))) (fun _ _ _ _ _ => vts_nil) (fun _ _ _ _ _ => (ve_F (e_ix (e_var (by kernel_rfl)) (e_var (by kernel_rfl)) rfl))) (by kernel_rfl)) (by kernel_rfl) (by kernel_rfl))
    (vb_one (vs_ret (e_all rfl B.all_ (e_lc [("at", 4)] rfl (i_rng2 B.range_ (ve_F ve_int) (ve_F (e_len B.len_ (e_var (by kernel_rfl)) (by kernel_rfl))) (by kernel_rfl)) (fun _ _ _ _ _ => (g_name (by kernel_rfl))) (fun _ _ _ _ _ => vts_nil) (fun _ _ _ _ _ => (ve_F (e_cmp op_ge opv_ge (ve_bin op_sub opv_sub (e_ix (e_var (by kernel_rfl)) (e_var (by kernel_rfl)) rfl) (e_ix (e_var (by kernel_rfl)) (ve_bin op_sub opv_sub (e_var (by kernel_rfl)) ve_int) rfl)) (e_var (by kernel_rfl)) rfl))) (by kernel_rfl)) (by kernel_rfl))))))
def N__law_feed : List Str := ["script"]
theorem sc__law_feed : FnScope N__law_feed ["script"] (defScope s__law_feed) := ⟨rfl, rfl, rfl, by decide +kernel, rfl, by decide +kernel, by decide +kernel⟩
def b__law_feed : Es := (sRet [] (dFeed 0))
def F__law_feed : Sem1 := fnD 1 1 [] (b__law_feed)
theorem ok__law_feed {P : Program} {w : World} {K : PySem.W.Frag} {mg : Str → Option Value} {base : Heap} {fa : Addr} {fd : FuncData} (B : Bs mg) (F : FunD K "_law_feed" "_law_feed" (defArgs s__law_feed) (defBody s__law_feed) (defScope s__law_feed) [] [] fa fd) (hm : mg "_law_feed" = some (.ref fa)) : FnG P w K mg base "_law_feed" 1 1 F__law_feed := by
  refine fn_okM (ps := ["script"]) (N := N__law_feed) (Pr := []) F sc__law_feed (by decide) hm (fun _ _ _ _ _ _ us hl => match us, hl with | [_], _ => rfl) fun A s_0 H_0 env outer stack ex pn hr => ?_
  have hu : A.units + 64 < cLine := by have := hr.un; omega
  exact (vb_one (vs_ret (e_feed B.list_ (by kernel_rfl))))
def N__law_draw : List Str := ["feed", "many", "cell", "told", "mixed"]
theorem sc__law_draw : FnScope N__law_draw ["feed", "many"] (defScope s__law_draw) := ⟨rfl, rfl, rfl, by decide +kernel, rfl, by decide +kernel, by decide +kernel⟩
def b__law_draw : Es := (sSeq (sIf (dAndT (dT (dBin gEq (dFdc 0 2) (dC (.int 0)))) (dT (dBin gLt (dFdc 0 1) (dFdLen 0)))) (sSeq (sAsg (dUn (gInt1 fun i => .int (if i < 0 then -i else i)) (dUn gInt (dFdAt 0 1))) (gSet 2)) (sSeq (sFdInc 0 1 1) (sIf (dT (dBin gGe (dVar 2) (dBin gPow (dC (.int 10)) (dC (.int 18))))) (sFdSt 0 2 (dF (dVar 2))) (sFdSt 0 3 (dF (dBin gMod (dUn gInt (dBin gAdd (dBin gAdd (dBin gMul (dFdc 0 3) (dC (.int 48271))) (dBin gMul (dVar 2) (dC (.int 69621)))) (dFdc 0 1))) (dC (.int 2147483647)))))))) sNx) (sSeq (sIf (dT (dBin gGt (dFdc 0 2) (dC (.int 0)))) (sSeq (sAsg (dBin gMod (dUn gInt (dFdc 0 2)) (dVar 1)) (gSet 3)) (sSeq (sFdSt 0 2 (dF (dBin gDiv (dFdc 0 2) (dVar 1)))) (sRet [0] (dVar 3)))) sNx) (sSeq (sFdSt 0 3 (dF (dBin gMod (dUn gInt (dBin gAdd (dBin gMul (dFdc 0 3) (dC (.int 16807))) (dC (.int 12345)))) (dC (.int 2147483647))))) (sSeq (sAsg (dBin gMod (dUn gInt (dBin gAdd (dBin gMul (dFdc 0 3) (dFdc 0 3)) (dFdc 0 3))) (dC (.int 2147483629))) (gSet 4)) (sRet [0] (dBin gMod (dBin gDiv (dVar 4) (dC (.int 11))) (dVar 1)))))))
def F__law_draw : Sem1 := fnD 2 5 [0] (b__law_draw)
theorem ok__law_draw {P : Program} {w : World} {K : PySem.W.Frag} {mg : Str → Option Value} {base : Heap} {fa : Addr} {fd : FuncData} (B : Bs mg) (F : FunD K "_law_draw" "_law_draw" (defArgs s__law_draw) (defBody s__law_draw) (defScope s__law_draw) [] [] fa fd) (hm : mg "_law_draw" = some (.ref fa)) : FnG P w K mg base "_law_draw" 1 2 F__law_draw := by
  refine fn_okM (ps := ["feed", "many"]) (N := N__law_draw) (Pr := [0]) F sc__law_draw (by decide) hm (fun _ _ _ _ _ _ us hl => match us, hl with | [_, _], _ => rfl) fun A s_0 H_0 env outer stack ex pn hr => ?_
  have hu : A.units + 64 < cLine := by have := hr.un; omega
  exact (vb_cons (vs_if (VW.vt (vw_and (t_cmp (op_eqA hu) opv_eq (e_fdc (by kernel_rfl)) ve_int rfl) (vw_and1 (t_cmp op_lt opv_lt (e_fdc (by kernel_rfl)) (e_fdLen B.len_ (by kernel_rfl)) rfl)))) (vb_cons (s_set (e_abs B.abs_ (e_int B.int_ (e_fdAt (by kernel_rfl)) (by kernel_rfl)) (by kernel_rfl)) (by kernel_rfl))
    (vb_cons (s_fdInc (by kernel_rfl))
    (vb_one (vs_if (t_cmp op_ge opv_ge (e_var (by kernel_rfl)) (ve_bin op_pow opv_pow ve_int ve_int) rfl) (vb_one (s_fdSt (ve_F (e_var (by kernel_rfl))) (by kernel_rfl))) (vb_one (s_fdSt (ve_F (ve_bin op_mod opv_mod (e_int B.int_ (ve_bin op_addA opv_add (ve_bin op_addA opv_add (ve_bin op_mulA opv_mul (e_fdc (by kernel_rfl)) ve_int) (ve_bin op_mulA opv_mul (e_var (by kernel_rfl)) ve_int)) (e_fdc (by kernel_rfl))) (by kernel_rfl)) ve_int)) (by kernel_rfl))))))) vb_nil)
    (vb_cons (vs_if (t_cmp op_gt opv_gt (e_fdc (by kernel_rfl)) ve_int rfl) (vb_cons (s_set (ve_bin op_mod opv_mod (e_int B.int_ (e_fdc (by kernel_rfl)) (by kernel_rfl)) (e_var (by kernel_rfl))) (by kernel_rfl))
    (vb_cons (s_fdSt (ve_F (ve_bin op_fdivW opv_div (e_fdc (by kernel_rfl)) (e_var (by kernel_rfl)))) (by kernel_rfl))
    (vb_one (vs_ret (e_var (by kernel_rfl)))))) vb_nil)
    (vb_cons (s_fdSt (ve_F (ve_bin op_mod opv_mod (e_int B.int_ (ve_bin op_addA opv_add (ve_bin op_mulA opv_mul (e_fdc (by kernel_rfl)) ve_int) ve_int) (by kernel_rfl)) ve_int)) (by kernel_rfl))
    (vb_cons (s_set (ve_bin op_mod opv_mod (e_int B.int_ (ve_bin op_addA opv_add (ve_bin op_mulA opv_mul (e_fdc (by kernel_rfl)) (e_fdc (by kernel_rfl))) (e_fdc (by kernel_rfl))) (by kernel_rfl)) ve_int) (by kernel_rfl))
    (vb_one (vs_ret (ve_bin op_mod opv_mod (ve_bin op_fdivW opv_div (e_var (by kernel_rfl)) ve_int) (e_var (by kernel_rfl)))))))))
def l__law_same1 (c__law_same : Sem1) : Es := (sIf (dNotT (dT (dCall c__law_same [.ex (dF (dIx (dVar 0) (dVar 2))), .ex (dF (dIx (dVar 1) (dVar 2)))]))) (sRet [] (dC (.bool false))) sNx)
def N__law_same : List Str := ["told", "due", "k"]
theorem sc__law_same : FnScope N__law_same ["told", "due"] (defScope s__law_same) := ⟨rfl, rfl, rfl, by decide +kernel, rfl, by decide +kernel, by decide +kernel⟩
def b__law_same (c__law_same : Sem1) : Es := (sSeq (sIf (dOrT (dT (dUn (gIsI "list") (dVar 1))) (dT (dUn (gIsI "tuple") (dVar 1)))) (sSeq (sIf (dOrT (dT (dBin gNe (dUn (gIsI "list") (dVar 1)) (dUn (gIsI "list") (dVar 0)))) (dT (dBin gNe (dUn (gIsI "tuple") (dVar 1)) (dUn (gIsI "tuple") (dVar 0))))) (sRet [] (dC (.bool false))) sNx) (sSeq (sIf (dT (dBin gNe (dUn gLen (dVar 0)) (dUn gLen (dVar 1)))) (sRet [] (dC (.bool false))) sNx) (sSeq (sFor (dRng1 (dF (dUn gLen (dVar 1)))) (gSet 2) (l__law_same1 c__law_same)) (sRet [] (dC (.bool true)))))) sNx) (sSeq (sIf (dT (dBin gIs (dVar 1) (dC .none))) (sRet [] (dBin gIs (dVar 0) (dC .none))) sNx) (sSeq (sIf (dT (dUn (gIsI "bool") (dVar 1))) (sRet [] (dAnd (dUn (gIsI "bool") (dVar 0)) (dBin gEq (dVar 0) (dVar 1)))) sNx) (sSeq (sIf (dT (dUn (gIsI "int") (dVar 1))) (sRet [] (dAnd (dUn (gIsI "int") (dVar 0)) (dAnd (dNot (dUn (gIsI "bool") (dVar 0))) (dBin gEq (dVar 0) (dVar 1))))) sNx) (sRet [] (dAnd (dUn (gIsI "str") (dVar 0)) (dBin gEq (dVar 0) (dVar 1))))))))
def F__law_same : Nat → Sem1
  | 0 => fun _ => none
  | m + 1 => fnD 2 3 [] (b__law_same (F__law_same m))
theorem ok__law_same {P : Program} {w : World} {K : PySem.W.Frag} {mg : Str → Option Value} {base : Heap} {fa : Addr} {fd : FuncData} (B : Bs mg) (F : FunD K "_law_same" "_law_same" (defArgs s__law_same) (defBody s__law_same) (defScope s__law_same) [] [] fa fd) (hm : mg "_law_same" = some (.ref fa)) : ∀ m : Nat, FnG P w K mg base "_law_same" (0 + m) 2 (F__law_same m)
  | 0 => fn_none F hm ["told", "due"] (fun _ _ _ _ _ _ us hl => match us, hl with | [_, _], _ => rfl)
  | m + 1 => by
    have G__law_same := ok__law_same (P := P) (w := w) (base := base) B F hm m
    refine fn_okM (k := 0 + m) (ps := ["told", "due"]) (N := N__law_same) (Pr := []) F sc__law_same (by decide) hm (fun _ _ _ _ _ _ us hl => match us, hl with | [_, _], _ => rfl) fun A s_0 H_0 env outer stack ex pn hr => ?_
    have hu : A.units + 64 < cLine := by have := hr.un; omega
    exact (vb_cons (vs_if (VW.vt (vw_or (t_call (e_isi B.isinstance_ B.list_ boot_t_list (e_var (by kernel_rfl)) (by kernel_rfl))) (vw_or1 (t_call (e_isi B.isinstance_ B.tuple_ boot_t_tuple (e_var (by kernel_rfl)) (by kernel_rfl)))))) (vb_cons (vs_if (VW.vt (vw_or (t_cmp (op_neA hu) opv_ne (e_isi B.isinstance_ B.list_ boot_t_list (e_var (by kernel_rfl)) (by kernel_rfl)) (e_isi B.isinstance_ B.list_ boot_t_list (e_var (by kernel_rfl)) (by kernel_rfl)) rfl) (vw_or1 (t_cmp (op_neA hu) opv_ne (e_isi B.isinstance_ B.tuple_ boot_t_tuple (e_var (by kernel_rfl)) (by kernel_rfl)) (e_isi B.isinstance_ B.tuple_ boot_t_tuple (e_var (by kernel_rfl)) (by kernel_rfl)) rfl)))) (vb_one (vs_ret ve_bl)) vb_nil)
    (vb_cons (vs_if (t_cmp (op_neA hu) opv_ne (e_len B.len_ (e_var (by kernel_rfl)) (by kernel_rfl)) (e_len B.len_ (e_var (by kernel_rfl)) (by kernel_rfl)) rfl) (vb_one (vs_ret ve_bl)) vb_nil)
    (vb_cons (s_for rfl rfl (i_rng1 B.range_ (ve_F (e_len B.len_ (e_var (by kernel_rfl)) (by kernel_rfl))) (by kernel_rfl)) (g_name (by kernel_rfl)) (vb_one (vs_if (vt_not (t_call (e_call G__law_same hr (a_ex (ve_F (e_ix (e_var (by kernel_rfl)) (e_var (by kernel_rfl)) rfl)) (a_ex (ve_F (e_ix (e_var (by kernel_rfl)) (e_var (by kernel_rfl)) rfl)) va_nil rfl) rfl) rfl (by kernel_rfl) (by rfl)))) (vb_one (vs_ret ve_bl)) vb_nil)) rfl)
    (vb_one (vs_ret ve_bl))))) vb_nil)
    (vb_cons (vs_if (t_cmp op_isA opv_is (e_var (by kernel_rfl)) ve_non rfl) (vb_one (vs_ret (e_cmp op_isA opv_is (e_var (by kernel_rfl)) ve_non rfl))) vb_nil)
    (vb_cons (vs_if (t_call (e_isi B.isinstance_ B.bool_ boot_t_bool (e_var (by kernel_rfl)) (by kernel_rfl))) (vb_one (vs_ret (ve_and (e_isi B.isinstance_ B.bool_ boot_t_bool (e_var (by kernel_rfl)) (by kernel_rfl)) (ve_one (e_cmp (op_eqA hu) opv_eq (e_var (by kernel_rfl)) (e_var (by kernel_rfl)) rfl))))) vb_nil)
    (vb_cons (vs_if (t_call (e_isi B.isinstance_ B.int_ boot_t_int (e_var (by kernel_rfl)) (by kernel_rfl))) (vb_one (vs_ret (ve_and (e_isi B.isinstance_ B.int_ boot_t_int (e_var (by kernel_rfl)) (by kernel_rfl)) (ve_and (ve_not (e_isi B.isinstance_ B.bool_ boot_t_bool (e_var (by kernel_rfl)) (by kernel_rfl))) (ve_one (e_cmp (op_eqA hu) opv_eq (e_var (by kernel_rfl)) (e_var (by kernel_rfl)) rfl)))))) vb_nil)
    (vb_one (vs_ret (ve_and (e_isi B.isinstance_ B.str_ boot_t_str (e_var (by kernel_rfl)) (by kernel_rfl)) (ve_one (e_cmp (op_eqA hu) opv_eq (e_var (by kernel_rfl)) (e_var (by kernel_rfl)) rfl)))))))))
def l__law_asks1 (c__law_draw : Sem1) : Es := (sSeq (sAsg (dLst (dCons (dF (dC (.int 0))) (dCons (dF (dBin gSub (dVar 2) (dC (.int 1)))) (dCons (dF (dVar 2)) (dCons (dF (dBin gAdd (dVar 2) (dC (.int 1)))) (dCons (dF (dC (.int 1))) (dCons (dF (dCall c__law_draw [.io 0, .ex (dF (dBin gMul (dC (.int 2)) (dVar 2)))])) (dCons (dF (dCall c__law_draw [.io 0, .ex (dF (dC (.int 5)))])) dNil)))))))) (gSet 6)) (sSeq (sIf (dT (dBin gGt (dVar 5) (dC (.int 0)))) (sAsg (dBin gMin2 (dC (.int 9999)) (dBin gAdd (dVar 4) (dIx (dVar 6) (dCall c__law_draw [.io 0, .ex (dF (dC (.int 7)))])))) (gSet 4)) sNx) (sExpr (dMut fApp (dVar 3) (dCons (dF (dVar 4)) dNil)))))
def N__law_asks : List Str := ["feed", "many", "long", "asks", "time", "k", "steps"]
theorem sc__law_asks : FnScope N__law_asks ["feed", "many", "long"] (defScope s__law_asks) := ⟨rfl, rfl, rfl, by decide +kernel, rfl, by decide +kernel, by decide +kernel⟩
def b__law_asks (c__law_draw : Sem1) : Es := (sSeq (sAsg (dLst dNil) (gSet 3)) (sSeq (sAsg (dCall c__law_draw [.io 0, .ex (dF (dC (.int 30)))]) (gSet 4)) (sSeq (sFor (dRng1 (dF (dVar 1))) (gSet 5) (l__law_asks1 c__law_draw)) (sRet [0] (dVar 3)))))
def F__law_asks : Sem1 := fnD 3 7 [0] (b__law_asks F__law_draw)
theorem ok__law_asks {P : Program} {w : World} {K : PySem.W.Frag} {mg : Str → Option Value} {base : Heap} {fa : Addr} {fd : FuncData} (B : Bs mg) (F : FunD K "_law_asks" "_law_asks" (defArgs s__law_asks) (defBody s__law_asks) (defScope s__law_asks) [] [] fa fd) (hm : mg "_law_asks" = some (.ref fa)) (G__law_draw : FnG P w K mg base "_law_draw" 1 2 F__law_draw) : FnG P w K mg base "_law_asks" 2 3 F__law_asks := by
  replace G__law_draw := G__law_draw.mono (k := 1) (by decide)
  refine fn_okM (ps := ["feed", "many", "long"]) (N := N__law_asks) (Pr := [0]) F sc__law_asks (by decide) hm (fun _ _ _ _ _ _ us hl => match us, hl with | [_, _, _], _ => rfl) fun A s_0 H_0 env outer stack ex pn hr => ?_
  have hu : A.units + 64 < cLine := by have := hr.un; omega
  exact (vb_cons (s_set (ve_lst vl_nil) (by kernel_rfl))
    (vb_cons (s_set (e_call G__law_draw hr (a_io (a_ex (ve_F ve_int) va_nil rfl) (by kernel_rfl)) rfl (by kernel_rfl) (by rfl)) (by kernel_rfl))
    (vb_cons (s_for rfl rfl (i_rng1 B.range_ (ve_F (e_var (by kernel_rfl))) (by kernel_rfl)) (g_name (by kernel_rfl)) (vb_cons (s_set (ve_lst (l_cons (ve_F ve_int) (l_cons (ve_F (ve_bin op_sub opv_sub (e_var (by kernel_rfl)) ve_int)) (l_cons (ve_F (e_var (by kernel_rfl))) (l_cons (ve_F (ve_bin op_addA opv_add (e_var (by kernel_rfl)) ve_int)) (l_cons (ve_F ve_int) (l_cons (ve_F (e_call G__law_draw hr (a_io (a_ex (ve_F (ve_bin op_mulA opv_mul ve_int (e_var (by kernel_rfl)))) va_nil rfl) (by kernel_rfl)) rfl (by kernel_rfl) (by rfl))) (l_cons (ve_F (e_call G__law_draw hr (a_io (a_ex (ve_F ve_int) va_nil rfl) (by kernel_rfl)) rfl (by kernel_rfl) (by rfl))) vl_nil rfl) rfl) rfl) rfl) rfl) rfl) rfl)) (by kernel_rfl))
    (vb_cons (vs_if (t_cmp op_gt opv_gt (e_var (by kernel_rfl)) ve_int rfl) (vb_one (s_set (e_min2 rfl B.min_ ve_int (ve_bin op_addA opv_add (e_var (by kernel_rfl)) (e_ix (e_var (by kernel_rfl)) (e_call G__law_draw hr (a_io (a_ex (ve_F ve_int) va_nil rfl) (by kernel_rfl)) rfl (by kernel_rfl) (by rfl)) rfl)) (by kernel_rfl)) (by kernel_rfl))) vb_nil)
    (vb_one (s_expr (e_append (e_var (by kernel_rfl)) (l_cons (ve_F (e_var (by kernel_rfl))) vl_nil rfl) (by kernel_rfl)) rfl)))) rfl)
    (vb_one (vs_ret (e_var (by kernel_rfl)))))))
def l__law_run1 : Es := (sIf (dT (dBin gEq (dVar 3) (dC (.int 0)))) (sExpr (dMut fApp (dVar 2) (dCons (dF (dC (.int 0))) dNil))) (sIf (dT (dBin gLt (dIx (dVar 0) (dVar 3)) (dBin gAdd (dIx (dVar 0) (dIx (dVar 2) (dBin gSub (dVar 3) (dC (.int 1))))) (dVar 1)))) (sExpr (dMut fApp (dVar 2) (dCons (dF (dIx (dVar 2) (dBin gSub (dVar 3) (dC (.int 1))))) dNil))) (sExpr (dMut fApp (dVar 2) (dCons (dF (dVar 3)) dNil)))))
def N__law_run : List Str := ["asks", "long", "told", "k"]
theorem sc__law_run : FnScope N__law_run ["asks", "long"] (defScope s__law_run) := ⟨rfl, rfl, rfl, by decide +kernel, rfl, by decide +kernel, by decide +kernel⟩
def b__law_run : Es := (sSeq (sAsg (dLst dNil) (gSet 2)) (sSeq (sFor (dRng1 (dF (dUn gLen (dVar 0)))) (gSet 3) l__law_run1) (sRet [] (dVar 2))))
def F__law_run : Sem1 := fnD 2 4 [] (b__law_run)
theorem ok__law_run {P : Program} {w : World} {K : PySem.W.Frag} {mg : Str → Option Value} {base : Heap} {fa : Addr} {fd : FuncData} (B : Bs mg) (F : FunD K "_law_run" "_law_run" (defArgs s__law_run) (defBody s__law_run) (defScope s__law_run) [] [] fa fd) (hm : mg "_law_run" = some (.ref fa)) : FnG P w K mg base "_law_run" 1 2 F__law_run := by
  refine fn_okM (ps := ["asks", "long"]) (N := N__law_run) (Pr := []) F sc__law_run (by decide) hm (fun _ _ _ _ _ _ us hl => match us, hl with | [_, _], _ => rfl) fun A s_0 H_0 env outer stack ex pn hr => ?_
  have hu : A.units + 64 < cLine := by have := hr.un; omega
  exact (vb_cons (s_set (ve_lst vl_nil) (by kernel_rfl))
    (vb_cons (s_for rfl rfl (i_rng1 B.range_ (ve_F (e_len B.len_ (e_var (by kernel_rfl)) (by kernel_rfl))) (by kernel_rfl)) (g_name (by kernel_rfl)) (vb_one (vs_if (t_cmp (op_eqA hu) opv_eq (e_var (by kernel_rfl)) ve_int rfl) (vb_one (s_expr (e_append (e_var (by kernel_rfl)) (l_cons (ve_F ve_int) vl_nil rfl) (by kernel_rfl)) rfl)) (vb_one (vs_if (t_cmp op_lt opv_lt (e_ix (e_var (by kernel_rfl)) (e_var (by kernel_rfl)) rfl) (ve_bin op_addA opv_add (e_ix (e_var (by kernel_rfl)) (e_ix (e_var (by kernel_rfl)) (ve_bin op_sub opv_sub (e_var (by kernel_rfl)) ve_int) rfl) rfl) (e_var (by kernel_rfl))) rfl) (vb_one (s_expr (e_append (e_var (by kernel_rfl)) (l_cons (ve_F (e_ix (e_var (by kernel_rfl)) (ve_bin op_sub opv_sub (e_var (by kernel_rfl)) ve_int) rfl)) vl_nil rfl) (by kernel_rfl)) rfl)) (vb_one (s_expr (e_append (e_var (by kernel_rfl)) (l_cons (ve_F (e_var (by kernel_rfl))) vl_nil rfl) (by kernel_rfl)) rfl)))))) rfl)
    (vb_one (vs_ret (e_var (by kernel_rfl))))))
def v__law_serves1 : Fv := (dF (dVar 4))
def l__law_serves2 : Es := (sIf (dT (dBin gEq (dUn gLen (dLc (dIt (dF (dVar 2))) (gSet 4) (dAndT (dT (dBin gLe (dIx (dVar 0) (dVar 4)) (dVar 3))) (dT (dBin gLt (dBin gSub (dVar 3) (dIx (dVar 0) (dVar 4))) (dVar 1)))) v__law_serves1 [4])) (dC (.int 0)))) (sRet [] (dC (.bool false))) sNx)
def N__law_serves : List Str := ["asks", "long", "sent", "time", "k"]
theorem sc__law_serves : FnScope N__law_serves ["asks", "long", "sent"] (defScope s__law_serves) := ⟨rfl, rfl, rfl, by decide +kernel, rfl, by decide +kernel, by decide +kernel⟩
def b__law_serves : Es := (sSeq (sFor (dIt (dF (dVar 0))) (gSet 3) l__law_serves2) (sRet [] (dC (.bool true))))
def F__law_serves : Sem1 := fnD 3 5 [] (b__law_serves)
theorem ok__law_serves {P : Program} {w : World} {K : PySem.W.Frag} {mg : Str → Option Value} {base : Heap} {fa : Addr} {fd : FuncData} (B : Bs mg) (F : FunD K "_law_serves" "_law_serves" (defArgs s__law_serves) (defBody s__law_serves) (defScope s__law_serves) [] [] fa fd) (hm : mg "_law_serves" = some (.ref fa)) : FnG P w K mg base "_law_serves" 1 3 F__law_serves := by
  refine fn_okM (ps := ["asks", "long", "sent"]) (N := N__law_serves) (Pr := []) F sc__law_serves (by decide) hm (fun _ _ _ _ _ _ us hl => match us, hl with | [_, _, _], _ => rfl) fun A s_0 H_0 env outer stack ex pn hr => ?_
  have hu : A.units + 64 < cLine := by have := hr.un; omega
  exact (vb_cons (s_for rfl rfl (vi_seq (ve_F (e_var (by kernel_rfl)))) (g_name (by kernel_rfl)) (vb_one (vs_if (t_cmp (op_eqA hu) opv_eq (e_len B.len_ (e_lc [("k", 4)] rfl (vi_seq (ve_F (e_var (by kernel_rfl)))) (fun _ _ _ _ _ => (g_name (by kernel_rfl))) (fun _ _ _ _ _ => (vts_one (VW.vt (vw_and (t_cmp op_le opv_le (e_ix (e_var (by kernel_rfl)) (e_var (by kernel_rfl)) rfl) (e_var (by kernel_rfl)) rfl) (vw_and1 (t_cmp op_lt opv_lt (ve_bin op_sub opv_sub (e_var (by kernel_rfl)) (e_ix (e_var (by kernel_rfl)) (e_var (by kernel_rfl)) rfl)) (e_var (by kernel_rfl)) rfl)))))) (fun _ _ _ _ _ => (ve_F (e_var (by kernel_rfl)))) (by kernel_rfl)) (by kernel_rfl)) ve_int rfl) (vb_one (vs_ret ve_bl)) vb_nil)) rfl)
    (vb_one (vs_ret ve_bl)))
def v__law_least1 (c__law_serves : Sem1) : Fv := (dF (dUn gLen (dVar 4)))
def v__law_least2 (c__law_serves : Sem1) : Fv := (dF (dBin gAdd (dVar 4) (dLst (dCons (dF (dVar 3)) dNil))))
def l__law_least3 (c__law_serves : Sem1) : Es := (sAsg (dBin gAdd (dVar 2) (dLc (dIt (dF (dVar 2))) (gSet 4) dYes (v__law_least2 c__law_serves) [4])) (gSet 2))
def N__law_least : List Str := ["asks", "long", "lists", "k", "row"]
theorem sc__law_least : FnScope N__law_least ["asks", "long"] (defScope s__law_least) := ⟨rfl, rfl, rfl, by decide +kernel, rfl, by decide +kernel, by decide +kernel⟩
def b__law_least (c__law_serves : Sem1) : Es := (sSeq (sAsg (dLst (dCons (dF (dLst dNil)) dNil)) (gSet 2)) (sSeq (sFor (dRng1 (dF (dUn gLen (dVar 0)))) (gSet 3) (l__law_least3 c__law_serves)) (sRet [] (dUn gMinI (dLc (dIt (dF (dVar 2))) (gSet 4) (dT (dCall c__law_serves [.ex (dF (dVar 0)), .ex (dF (dVar 1)), .ex (dF (dVar 4))])) (v__law_least1 c__law_serves) [4])))))
def F__law_least : Sem1 := fnD 2 5 [] (b__law_least F__law_serves)
theorem ok__law_least {P : Program} {w : World} {K : PySem.W.Frag} {mg : Str → Option Value} {base : Heap} {fa : Addr} {fd : FuncData} (B : Bs mg) (F : FunD K "_law_least" "_law_least" (defArgs s__law_least) (defBody s__law_least) (defScope s__law_least) [] [] fa fd) (hm : mg "_law_least" = some (.ref fa)) (G__law_serves : FnG P w K mg base "_law_serves" 1 3 F__law_serves) : FnG P w K mg base "_law_least" 2 2 F__law_least := by
  replace G__law_serves := G__law_serves.mono (k := 1) (by decide)
  refine fn_okM (ps := ["asks", "long"]) (N := N__law_least) (Pr := []) F sc__law_least (by decide) hm (fun _ _ _ _ _ _ us hl => match us, hl with | [_, _], _ => rfl) fun A s_0 H_0 env outer stack ex pn hr => ?_
  have hu : A.units + 64 < cLine := by have := hr.un; omega
  exact (vb_cons (s_set (ve_lst (l_cons (ve_F (ve_lst vl_nil)) vl_nil rfl)) (by kernel_rfl))
    (vb_cons (s_for rfl rfl (i_rng1 B.range_ (ve_F (e_len B.len_ (e_var (by kernel_rfl)) (by kernel_rfl))) (by kernel_rfl)) (g_name (by kernel_rfl)) (vb_one (s_set (ve_bin op_addA opv_add (e_var (by kernel_rfl)) (e_lc [("row", 4)] rfl (vi_seq (ve_F (e_var (by kernel_rfl)))) (fun _ _ _ _ _ => (g_name (by kernel_rfl))) (fun _ _ _ _ _ => vts_nil) (fun _ _ _ _ _ => (ve_F (ve_bin op_addA opv_add (e_var (by kernel_rfl)) (ve_lst (l_cons (ve_F (e_var (by kernel_rfl))) vl_nil rfl))))) (by kernel_rfl))) (by kernel_rfl))) rfl)
    (vb_one (vs_ret (e_min rfl B.min_ (e_lc [("row", 4)] rfl (vi_seq (ve_F (e_var (by kernel_rfl)))) (fun _ _ _ _ _ => (g_name (by kernel_rfl))) (fun _ _ _ _ _ => (vts_one (t_call (e_call G__law_serves hr (a_ex (ve_F (e_var (by kernel_rfl))) (a_ex (ve_F (e_var (by kernel_rfl))) (a_ex (ve_F (e_var (by kernel_rfl))) va_nil rfl) rfl) rfl) rfl (by kernel_rfl) (by rfl))))) (fun _ _ _ _ _ => (ve_F (e_len B.len_ (e_var (by kernel_rfl)) (by kernel_rfl)))) (by kernel_rfl)) (by kernel_rfl))))))
def l__law_is_apart1 : Es := (sSeq (sIf (dOrT (dNotT (dT (dUn (gIsI "int") (dVar 5)))) (dOrT (dT (dUn (gIsI "bool") (dVar 5))) (dOrT (dT (dBin gLe (dVar 5) (dVar 4))) (dT (dBin gGe (dVar 5) (dUn gLen (dVar 0))))))) (sRet [] (dC (.bool false))) sNx) (sSeq (sIf (dAndT (dT (dBin gGe (dVar 4) (dC (.int 0)))) (dT (dBin gLt (dBin gSub (dIx (dVar 0) (dVar 5)) (dIx (dVar 0) (dVar 4))) (dVar 1)))) (sRet [] (dC (.bool false))) sNx) (sAsg (dVar 5) (gSet 4))))
def N__law_is_apart : List Str := ["asks", "long", "apart", "many", "before", "at"]
theorem sc__law_is_apart : FnScope N__law_is_apart ["asks", "long", "apart", "many"] (defScope s__law_is_apart) := ⟨rfl, rfl, rfl, by decide +kernel, rfl, by decide +kernel, by decide +kernel⟩
def b__law_is_apart : Es := (sSeq (sIf (dOrT (dNotT (dT (dUn (gIsI "list") (dVar 2)))) (dT (dBin gNe (dUn gLen (dVar 2)) (dVar 3)))) (sRet [] (dC (.bool false))) sNx) (sSeq (sAsg (dUn gNeg (dC (.int 1))) (gSet 4)) (sSeq (sFor (dIt (dF (dVar 2))) (gSet 5) l__law_is_apart1) (sRet [] (dC (.bool true))))))
def F__law_is_apart : Sem1 := fnD 4 6 [] (b__law_is_apart)
theorem ok__law_is_apart {P : Program} {w : World} {K : PySem.W.Frag} {mg : Str → Option Value} {base : Heap} {fa : Addr} {fd : FuncData} (B : Bs mg) (F : FunD K "_law_is_apart" "_law_is_apart" (defArgs s__law_is_apart) (defBody s__law_is_apart) (defScope s__law_is_apart) [] [] fa fd) (hm : mg "_law_is_apart" = some (.ref fa)) : FnG P w K mg base "_law_is_apart" 1 4 F__law_is_apart := by
  refine fn_okM (ps := ["asks", "long", "apart", "many"]) (N := N__law_is_apart) (Pr := []) F sc__law_is_apart (by decide) hm (fun _ _ _ _ _ _ us hl => match us, hl with | [_, _, _, _], _ => rfl) fun A s_0 H_0 env outer stack ex pn hr => ?_
  have hu : A.units + 64 < cLine := by have := hr.un; omega
  exact (vb_cons (vs_if (VW.vt (vw_or (vt_not (t_call (e_isi B.isinstance_ B.list_ boot_t_list (e_var (by kernel_rfl)) (by kernel_rfl)))) (vw_or1 (t_cmp (op_neA hu) opv_ne (e_len B.len_ (e_var (by kernel_rfl)) (by kernel_rfl)) (e_var (by kernel_rfl)) rfl)))) (vb_one (vs_ret ve_bl)) vb_nil)
    (vb_cons (s_set (ve_un un_neg unv_neg ve_int) (by kernel_rfl))
    (vb_cons (s_for rfl rfl (vi_seq (ve_F (e_var (by kernel_rfl)))) (g_name (by kernel_rfl)) (vb_cons (vs_if (VW.vt (vw_or (vt_not (t_call (e_isi B.isinstance_ B.int_ boot_t_int (e_var (by kernel_rfl)) (by kernel_rfl)))) (vw_or (t_call (e_isi B.isinstance_ B.bool_ boot_t_bool (e_var (by kernel_rfl)) (by kernel_rfl))) (vw_or (t_cmp op_le opv_le (e_var (by kernel_rfl)) (e_var (by kernel_rfl)) rfl) (vw_or1 (t_cmp op_ge opv_ge (e_var (by kernel_rfl)) (e_len B.len_ (e_var (by kernel_rfl)) (by kernel_rfl)) rfl)))))) (vb_one (vs_ret ve_bl)) vb_nil)
    (vb_cons (vs_if (VW.vt (vw_and (t_cmp op_ge opv_ge (e_var (by kernel_rfl)) ve_int rfl) (vw_and1 (t_cmp op_lt opv_lt (ve_bin op_sub opv_sub (e_ix (e_var (by kernel_rfl)) (e_var (by kernel_rfl)) rfl) (e_ix (e_var (by kernel_rfl)) (e_var (by kernel_rfl)) rfl)) (e_var (by kernel_rfl)) rfl)))) (vb_one (vs_ret ve_bl)) vb_nil)
    (vb_one (s_set (e_var (by kernel_rfl)) (by kernel_rfl))))) rfl)
    (vb_one (vs_ret ve_bl)))))
def v__law_fewest_holds1 (c__law_least c_fewest_asks c__law_same c__law_is_apart c_shows_apart : Sem1) : Fv := (dF (dVar 4))
def N__law_fewest_holds : List Str := ["asks", "long", "due", "many", "k", "handed", "told", "again"]
theorem sc__law_fewest_holds : FnScope N__law_fewest_holds ["asks", "long", "due"] (defScope s__law_fewest_holds) := ⟨rfl, rfl, rfl, by decide +kernel, rfl, by decide +kernel, by decide +kernel⟩
def b__law_fewest_holds (c__law_least c_fewest_asks c__law_same c__law_is_apart c_shows_apart : Sem1) : Es := (sSeq (sAsg (dUn gLen (dLc (dRng1 (dF (dUn gLen (dVar 0)))) (gSet 4) (dT (dBin gEq (dIx (dVar 2) (dVar 4)) (dVar 4))) (v__law_fewest_holds1 c__law_least c_fewest_asks c__law_same c__law_is_apart c_shows_apart) [4])) (gSet 3)) (sSeq (sIf (dAndT (dT (dBin gLt (dUn gLen (dVar 0)) (dC (.int 8)))) (dT (dBin gNe (dCall c__law_least [.ex (dF (dVar 0)), .ex (dF (dVar 1))]) (dVar 3)))) (sRet [] (dC (.bool false))) sNx) (sSeq (sAsg (dUn gList (dVar 0)) (gSet 5)) (sSeq (sAsg (dCall c_fewest_asks [.ex (dF (dVar 5)), .ex (dF (dVar 1))]) (gSet 6)) (sSeq (sIf (dOrT (dT (dBin gNe (dVar 5) (dVar 0))) (dOrT (dNotT (dT (dUn (gIsI "tuple") (dVar 6)))) (dT (dBin gNe (dUn gLen (dVar 6)) (dC (.int 2)))))) (sRet [] (dC (.bool false))) sNx) (sSeq (sIf (dOrT (dNotT (dT (dCall c__law_same [.pt 6 0 (dIx (dVar 6) (dC (.int 0))), .ex (dF (dVar 3))]))) (dNotT (dT (dCall c__law_is_apart [.ex (dF (dVar 0)), .ex (dF (dVar 1)), .pt 6 1 (dIx (dVar 6) (dC (.int 1))), .ex (dF (dVar 3))])))) (sRet [] (dC (.bool false))) sNx) (sSeq (sIf (dT (dBin gIsN (dCall c_shows_apart [.ex (dF (dVar 5)), .ex (dF (dVar 1)), .ex (dF (dUn gList (dIx (dVar 6) (dC (.int 1)))))]) (dC (.bool true)))) (sRet [] (dC (.bool false))) sNx) (sSeq (sExpr (dMut fApp (dIx (dVar 6) (dC (.int 1))) (dCons (dF (dC (.int 99))) dNil))) (sSeq (sAsg (dCall c_fewest_asks [.ex (dF (dVar 5)), .ex (dF (dVar 1))]) (gSet 7)) (sRet [] (dAnd (dCall c__law_same [.ex (dF (dIx (dVar 7) (dC (.int 0)))), .ex (dF (dVar 3))]) (dCall c__law_is_apart [.ex (dF (dVar 0)), .ex (dF (dVar 1)), .ex (dF (dIx (dVar 7) (dC (.int 1)))), .ex (dF (dVar 3))]))))))))))))
def F__law_fewest_holds : Sem1 := fnD 3 8 [] (b__law_fewest_holds F__law_least F_fewest_asks (F__law_same 8) F__law_is_apart F_shows_apart)
theorem ok__law_fewest_holds {P : Program} {w : World} {K : PySem.W.Frag} {mg : Str → Option Value} {base : Heap} {fa : Addr} {fd : FuncData} (B : Bs mg) (F : FunD K "_law_fewest_holds" "_law_fewest_holds" (defArgs s__law_fewest_holds) (defBody s__law_fewest_holds) (defScope s__law_fewest_holds) [] [] fa fd) (hm : mg "_law_fewest_holds" = some (.ref fa)) (G__law_least : FnG P w K mg base "_law_least" 2 2 F__law_least) (G_fewest_asks : FnG P w K mg base "fewest_asks" 2 2 F_fewest_asks) (G__law_same : FnG P w K mg base "_law_same" 8 2 (F__law_same 8)) (G__law_is_apart : FnG P w K mg base "_law_is_apart" 1 4 F__law_is_apart) (G_shows_apart : FnG P w K mg base "shows_apart" 5 3 F_shows_apart) : FnG P w K mg base "_law_fewest_holds" 9 3 F__law_fewest_holds := by
  replace G__law_least := G__law_least.mono (k := 8) (by decide)
  replace G_fewest_asks := G_fewest_asks.mono (k := 8) (by decide)
  replace G__law_same := G__law_same.mono (k := 8) (by decide)
  replace G__law_is_apart := G__law_is_apart.mono (k := 8) (by decide)
  replace G_shows_apart := G_shows_apart.mono (k := 8) (by decide)
  refine fn_okM (ps := ["asks", "long", "due"]) (N := N__law_fewest_holds) (Pr := []) F sc__law_fewest_holds (by decide) hm (fun _ _ _ _ _ _ us hl => match us, hl with | [_, _, _], _ => rfl) fun A s_0 H_0 env outer stack ex pn hr => ?_
  have hu : A.units + 64 < cLine := by have := hr.un; omega
  exact (vb_cons (s_set (e_len B.len_ (e_lc [("k", 4)] rfl (i_rng1 B.range_ (ve_F (e_len B.len_ (e_var (by kernel_rfl)) (by kernel_rfl))) (by kernel_rfl)) (fun _ _ _ _ _ => (g_name (by kernel_rfl))) (fun _ _ _ _ _ => (vts_one (t_cmp (op_eqA hu) opv_eq (e_ix (e_var (by kernel_rfl)) (e_var (by kernel_rfl)) rfl) (e_var (by kernel_rfl)) rfl))) (fun _ _ _ _ _ => (ve_F (e_var (by kernel_rfl)))) (by kernel_rfl)) (by kernel_rfl)) (by kernel_rfl))
    (vb_cons (vs_if (VW.vt (vw_and (t_cmp op_lt opv_lt (e_len B.len_ (e_var (by kernel_rfl)) (by kernel_rfl)) ve_int rfl) (vw_and1 (t_cmp (op_neA hu) opv_ne (e_call G__law_least hr (a_ex (ve_F (e_var (by kernel_rfl))) (a_ex (ve_F (e_var (by kernel_rfl))) va_nil rfl) rfl) rfl (by kernel_rfl) (by rfl)) (e_var (by kernel_rfl)) rfl)))) (vb_one (vs_ret ve_bl)) vb_nil)
    (vb_cons (s_set (e_list B.list_ (e_var (by kernel_rfl)) (by kernel_rfl)) (by kernel_rfl))
    (vb_cons (s_set (e_call G_fewest_asks hr (a_ex (ve_F (e_var (by kernel_rfl))) (a_ex (ve_F (e_var (by kernel_rfl))) va_nil rfl) rfl) rfl (by kernel_rfl) (by rfl)) (by kernel_rfl))
    (vb_cons (vs_if (VW.vt (vw_or (t_cmp (op_neA hu) opv_ne (e_var (by kernel_rfl)) (e_var (by kernel_rfl)) rfl) (vw_or (vt_not (t_call (e_isi B.isinstance_ B.tuple_ boot_t_tuple (e_var (by kernel_rfl)) (by kernel_rfl)))) (vw_or1 (t_cmp (op_neA hu) opv_ne (e_len B.len_ (e_var (by kernel_rfl)) (by kernel_rfl)) ve_int rfl))))) (vb_one (vs_ret ve_bl)) vb_nil)
    (vb_cons (vs_if (VW.vt (vw_or (vt_not (t_call (e_call G__law_same hr (a_pt (e_ix (e_var (by kernel_rfl)) ve_int rfl) (a_ex (ve_F (e_var (by kernel_rfl))) va_nil rfl) rfl) rfl (by kernel_rfl) (by rfl)))) (vw_or1 (vt_not (t_call (e_call G__law_is_apart hr (a_ex (ve_F (e_var (by kernel_rfl))) (a_ex (ve_F (e_var (by kernel_rfl))) (a_pt (e_ix (e_var (by kernel_rfl)) ve_int rfl) (a_ex (ve_F (e_var (by kernel_rfl))) va_nil rfl) rfl) rfl) rfl) rfl (by kernel_rfl) (by rfl))))))) (vb_one (vs_ret ve_bl)) vb_nil)
    (vb_cons (vs_if (t_cmp op_isnA opv_isn (e_call G_shows_apart hr (a_ex (ve_F (e_var (by kernel_rfl))) (a_ex (ve_F (e_var (by kernel_rfl))) (a_ex (ve_F (e_list B.list_ (e_ix (e_var (by kernel_rfl)) ve_int rfl) (by kernel_rfl))) va_nil rfl) rfl) rfl) rfl (by kernel_rfl) (by rfl)) ve_bl rfl) (vb_one (vs_ret ve_bl)) vb_nil)
    (vb_cons (s_expr (e_append (e_ix (e_var (by kernel_rfl)) ve_int rfl) (l_cons (ve_F ve_int) vl_nil rfl) (by kernel_rfl)) rfl)
    (vb_cons (s_set (e_call G_fewest_asks hr (a_ex (ve_F (e_var (by kernel_rfl))) (a_ex (ve_F (e_var (by kernel_rfl))) va_nil rfl) rfl) rfl (by kernel_rfl) (by rfl)) (by kernel_rfl))
    (vb_one (vs_ret (ve_and (e_call G__law_same hr (a_ex (ve_F (e_ix (e_var (by kernel_rfl)) ve_int rfl)) (a_ex (ve_F (e_var (by kernel_rfl))) va_nil rfl) rfl) rfl (by kernel_rfl) (by rfl)) (ve_one (e_call G__law_is_apart hr (a_ex (ve_F (e_var (by kernel_rfl))) (a_ex (ve_F (e_var (by kernel_rfl))) (a_ex (ve_F (e_ix (e_var (by kernel_rfl)) ve_int rfl)) (a_ex (ve_F (e_var (by kernel_rfl))) va_nil rfl) rfl) rfl) rfl) rfl (by kernel_rfl) (by rfl)))))))))))))))
def l__law_holds1 (c__law_run c_made_one c__law_same c__law_fewest_holds : Sem1) : Es := (sIf (dNotT (dT (dChain gLe gLt (dC (.int 0)) (dBin gSub (dIx (dVar 0) (dVar 5)) (dIx (dVar 0) (dIx (dVar 4) (dVar 5)))) (dVar 1)))) (sRet [] (dC (.bool false))) sNx)
def N__law_holds : List Str := ["asks", "long", "due", "handed", "told", "k"]
theorem sc__law_holds : FnScope N__law_holds ["asks", "long"] (defScope s__law_holds) := ⟨rfl, rfl, rfl, by decide +kernel, rfl, by decide +kernel, by decide +kernel⟩
def b__law_holds (c__law_run c_made_one c__law_same c__law_fewest_holds : Sem1) : Es := (sSeq (sAsg (dCall c__law_run [.ex (dF (dVar 0)), .ex (dF (dVar 1))]) (gSet 2)) (sSeq (sAsg (dUn gList (dVar 0)) (gSet 3)) (sSeq (sAsg (dCall c_made_one [.ex (dF (dVar 3)), .ex (dF (dVar 1))]) (gSet 4)) (sSeq (sIf (dOrT (dNotT (dT (dCall c__law_same [.var 4, .ex (dF (dVar 2))]))) (dT (dBin gNe (dVar 3) (dVar 0)))) (sRet [] (dC (.bool false))) sNx) (sSeq (sFor (dRng1 (dF (dUn gLen (dVar 0)))) (gSet 5) (l__law_holds1 c__law_run c_made_one c__law_same c__law_fewest_holds)) (sSeq (sExpr (dMut fApp (dVar 4) (dCons (dF (dC (.int 0))) dNil))) (sSeq (sIf (dNotT (dT (dCall c__law_same [.ex (dF (dCall c_made_one [.ex (dF (dVar 3)), .ex (dF (dVar 1))])), .ex (dF (dVar 2))]))) (sRet [] (dC (.bool false))) sNx) (sRet [] (dCall c__law_fewest_holds [.ex (dF (dVar 0)), .ex (dF (dVar 1)), .ex (dF (dVar 2))])))))))))
def F__law_holds : Sem1 := fnD 2 6 [] (b__law_holds F__law_run F_made_one (F__law_same 8) F__law_fewest_holds)
theorem ok__law_holds {P : Program} {w : World} {K : PySem.W.Frag} {mg : Str → Option Value} {base : Heap} {fa : Addr} {fd : FuncData} (B : Bs mg) (F : FunD K "_law_holds" "_law_holds" (defArgs s__law_holds) (defBody s__law_holds) (defScope s__law_holds) [] [] fa fd) (hm : mg "_law_holds" = some (.ref fa)) (G__law_run : FnG P w K mg base "_law_run" 1 2 F__law_run) (G_made_one : FnG P w K mg base "made_one" 1 2 F_made_one) (G__law_same : FnG P w K mg base "_law_same" 8 2 (F__law_same 8)) (G__law_fewest_holds : FnG P w K mg base "_law_fewest_holds" 9 3 F__law_fewest_holds) : FnG P w K mg base "_law_holds" 10 2 F__law_holds := by
  replace G__law_run := G__law_run.mono (k := 9) (by decide)
  replace G_made_one := G_made_one.mono (k := 9) (by decide)
  replace G__law_same := G__law_same.mono (k := 9) (by decide)
  replace G__law_fewest_holds := G__law_fewest_holds.mono (k := 9) (by decide)
  refine fn_okM (ps := ["asks", "long"]) (N := N__law_holds) (Pr := []) F sc__law_holds (by decide) hm (fun _ _ _ _ _ _ us hl => match us, hl with | [_, _], _ => rfl) fun A s_0 H_0 env outer stack ex pn hr => ?_
  have hu : A.units + 64 < cLine := by have := hr.un; omega
  exact (vb_cons (s_set (e_call G__law_run hr (a_ex (ve_F (e_var (by kernel_rfl))) (a_ex (ve_F (e_var (by kernel_rfl))) va_nil rfl) rfl) rfl (by kernel_rfl) (by rfl)) (by kernel_rfl))
    (vb_cons (s_set (e_list B.list_ (e_var (by kernel_rfl)) (by kernel_rfl)) (by kernel_rfl))
    (vb_cons (s_set (e_call G_made_one hr (a_ex (ve_F (e_var (by kernel_rfl))) (a_ex (ve_F (e_var (by kernel_rfl))) va_nil rfl) rfl) rfl (by kernel_rfl) (by rfl)) (by kernel_rfl))
    (vb_cons (vs_if (VW.vt (vw_or (vt_not (t_call (e_call G__law_same hr (a_var (a_ex (ve_F (e_var (by kernel_rfl))) va_nil rfl) (by kernel_rfl)) rfl (by kernel_rfl) (by rfl)))) (vw_or1 (t_cmp (op_neA hu) opv_ne (e_var (by kernel_rfl)) (e_var (by kernel_rfl)) rfl)))) (vb_one (vs_ret ve_bl)) vb_nil)
    (vb_cons (s_for rfl rfl (i_rng1 B.range_ (ve_F (e_len B.len_ (e_var (by kernel_rfl)) (by kernel_rfl))) (by kernel_rfl)) (g_name (by kernel_rfl)) (vb_one (vs_if (vt_not (vt_chain op_le op_lt opv_le opv_lt rfl ve_int (ve_bin op_sub opv_sub (e_ix (e_var (by kernel_rfl)) (e_var (by kernel_rfl)) rfl) (e_ix (e_var (by kernel_rfl)) (e_ix (e_var (by kernel_rfl)) (e_var (by kernel_rfl)) rfl) rfl)) (e_var (by kernel_rfl)))) (vb_one (vs_ret ve_bl)) vb_nil)) rfl)
    (vb_cons (s_expr (e_append (e_var (by kernel_rfl)) (l_cons (ve_F ve_int) vl_nil rfl) (by kernel_rfl)) rfl)
    (vb_cons (vs_if (vt_not (t_call (e_call G__law_same hr (a_ex (ve_F (e_call G_made_one hr (a_ex (ve_F (e_var (by kernel_rfl))) (a_ex (ve_F (e_var (by kernel_rfl))) va_nil rfl) rfl) rfl (by kernel_rfl) (by rfl))) (a_ex (ve_F (e_var (by kernel_rfl))) va_nil rfl) rfl) rfl (by kernel_rfl) (by rfl)))) (vb_one (vs_ret ve_bl)) vb_nil)
    (vb_one (vs_ret (e_call G__law_fewest_holds hr (a_ex (ve_F (e_var (by kernel_rfl))) (a_ex (ve_F (e_var (by kernel_rfl))) (a_ex (ve_F (e_var (by kernel_rfl))) va_nil rfl) rfl) rfl) rfl (by kernel_rfl) (by rfl)))))))))))
def v_law1 (c__law_feed c__law_draw c__law_asks c__law_holds : Sem1) : Fv := (dF (dVar 5))
def N_law : List Str := ["script", "feed", "long", "many", "asks", "time"]
theorem sc_law : FnScope N_law ["script"] (defScope s_law) := ⟨rfl, rfl, rfl, by decide +kernel, rfl, by decide +kernel, by decide +kernel⟩
def b_law (c__law_feed c__law_draw c__law_asks c__law_holds : Sem1) : Es := (sSeq (sAsg (dCall c__law_feed [.var 0]) (gSet 1)) (sSeq (sAsg (dBin gAdd (dC (.int 1)) (dCall c__law_draw [.io 1, .ex (dF (dC (.int 9)))])) (gSet 2)) (sSeq (sIf (dT (dBin gEq (dCall c__law_draw [.io 1, .ex (dF (dC (.int 3)))]) (dC (.int 0)))) (sAsg (dBin gAdd (dC (.int 1)) (dCall c__law_draw [.io 1, .ex (dF (dC (.int 999)))])) (gSet 2)) sNx) (sSeq (sAsg (dCall c__law_draw [.io 1, .ex (dF (dC (.int 8)))]) (gSet 3)) (sSeq (sIf (dT (dBin gEq (dCall c__law_draw [.io 1, .ex (dF (dC (.int 4)))]) (dC (.int 0)))) (sAsg (dCall c__law_draw [.io 1, .ex (dF (dC (.int 41)))]) (gSet 3)) sNx) (sSeq (sAsg (dCall c__law_asks [.io 1, .ex (dF (dVar 3)), .ex (dF (dVar 2))]) (gSet 4)) (sSeq (sIf (dOrT (dNotT (dT (dCall c__law_holds [.ex (dF (dVar 4)), .ex (dF (dVar 2))]))) (dNotT (dT (dCall c__law_holds [.ex (dF (dLst dNil)), .ex (dF (dVar 2))])))) (sRet [] (dC (.bool false))) sNx) (sSeq (sIf (dNotT (dT (dCall c__law_holds [.ex (dF (dLc (dIt (dF (dVar 4))) (gSet 5) (dT (dBin gLt (dVar 5) (dC (.int 9999)))) (v_law1 c__law_feed c__law_draw c__law_asks c__law_holds) [5])), .ex (dF (dBin gMin2 (dC (.int 999)) (dBin gAdd (dVar 2) (dC (.int 1)))))]))) (sRet [] (dC (.bool false))) sNx) (sRet [] (dAnd (dCall c__law_holds [.ex (dF (dSl (dVar 4) dNo (dPt (dC (.int 1))))), .ex (dF (dC (.int 999)))]) (dCall c__law_holds [.ex (dF (dSl (dVar 4) dNo (dPt (dC (.int 7))))), .ex (dF (dC (.int 1)))])))))))))))
def F_law : Sem1 := fnD 1 6 [] (b_law F__law_feed F__law_draw F__law_asks F__law_holds)
theorem ok_law {P : Program} {w : World} {K : PySem.W.Frag} {mg : Str → Option Value} {base : Heap} {fa : Addr} {fd : FuncData} (B : Bs mg) (F : FunD K "law" "law" (defArgs s_law) (defBody s_law) (defScope s_law) [] [] fa fd) (hm : mg "law" = some (.ref fa)) (G__law_feed : FnG P w K mg base "_law_feed" 1 1 F__law_feed) (G__law_draw : FnG P w K mg base "_law_draw" 1 2 F__law_draw) (G__law_asks : FnG P w K mg base "_law_asks" 2 3 F__law_asks) (G__law_holds : FnG P w K mg base "_law_holds" 10 2 F__law_holds) : FnOk P w K mg base CX0 11 fa fd ["script"] (spF K 1 F_law) := by
  replace G__law_feed := G__law_feed.mono (k := 10) (by decide)
  replace G__law_draw := G__law_draw.mono (k := 10) (by decide)
  replace G__law_asks := G__law_asks.mono (k := 10) (by decide)
  replace G__law_holds := G__law_holds.mono (k := 10) (by decide)
  refine fn_okL (ps := ["script"]) (N := N_law) (Pr := []) F sc_law (by decide) fun A s_0 H_0 env outer stack ex pn hr => ?_
  have hu : A.units + 64 < cLine := by have := hr.un; omega
  exact (vb_cons (s_set (e_call G__law_feed hr (a_var va_nil (by kernel_rfl)) rfl (by kernel_rfl) (by rfl)) (by kernel_rfl))
    (vb_cons (s_set (ve_bin op_addA opv_add ve_int (e_call G__law_draw hr (a_io (a_ex (ve_F ve_int) va_nil rfl) (by kernel_rfl)) rfl (by kernel_rfl) (by rfl))) (by kernel_rfl))
    (vb_cons (vs_if (t_cmp (op_eqA hu) opv_eq (e_call G__law_draw hr (a_io (a_ex (ve_F ve_int) va_nil rfl) (by kernel_rfl)) rfl (by kernel_rfl) (by rfl)) ve_int rfl) (vb_one (s_set (ve_bin op_addA opv_add ve_int (e_call G__law_draw hr (a_io (a_ex (ve_F ve_int) va_nil rfl) (by kernel_rfl)) rfl (by kernel_rfl) (by rfl))) (by kernel_rfl))) vb_nil)
    (vb_cons (s_set (e_call G__law_draw hr (a_io (a_ex (ve_F ve_int) va_nil rfl) (by kernel_rfl)) rfl (by kernel_rfl) (by rfl)) (by kernel_rfl))
    (vb_cons (vs_if (t_cmp (op_eqA hu) opv_eq (e_call G__law_draw hr (a_io (a_ex (ve_F ve_int) va_nil rfl) (by kernel_rfl)) rfl (by kernel_rfl) (by rfl)) ve_int rfl) (vb_one (s_set (e_call G__law_draw hr (a_io (a_ex (ve_F ve_int) va_nil rfl) (by kernel_rfl)) rfl (by kernel_rfl) (by rfl)) (by kernel_rfl))) vb_nil)
    (vb_cons (s_set (e_call G__law_asks hr (a_io (a_ex (ve_F (e_var (by kernel_rfl))) (a_ex (ve_F (e_var (by kernel_rfl))) va_nil rfl) rfl) (by kernel_rfl)) rfl (by kernel_rfl) (by rfl)) (by kernel_rfl))
    (vb_cons (vs_if (VW.vt (vw_or (vt_not (t_call (e_call G__law_holds hr (a_ex (ve_F (e_var (by kernel_rfl))) (a_ex (ve_F (e_var (by kernel_rfl))) va_nil rfl) rfl) rfl (by kernel_rfl) (by rfl)))) (vw_or1 (vt_not (t_call (e_call G__law_holds hr (a_ex (ve_F (ve_lst vl_nil)) (a_ex (ve_F (e_var (by kernel_rfl))) va_nil rfl) rfl) rfl (by kernel_rfl) (by rfl))))))) (vb_one (vs_ret ve_bl)) vb_nil)
    (vb_cons (vs_if (vt_not (t_call (e_call G__law_holds hr (a_ex (ve_F (e_lc [("time", 5)] rfl (vi_seq (ve_F (e_var (by kernel_rfl)))) (fun _ _ _ _ _ => (g_name (by kernel_rfl))) (fun _ _ _ _ _ => (vts_one (t_cmp op_lt opv_lt (e_var (by kernel_rfl)) ve_int rfl))) (fun _ _ _ _ _ => (ve_F (e_var (by kernel_rfl)))) (by kernel_rfl))) (a_ex (ve_F (e_min2 rfl B.min_ ve_int (ve_bin op_addA opv_add (e_var (by kernel_rfl)) ve_int) (by kernel_rfl))) va_nil rfl) rfl) rfl (by kernel_rfl) (by rfl)))) (vb_one (vs_ret ve_bl)) vb_nil)
    (vb_one (vs_ret (ve_and (e_call G__law_holds hr (a_ex (ve_F (ve_sl (e_var (by kernel_rfl)) vo_none (vo_some ve_int))) (a_ex (ve_F ve_int) va_nil rfl) rfl) rfl (by kernel_rfl) (by rfl)) (ve_one (e_call G__law_holds hr (a_ex (ve_F (ve_sl (e_var (by kernel_rfl)) vo_none (vo_some ve_int))) (a_ex (ve_F ve_int) va_nil rfl) rfl) rfl (by kernel_rfl) (by rfl))))))))))))))
theorem facts {P : Program} {w : World} {K : PySem.W.Frag} {h : Heap} {mg : Str → Option Value} {f : Addr} (X : K.In h) (G : h.Ns mainGlobals mg) (hfa : mg ("law" : Str) = some (.ref f)) (c : He.SaysD fal fnl K) :
    ∃ fd : FuncData, (∀ (s : Shared) (v : Value), BindsTo s fd ⟨[v], []⟩ [("script", v)]) ∧ ∀ base : Heap, K.In base → base.Ns mainGlobals mg → FnOk P w K mg base CX0 11 f fd ["script"] (spF K 1 F_law) := by
  have B : Bs mg := { isinstance_ := He.free_ok X G (c.fact 19 (f := .free "isinstance") rfl), int_ := He.free_ok X G (c.fact 20 (f := .free "int") rfl), bool_ := He.free_ok X G (c.fact 21 (f := .free "bool") rfl), list_ := He.free_ok X G (c.fact 22 (f := .free "list") rfl), tuple_ := He.free_ok X G (c.fact 23 (f := .free "tuple") rfl), str_ := He.free_ok X G (c.fact 24 (f := .free "str") rfl), len_ := He.free_ok X G (c.fact 25 (f := .free "len") rfl), range_ := He.free_ok X G (c.fact 26 (f := .free "range") rfl), enumerate_ := He.free_ok X G (c.fact 27 (f := .free "enumerate") rfl), min_ := He.free_ok X G (c.fact 28 (f := .free "min") rfl), abs_ := He.free_ok X G (c.fact 29 (f := .free "abs") rfl), all_ := He.free_ok X G (c.fact 30 (f := .free "all") rfl) }
  obtain ⟨fd_is_whole, D_is_whole⟩ := c.def_ 0 (d := d_is_whole) rfl
  have m_is_whole := He.glo_ok X G (c.fact 0 (f := .glo "is_whole") rfl)
  obtain ⟨fd_are_wholes, D_are_wholes⟩ := c.def_ 1 (d := d_are_wholes) rfl
  have m_are_wholes := He.glo_ok X G (c.fact 1 (f := .glo "are_wholes") rfl)
  obtain ⟨fd_are_between, D_are_between⟩ := c.def_ 2 (d := d_are_between) rfl
  have m_are_between := He.glo_ok X G (c.fact 2 (f := .glo "are_between") rfl)
  obtain ⟨fd_is_rising, D_is_rising⟩ := c.def_ 3 (d := d_is_rising) rfl
  have m_is_rising := He.glo_ok X G (c.fact 3 (f := .glo "is_rising") rfl)
  obtain ⟨fd_is_index_list, D_is_index_list⟩ := c.def_ 4 (d := d_is_index_list) rfl
  have m_is_index_list := He.glo_ok X G (c.fact 4 (f := .glo "is_index_list") rfl)
  obtain ⟨fd_made_one, D_made_one⟩ := c.def_ 5 (d := d_made_one) rfl
  have m_made_one := He.glo_ok X G (c.fact 5 (f := .glo "made_one") rfl)
  obtain ⟨fd_fewest_asks, D_fewest_asks⟩ := c.def_ 6 (d := d_fewest_asks) rfl
  have m_fewest_asks := He.glo_ok X G (c.fact 6 (f := .glo "fewest_asks") rfl)
  obtain ⟨fd_shows_apart, D_shows_apart⟩ := c.def_ 7 (d := d_shows_apart) rfl
  have m_shows_apart := He.glo_ok X G (c.fact 7 (f := .glo "shows_apart") rfl)
  obtain ⟨fd__law_feed, D__law_feed⟩ := c.def_ 8 (d := d__law_feed) rfl
  have m__law_feed := He.glo_ok X G (c.fact 8 (f := .glo "_law_feed") rfl)
  obtain ⟨fd__law_draw, D__law_draw⟩ := c.def_ 9 (d := d__law_draw) rfl
  have m__law_draw := He.glo_ok X G (c.fact 9 (f := .glo "_law_draw") rfl)
  obtain ⟨fd__law_same, D__law_same⟩ := c.def_ 10 (d := d__law_same) rfl
  have m__law_same := He.glo_ok X G (c.fact 10 (f := .glo "_law_same") rfl)
  obtain ⟨fd__law_asks, D__law_asks⟩ := c.def_ 11 (d := d__law_asks) rfl
  have m__law_asks := He.glo_ok X G (c.fact 11 (f := .glo "_law_asks") rfl)
  obtain ⟨fd__law_run, D__law_run⟩ := c.def_ 12 (d := d__law_run) rfl
  have m__law_run := He.glo_ok X G (c.fact 12 (f := .glo "_law_run") rfl)
  obtain ⟨fd__law_serves, D__law_serves⟩ := c.def_ 13 (d := d__law_serves) rfl
  have m__law_serves := He.glo_ok X G (c.fact 13 (f := .glo "_law_serves") rfl)
  obtain ⟨fd__law_least, D__law_least⟩ := c.def_ 14 (d := d__law_least) rfl
  have m__law_least := He.glo_ok X G (c.fact 14 (f := .glo "_law_least") rfl)
  obtain ⟨fd__law_is_apart, D__law_is_apart⟩ := c.def_ 15 (d := d__law_is_apart) rfl
  have m__law_is_apart := He.glo_ok X G (c.fact 15 (f := .glo "_law_is_apart") rfl)
  obtain ⟨fd__law_fewest_holds, D__law_fewest_holds⟩ := c.def_ 16 (d := d__law_fewest_holds) rfl
  have m__law_fewest_holds := He.glo_ok X G (c.fact 16 (f := .glo "_law_fewest_holds") rfl)
  obtain ⟨fd__law_holds, D__law_holds⟩ := c.def_ 17 (d := d__law_holds) rfl
  have m__law_holds := He.glo_ok X G (c.fact 17 (f := .glo "_law_holds") rfl)
  obtain ⟨fd_law, D_law⟩ := c.def_ 18 (d := d_law) rfl
  have m_law := He.glo_ok X G (c.fact 18 (f := .glo "law") rfl)
  have e := hfa.symm.trans m_law
  cases e
  have b := FunD.bindsA (ps := ["script"]) D_law fun _ _ _ _ _ _ us hl => match us, hl with | [_], _ => rfl
  refine ⟨fd_law, fun s v => b s [v] rfl, fun base _ _ => ?_⟩
  have G_is_whole := ok_is_whole (P := P) (w := w) (base := base) B D_is_whole m_is_whole
  have G_are_wholes := ok_are_wholes (P := P) (w := w) (base := base) B D_are_wholes m_are_wholes G_is_whole
  have G_are_between := ok_are_between (P := P) (w := w) (base := base) B D_are_between m_are_between G_are_wholes
  have G_is_rising := ok_is_rising (P := P) (w := w) (base := base) B D_is_rising m_is_rising
  have G_is_index_list := ok_is_index_list (P := P) (w := w) (base := base) B D_is_index_list m_is_index_list G_are_between G_is_rising
  have G_made_one := ok_made_one (P := P) (w := w) (base := base) B D_made_one m_made_one
  have G_fewest_asks := ok_fewest_asks (P := P) (w := w) (base := base) B D_fewest_asks m_fewest_asks G_made_one
  have G_shows_apart := ok_shows_apart (P := P) (w := w) (base := base) B D_shows_apart m_shows_apart G_is_index_list
  have G__law_feed := ok__law_feed (P := P) (w := w) (base := base) B D__law_feed m__law_feed
  have G__law_draw := ok__law_draw (P := P) (w := w) (base := base) B D__law_draw m__law_draw
  have G__law_same := ok__law_same (P := P) (w := w) (base := base) B D__law_same m__law_same 8
  have G__law_asks := ok__law_asks (P := P) (w := w) (base := base) B D__law_asks m__law_asks G__law_draw
  have G__law_run := ok__law_run (P := P) (w := w) (base := base) B D__law_run m__law_run
  have G__law_serves := ok__law_serves (P := P) (w := w) (base := base) B D__law_serves m__law_serves
  have G__law_least := ok__law_least (P := P) (w := w) (base := base) B D__law_least m__law_least G__law_serves
  have G__law_is_apart := ok__law_is_apart (P := P) (w := w) (base := base) B D__law_is_apart m__law_is_apart
  have G__law_fewest_holds := ok__law_fewest_holds (P := P) (w := w) (base := base) B D__law_fewest_holds m__law_fewest_holds G__law_least G_fewest_asks G__law_same G__law_is_apart G_shows_apart
  have G__law_holds := ok__law_holds (P := P) (w := w) (base := base) B D__law_holds m__law_holds G__law_run G_made_one G__law_same G__law_fewest_holds
  have G_law := ok_law (P := P) (w := w) (base := base) B D_law m_law G__law_feed G__law_draw G__law_asks G__law_holds
  exact G_law
end Lk

set_option Elab.async false
set_option linter.all false
set_option maxRecDepth 100000
namespace Lk
open PySem PySem.Spec L2 Iv
/-! ### shapes -/
theorem p_is_whole (d : D) : F_is_whole [.p d] = some (.p (.bool (match d with
  | .int _ => true
  | _ => false)), [none]) := by
  cases d <;> simp [F_is_whole, fnD, b_is_whole]
theorem q_are_wholes (c : Sem1) (hc : ∀ n, c [.p (.int n)] = some (.p (.bool true), [none])) (ns : List Int) (hl : ns.length ≤ 100000) : b_are_wholes c [some (.p (.list (ns.map .int))), none] = some (.rt (.p (.bool true)), [some (.p (.list (ns.map .int))), none]) := by
  have h := lcL_int (g := gSet 1) (elt := v_are_wholes1 c) (own := [1]) (ρ := [some (.p (.list (ns.map .int))), none]) (fun _ => .bool true) ns (fun n _ =>
    ⟨_, rfl, by simp [v_are_wholes1, hc], rfl⟩)
  simp [b_are_wholes, h, sOk_of hl]
theorem p_are_wholes (ns : List Int) (hl : ns.length ≤ 100000) : F_are_wholes [.p (.list (ns.map .int))] = some (.p (.bool true), [none]) := fn1 (n := 1) rfl (q_are_wholes F_is_whole (fun n => p_is_whole (.int n)) ns hl)
theorem q_are_between (c : Sem1) (ns : List Int) (hc : c [.p (.list (ns.map .int))] = some (.p (.bool true), [none])) (hl : ns.length ≤ 100000) (a b : Int) : b_are_between c [some (.p (.list (ns.map .int))), some (.p (.int a)), some (.p (.int b)), none] = some (.rt (.p (.bool (ns.all fun n => decide (a ≤ n) && decide (n ≤ b)))), [some (.p (.list (ns.map .int))), some (.p (.int a)), some (.p (.int b)), none]) := by
  have h := lcL_int (g := gSet 3) (elt := v_are_between1 c) (own := [3]) (ρ := [some (.p (.list (ns.map .int))), some (.p (.int a)), some (.p (.int b)), none]) (fun n => .bool (decide (a ≤ n) && decide (n ≤ b))) ns (fun n _ =>
    ⟨_, rfl, by by_cases h : a ≤ n <;> simp [v_are_between1, h], rfl⟩)
  simp [b_are_between, h, sOk_of hl, hc]
theorem p_are_between (ns : List Int) (hl : ns.length ≤ 100000) (a b : Int) : F_are_between [.p (.list (ns.map .int)), .p (.int a), .p (.int b)] = some (.p (.bool (ns.all fun n => decide (a ≤ n) && decide (n ≤ b))), [none, none, none]) := fn1 (n := 3) rfl (q_are_between F_are_wholes ns (p_are_wholes ns hl) hl a b)
theorem q_is_rising (ns : List Int) (hl : ns.length ≤ 100000) : b_is_rising [some (.p (.list (ns.map .int))), none] = some (.rt (.p (.bool ((rngI 1 (ns.length - 1)).all fun k => decide (gd ns (k - 1) < gd ns k)))), [some (.p (.list (ns.map .int))), none]) := by
  have h := lcL_int (g := gSet 1) (elt := v_is_rising1) (own := [1]) (ρ := [some (.p (.list (ns.map .int))), none]) (fun k => .bool (decide (gd ns (k - 1) < gd ns k))) (rngI 1 (ns.length - 1)) (fun k hk => by
    have := mem_rngI.mp hk
    have e1 := atI_mapI (ns := ns) (i := k) (by omega) (by omega)
    have e2 := atI_mapI (ns := ns) (i := k - 1) (by omega) (by omega)
    exact ⟨_, rfl, by simp [v_is_rising1, e1, e2], rfl⟩)
  have c3 : sOk (ns.length - 1) = true := sOk_of (by omega)
  have e3 : ((ns.length : Int) - 1).toNat = ns.length - 1 := by omega
  simp [b_is_rising, rOk_nat hl, rngD_ints, e3, h, c3]
theorem p_is_rising (ns : List Int) (hl : ns.length ≤ 100000) : F_is_rising [.p (.list (ns.map .int))] = some (.p (.bool ((rngI 1 (ns.length - 1)).all fun k => decide (gd ns (k - 1) < gd ns k))), [none]) := fn1 (n := 1) rfl (q_is_rising ns hl)
theorem q_is_index_list (c c2 : Sem1) (x : D) (m : Int) (p q : Bool) (h1 : c [.p x, .p (.int 0), .p (.int (m - 1))] = some (.p (.bool p), [none, none, none])) (h2 : c2 [.p x] = some (.p (.bool q), [none])) : b_is_index_list c c2 [some (.p x), some (.p (.int m))] = some (.rt (.p (.bool (p && q))), [some (.p x), some (.p (.int m))]) := by
  cases p <;> simp [b_is_index_list, h1, h2]
theorem p_is_index_list (ns : List Int) (hl : ns.length ≤ 100000) (m : Int) : F_is_index_list [.p (.list (ns.map .int)), .p (.int m)] = some (.p (.bool ((ns.all fun n => decide (0 ≤ n) && decide (n ≤ m - 1)) && (rngI 1 (ns.length - 1)).all fun k => decide (gd ns (k - 1) < gd ns k))), [none, none]) :=
  fn1 (n := 2) rfl (q_is_index_list F_are_between F_is_rising _ m _ _ (p_are_between ns hl 0 (m - 1)) (p_is_rising ns hl))
/-! ### what the law means: the greedy ones -/
/-- the asking that is sent, told by how many askings came -/
def sn (a : List Int) (L : Int) : Nat → Nat
  | 0 => 0
  | k + 1 => if L ≤ gd a k - gd a (sn a L k) then k else sn a L k
theorem sn_le (a : List Int) (L : Int) : ∀ k, sn a L (k + 1) ≤ k
  | 0 => by simp [sn]
  | k + 1 => by
    have := sn_le a L k
    rw [sn]
    split <;> omega
theorem sn_lt (a : List Int) (L : Int) {k n : Nat} (h : k ≤ n) (hn : 0 < n) : sn a L k < n := by
  cases k with
  | zero => exact hn
  | succ k => have := sn_le a L k; omega
def tl (a : List Int) (L : Int) (n : Nat) : List Int := (List.range n).map fun k => (sn a L (k + 1) : Int)
theorem tl_succ (a : List Int) (L : Int) (n : Nat) : tl a L (n + 1) = tl a L n ++ [(sn a L (n + 1) : Int)] := by simp [tl, List.range_succ]
theorem tl_len (a : List Int) (L : Int) (n : Nat) : (tl a L n).length = n := by simp [tl]
theorem gd_tl (a : List Int) (L : Int) {n : Nat} {k : Int} (h0 : 0 ≤ k) (h : k < n) : gd (tl a L n) k = (sn a L (k.toNat + 1) : Int) := by
  obtain ⟨j, rfl⟩ : ∃ j : Nat, k = j := ⟨k.toNat, by omega⟩
  have hk : j < (tl a L n).length := by rw [tl_len]; omega
  rw [gd_at hk]
  simp [tl]
/-- made_one's loop -/
theorem made_loop (a : List Int) (L : Int) (hl : a.length ≤ 100000) : ∀ (ts : List Int) (i : Nat) (o4 o5 : Option M), i + ts.length = a.length → (∀ k (h : k < ts.length), gd a ((i + k : Nat) : Int) = ts[k]) →
    ∃ o4' o5', forL (gTupT 2 (gcCons (gSet 4) (gcCons (gSet 5) gcNil))) l_made_one1 (((ts.map PyData.int).zipIdx i).map fun p => .tuple [.int (p.2 : Int), p.1]) [some (.p (.list (a.map .int))), some (.p (.int L)), some (.lst ((tl a L i).map .int)), some (.p (.int (sn a L i))), o4, o5]
      = some (.nx, [some (.p (.list (a.map .int))), some (.p (.int L)), some (.lst ((tl a L a.length).map .int)), some (.p (.int (sn a L a.length))), o4', o5'])
  | [], i, o4, o5, h, _ => ⟨o4, o5, by simp at h; subst h; simp [forL]⟩
  | t :: ts, i, o4, o5, h, ht => by
    simp only [List.length_cons] at h
    obtain ⟨o4', o5', ih⟩ := made_loop a L hl ts (i + 1) (some (.p (.int (i : Int)))) (some (.p (.int t))) (by omega) (fun k hk => by
      have := ht (k + 1) (by simp; omega)
      rw [show i + 1 + k = i + (k + 1) by omega, this]; rfl)
    refine ⟨o4', o5', ?_⟩
    have e0 : gd a (i : Int) = t := ht 0 (by simp)
    have hs := sn_lt a L (k := i) (n := a.length) (by omega) (by omega)
    have e1 := atI_mapI (ns := a) (i := (sn a L i : Int)) (by omega) (by omega)
    have c1 : sOk ((tl a L i).length + 1) = true := sOk_of (by rw [tl_len]; omega)
    rw [← ih]
    have e2 : sn a L (i + 1) = if L ≤ t - gd a (sn a L i) then i else sn a L i := by rw [sn, e0]
    rw [tl_len] at c1
    by_cases hc : L ≤ t - gd a (sn a L i)
    · rw [if_pos hc] at e2
      simp [forL, gTupT, gcCons, C.m, l_made_one1, e1, hc, tl_succ, e2, tl_len, c1]
    · rw [if_neg hc] at e2
      simp [forL, gTupT, gcCons, C.m, l_made_one1, e1, hc, tl_succ, e2, tl_len, c1]
theorem q_made_one (a : List Int) (L : Int) (hl : a.length ≤ 100000) : ∃ ρ', b_made_one [some (.p (.list (a.map .int))), some (.p (.int L)), none, none, none, none] = some (.rt (.lst ((tl a L a.length).map .int)), ρ') := by
  obtain ⟨o4, o5, h⟩ := made_loop a L hl a 0 none none (by simp) (fun k hk => by rw [Nat.zero_add, gd_at hk])
  have e0 : tl a L 0 = [] := rfl
  have e1 : sn a L 0 = 0 := rfl
  rw [e0, e1] at h
  have e2 : enumD (a.map PyData.int) = ((a.map PyData.int).zipIdx 0).map fun p => .tuple [.int (p.2 : Int), p.1] := rfl
  exact ⟨_, by simp [b_made_one, e2]; simp at h; rw [h]; simp; rfl⟩
theorem p_made_one (a : List Int) (L : Int) (hl : a.length ≤ 100000) : F_made_one [.p (.list (a.map .int)), .p (.int L)] = some (.lst ((tl a L a.length).map .int), [none, none]) := by
  obtain ⟨ρ', h⟩ := q_made_one a L hl
  exact fn1 (n := 2) rfl h
/-! ### _law_run -/
theorem run_loop (a : List Int) (L : Int) (hl : a.length ≤ 100000) : ∀ (m i : Nat) (o : Option M), i + m = a.length →
    ∃ o', forL (gSet 3) l__law_run1 ((rngI (i : Int) m).map .int) [some (.p (.list (a.map .int))), some (.p (.int L)), some (.lst ((tl a L i).map .int)), o] = some (.nx, [some (.p (.list (a.map .int))), some (.p (.int L)), some (.lst ((tl a L a.length).map .int)), o'])
  | 0, i, o, h => ⟨o, by simp at h; subst h; simp [rngI, forL]⟩
  | m + 1, i, o, h => by
    obtain ⟨o', ih⟩ := run_loop a L hl m (i + 1) (some (.p (.int (i : Int)))) (by omega)
    refine ⟨o', ?_⟩
    rw [← ih, rngI_succ]
    have c1 : sOk (i + 1) = true := sOk_of (by omega)
    cases i with
    | zero => simp [forL, l__law_run1, tl_succ, tl_len, c1, sn, tl]
    | succ i =>
      have e1 := atI_mapI (ns := a) (i := ((i + 1 : Nat) : Int)) (by omega) (by omega)
      have hs := sn_lt a L (k := i + 1) (n := a.length) (by omega) (by omega)
      have e2 := atI_mapI (ns := tl a L (i + 1)) (i := ((i + 1 : Nat) : Int) - 1) (by omega) (by rw [tl_len]; omega)
      rw [gd_tl a L (by omega) (by omega), show (((i + 1 : Nat) : Int) - 1).toNat + 1 = i + 1 by omega] at e2
      have e3 := atI_mapI (ns := a) (i := (sn a L (i + 1) : Int)) (by omega) (by omega)
      have e4 : sn a L (i + 2) = if L ≤ gd a ((i + 1 : Nat) : Int) - gd a (sn a L (i + 1)) then i + 1 else sn a L (i + 1) := rfl
      have ne : ¬ ((i + 1 : Nat) : Int) = 0 := by omega
      rw [show ((i + 1 + 1 : Nat) : Int) = ((i + 1 : Nat) : Int) + 1 by omega]
      have hI : ∃ I : Int, ((i + 1 : Nat) : Int) = I ∧ (i : Int) + 1 = I := ⟨_, rfl, by omega⟩
      obtain ⟨I, hI, hI2⟩ := hI
      rw [hI] at e1 e2 e4 ne ⊢
      rw [show i + 1 + 1 = i + 2 from rfl, tl_succ a L (i + 1), show i + 1 + 1 = i + 2 from rfl, e4]
      by_cases hc : gd a I < gd a (sn a L (i + 1)) + L
      · rw [if_neg (by omega)]
        simp [forL, l__law_run1, e1, e2, e3, ne, hc, tl_len, c1]
      · rw [if_pos (by omega)]
        simp [forL, l__law_run1, e1, e2, e3, ne, hc, tl_len, c1, hI2]
theorem p_law_run (a : List Int) (L : Int) (hl : a.length ≤ 100000) : F__law_run [.p (.list (a.map .int)), .p (.int L)] = some (.lst ((tl a L a.length).map .int), [none, none]) := by
  obtain ⟨o, h⟩ := run_loop a L hl a.length 0 none (by simp)
  have e0 : tl a L 0 = [] := rfl
  rw [e0] at h
  have h2 : b__law_run [some (.p (.list (a.map .int))), some (.p (.int L)), none, none] = some (.rt (.lst ((tl a L a.length).map .int)), [some (.p (.list (a.map .int))), some (.p (.int L)), none, o]) := by
    simp at h
    simp [b__law_run, rOk_nat hl, rngD_ints, h]
  exact fn1 (n := 2) rfl h2
/-! ### apart -/
def ap (a : List Int) (L : Int) (n : Nat) : List Int := (rngI 0 n).filter fun k => decide ((sn a L (k.toNat + 1) : Int) = k)
theorem ap_len (a : List Int) (L : Int) (n : Nat) : (ap a L n).length ≤ n := by
  have := List.length_filter_le (fun k : Int => decide ((sn a L (k.toNat + 1) : Int) = k)) (rngI 0 n)
  rw [rngI_len] at this
  exact this
theorem p_fewest_asks (a : List Int) (L : Int) (hl : a.length ≤ 100000) : F_fewest_asks [.p (.list (a.map .int)), .p (.int L)] = some (.tup [.p (.int ((ap a L a.length).length : Int)), .l ((ap a L a.length).map .int)], [none, none]) := by
  have q : ∀ c : Sem1, c [.p (.list (a.map .int)), .p (.int L)] = some (.lst ((tl a L a.length).map .int), [none, none]) → ∃ ρ', b_fewest_asks c [some (.p (.list (a.map .int))), some (.p (.int L)), none, none, none] = some (.rt (.tup [.p (.int ((ap a L a.length).length : Int)), .l ((ap a L a.length).map .int)]), ρ') := by
    intro c hc
    have h := lcL_intF (g := gSet 4) (c := dT (dBin gEq (dIx (dVar 2) (dVar 4)) (dVar 4))) (elt := v_fewest_asks1 c) (own := [4]) (ρ := [some (.p (.list (a.map .int))), some (.p (.int L)), some (.lst ((tl a L a.length).map .int)), none, none])
      (fun k => decide ((sn a L (k.toNat + 1) : Int) = k)) PyData.int (rngI 0 a.length) (fun k hk => by
        have := mem_rngI.mp hk
        have e1 := atI_mapI (ns := tl a L a.length) (i := k) (by omega) (by rw [tl_len]; omega)
        rw [gd_tl a L (by omega) (by omega)] at e1
        exact ⟨_, rfl, by simp [e1], fun _ => by simp [v_fewest_asks1], rfl⟩)
    have hs : sOk (ap a L a.length).length = true := sOk_of (Nat.le_trans (ap_len a L _) hl)
    change lcL _ _ _ _ _ _ = some ((ap a L a.length).map PyData.int, _) at h
    exact ⟨_, by simp [b_fewest_asks, hc, rOk_nat hl, rngD_ints, h, hs, cM]; rfl⟩
  obtain ⟨ρ', h⟩ := q F_made_one (p_made_one a L hl)
  exact fn1 (n := 2) rfl h
/-! ### the greedy ones lie apart -/
/-- not falling -/
def Up (a : List Int) : Prop := ∀ i j : Int, 0 ≤ i → i ≤ j → j < a.length → gd a i ≤ gd a j
theorem sn_near (a : List Int) (L : Int) (hL : 0 < L) (hu : Up a) : ∀ k : Nat, k < a.length → 0 ≤ gd a k - gd a (sn a L (k + 1)) ∧ gd a k - gd a (sn a L (k + 1)) < L := by
  intro k hk
  rw [sn]
  split
  · omega
  · rename_i h
    have := sn_lt a L (k := k) (n := k + 1) (by omega) (by omega)
    have := hu (sn a L k) k (by omega) (by omega) (by omega)
    omega
theorem mem_ap {a : List Int} {L : Int} {n : Nat} {z : Int} : z ∈ ap a L n ↔ (0 ≤ z ∧ z < n) ∧ (sn a L (z.toNat + 1) : Int) = z := by
  unfold ap
  rw [List.mem_filter, mem_rngI]
  simp
theorem ap_succ (a : List Int) (L : Int) (n : Nat) : ap a L (n + 1) = ap a L n ++ if sn a L (n + 1) = n then [(n : Int)] else [] := by
  unfold ap
  have e : rngI 0 (n + 1) = rngI 0 n ++ [(n : Int)] := by simp [rngI, List.range_succ]
  rw [e, List.filter_append]
  congr 1
  by_cases h : sn a L (n + 1) = n
  · simp [h]
  · simp [h]
    omega
/-- the last one apart is the one that is sent -/
theorem ap_last (a : List Int) (L : Int) : ∀ n : Nat, 0 < n → (ap a L n).getLast? = some (sn a L n : Int)
  | 0, h => by omega
  | 1, _ => by simp [ap, rngI, sn]
  | n + 2, _ => by
    rw [ap_succ]
    by_cases h : sn a L (n + 1 + 1) = n + 1
    · have h2 : ((sn a L (n + 2) : Nat) : Int) = n + 1 := by rw [show n + 2 = n + 1 + 1 from rfl, h]; rfl
      rw [if_pos h]; simp [h2]
    · rw [if_neg h, List.append_nil, ap_last a L (n + 1) (by omega)]
      have e : sn a L (n + 1 + 1) = if L ≤ gd a ((n + 1 : Nat) : Int) - gd a (sn a L (n + 1)) then n + 1 else sn a L (n + 1) := rfl
      split at e
      · exact absurd e h
      · rw [e]
theorem sn_step (a : List Int) (L : Int) (k : Nat) : sn a L k ≤ sn a L (k + 1) := by
  have := sn_lt a L (k := k) (n := k + 1) (by omega) (by omega)
  rw [sn]; split <;> omega
theorem sn_mono (a : List Int) (L : Int) {j k : Nat} (h : j ≤ k) : sn a L j ≤ sn a L k := by
  induction k with
  | zero => rw [Nat.le_zero.mp h]; exact Nat.le_refl _
  | succ k ih =>
    by_cases e : j = k + 1
    · subst e; exact Nat.le_refl _
    · exact Nat.le_trans (ih (by omega)) (sn_step a L k)
theorem ap_far (a : List Int) (L : Int) (hu : Up a) {n : Nat} (hn : n ≤ a.length) {x y : Int} (hx : x ∈ ap a L n) (hy : y ∈ ap a L n) (h : x < y) : L ≤ gd a y - gd a x := by
  obtain ⟨⟨x0, x1⟩, x2⟩ := mem_ap.mp hx
  obtain ⟨⟨y0, y1⟩, y2⟩ := mem_ap.mp hy
  have e : sn a L (y.toNat + 1) = if L ≤ gd a (y.toNat : Int) - gd a (sn a L y.toNat) then y.toNat else sn a L y.toNat := rfl
  have lt := sn_lt a L (k := y.toNat) (n := y.toNat) (by omega) (by omega)
  have mo := sn_mono a L (j := x.toNat + 1) (k := y.toNat) (by omega)
  split at e
  · rename_i hc
    have := hu x (sn a L y.toNat) (by omega) (by omega) (by omega)
    rw [show ((y.toNat : Nat) : Int) = y by omega] at hc
    omega
  · omega
theorem ap_rise (a : List Int) (L : Int) (n : Nat) : (ap a L n).Pairwise (· < ·) := by
  induction n with
  | zero => simp [ap, rngI]
  | succ n ih =>
    rw [ap_succ, List.pairwise_append]
    refine ⟨ih, by split <;> simp, fun x hx y hy => ?_⟩
    split at hy
    · have := (mem_ap.mp hx).1
      have : y = n := by simpa using hy
      omega
    · simp at hy
/-! ### _law_same -/
theorem q_same_int (c : Sem1) (x y : Int) : b__law_same c [some (.p (.int x)), some (.p (.int y)), none] = some (.rt (.p (.bool (decide (x = y)))), [some (.p (.int x)), some (.p (.int y)), none]) := by
  simp [b__law_same]
theorem p_same_int (m : Nat) (x y : Int) : F__law_same (m + 1) [.p (.int x), .p (.int y)] = some (.p (.bool (decide (x = y))), [none, none]) := fn1 (n := 2) rfl (q_same_int _ x y)
theorem same_loop (c : Sem1) (hc : ∀ x : Int, c [.p (.int x), .p (.int x)] = some (.p (.bool true), [none, none])) (xs : List Int) : ∀ (m i : Nat) (o : Option M), i + m = xs.length →
    ∃ o', forL (gSet 2) (l__law_same1 c) ((rngI (i : Int) m).map .int) [some (.p (.list (xs.map .int))), some (.p (.list (xs.map .int))), o] = some (.nx, [some (.p (.list (xs.map .int))), some (.p (.list (xs.map .int))), o'])
  | 0, i, o, h => ⟨o, by simp [rngI, forL]⟩
  | m + 1, i, o, h => by
    obtain ⟨o', ih⟩ := same_loop c hc xs m (i + 1) (some (.p (.int (i : Int)))) (by omega)
    refine ⟨o', ?_⟩
    rw [← ih, rngI_succ, show ((i + 1 : Nat) : Int) = (i : Int) + 1 by omega]
    have e1 := atI_mapI (ns := xs) (i := (i : Int)) (by omega) (by omega)
    simp [forL, l__law_same1, e1, hc]
theorem q_same_list (c : Sem1) (hc : ∀ x : Int, c [.p (.int x), .p (.int x)] = some (.p (.bool true), [none, none])) (xs : List Int) (hl : xs.length ≤ 100000) : ∃ ρ', b__law_same c [some (.p (.list (xs.map .int))), some (.p (.list (xs.map .int))), none] = some (.rt (.p (.bool true)), ρ') := by
  obtain ⟨o, h⟩ := same_loop c hc xs xs.length 0 none (by simp)
  simp at h
  exact ⟨_, by simp [b__law_same, rOk_nat hl, rngD_ints, h]; rfl⟩
theorem p_same_list (m : Nat) (xs : List Int) (hl : xs.length ≤ 100000) : F__law_same (m + 2) [.p (.list (xs.map .int)), .p (.list (xs.map .int))] = some (.p (.bool true), [none, none]) := by
  obtain ⟨ρ', h⟩ := q_same_list (F__law_same (m + 1)) (fun x => by rw [p_same_int]; simp) xs hl
  exact fn1 (n := 2) rfl h
/-! ### _law_is_apart -/
def Ch (a : List Int) (L : Int) : Int → List Int → Prop
  | _, [] => True
  | b, x :: xs => (b < x ∧ 0 ≤ x ∧ x < a.length ∧ (0 ≤ b → L ≤ gd a x - gd a b)) ∧ Ch a L x xs
theorem apart_loop (a : List Int) (L : Int) (p : M) (many : M) : ∀ (xs : List Int) (b : Int) (o : Option M), b < a.length → Ch a L b xs →
    ∃ ρ', forL (gSet 5) l__law_is_apart1 (xs.map .int) [some (.p (.list (a.map .int))), some (.p (.int L)), some p, some many, some (.p (.int b)), o] = some (.nx, ρ')
  | [], b, o, _, _ => ⟨_, rfl⟩
  | x :: xs, b, o, hb, ⟨⟨h1, h2, h3, h4⟩, h5⟩ => by
    obtain ⟨ρ', ih⟩ := apart_loop a L p many xs x (some (.p (.int x))) h3 h5
    refine ⟨ρ', ?_⟩
    rw [← ih]
    have e1 := atI_mapI (ns := a) (i := x) h2 h3
    have n1 : ¬ x ≤ b := by omega
    have n2 : ¬ (a.length : Int) ≤ x := by omega
    by_cases hb0 : 0 ≤ b
    · have e2 := atI_mapI (ns := a) (i := b) hb0 hb
      have n3 : ¬ gd a x - gd a b < L := by have := h4 hb0; omega
      simp [forL, l__law_is_apart1, e1, e2, n1, n2, n3, hb0]
    · simp [forL, l__law_is_apart1, e1, n1, n2, hb0]
theorem p_is_apart (a : List Int) (L : Int) (xs : List Int) (hx : Ch a L (-1) xs) : F__law_is_apart [.p (.list (a.map .int)), .p (.int L), .p (.list (xs.map .int)), .p (.int (xs.length : Int))] = some (.p (.bool true), [none, none, none, none]) := by
  obtain ⟨ρ', h⟩ := apart_loop a L (.p (.list (xs.map .int))) (.p (.int (xs.length : Int))) xs (-1) none (by omega) hx
  have h2 : ∃ ρ2, b__law_is_apart [some (.p (.list (a.map .int))), some (.p (.int L)), some (.p (.list (xs.map .int))), some (.p (.int (xs.length : Int))), none, none] = some (.rt (.p (.bool true)), ρ2) := ⟨_, by simp [b__law_is_apart, h]; rfl⟩
  obtain ⟨ρ2, h2⟩ := h2
  exact fn1 (n := 4) rfl h2
theorem ap_ch (a : List Int) (L : Int) (hu : Up a) : Ch a L (-1) (ap a L a.length) := by
  have key : ∀ (xs : List Int) (b : Int), xs.Pairwise (· < ·) → (∀ x ∈ xs, x ∈ ap a L a.length ∧ b < x) → (b = -1 ∨ b ∈ ap a L a.length) → Ch a L b xs := by
    intro xs
    induction xs with
    | nil => intro b _ _ _; trivial
    | cons x xs ih =>
      intro b hp hm hb
      obtain ⟨h1, h2⟩ := List.pairwise_cons.mp hp
      have hx := hm x (by simp)
      have := (mem_ap.mp hx.1).1
      refine ⟨⟨hx.2, this.1, this.2, fun b0 => ?_⟩, ih x h2 (fun y hy => ⟨(hm y (by simp [hy])).1, h1 y hy⟩) (.inr hx.1)⟩
      rcases hb with hb | hb
      · omega
      · exact ap_far a L hu (Nat.le_refl _) hb hx.1 hx.2
  exact key _ _ (ap_rise a L _) (fun x hx => ⟨hx, by have := (mem_ap.mp hx).1; omega⟩) (.inl rfl)
end Lk

set_option Elab.async false
set_option linter.all false
set_option maxRecDepth 100000
namespace Lk
open PySem PySem.Spec L2 Iv
/-! ### shows_apart -/
theorem pw_gd {xs : List Int} (h : xs.Pairwise (· < ·)) {k : Int} (h0 : 1 ≤ k) (h1 : k < xs.length) : gd xs (k - 1) < gd xs k := by
  obtain ⟨j, rfl⟩ : ∃ j : Nat, k = ((j + 1 : Nat) : Int) := ⟨(k - 1).toNat, by omega⟩
  rw [show ((j + 1 : Nat) : Int) - 1 = (j : Int) by omega, gd_at (by omega), gd_at (by omega)]
  exact List.pairwise_iff_getElem.mp h j (j + 1) (by omega) (by omega) (by omega)
theorem gd_mem {xs : List Int} {k : Int} (h0 : 0 ≤ k) (h1 : k < xs.length) : gd xs k ∈ xs := by
  obtain ⟨j, rfl⟩ : ∃ j : Nat, k = (j : Int) := ⟨k.toNat, by omega⟩
  rw [gd_at (by omega)]
  exact List.getElem_mem _
theorem gd_map {xs : List Int} (f : Int → Int) {k : Int} (h0 : 0 ≤ k) (h1 : k < xs.length) : gd (xs.map f) k = f (gd xs k) := by
  obtain ⟨j, rfl⟩ : ∃ j : Nat, k = (j : Int) := ⟨k.toNat, by omega⟩
  rw [gd_at (ns := xs) (by omega), gd_at (ns := xs.map f) (by rw [List.length_map]; omega)]
  simp
theorem q_shows (c : Sem1) (a : List Int) (L : Int) (xs : List Int) (hl : a.length ≤ 100000) (hxl : xs.length ≤ 100000) (hc : c [.p (.list (xs.map .int)), .p (.int (a.length : Int))] = some (.p (.bool true), [none, none]))
    (hr : ∀ x ∈ xs, 0 ≤ x ∧ x < a.length) (hf : ∀ k : Int, 1 ≤ k → k < xs.length → L ≤ gd a (gd xs k) - gd a (gd xs (k - 1))) : ∃ ρ', b_shows_apart c [some (.p (.list (a.map .int))), some (.p (.int L)), some (.p (.list (xs.map .int))), none, none] = some (.rt (.p (.bool true)), ρ') := by
  have g1 := lcL_int (g := gSet 4) (elt := v_shows_apart2 c) (own := [4]) (ρ := [some (.p (.list (a.map .int))), some (.p (.int L)), some (.p (.list (xs.map .int))), none, none]) (fun x => .int (gd a x)) xs (fun x hx => by
    have e1 := atI_mapI (ns := a) (i := x) (hr x hx).1 (hr x hx).2
    exact ⟨_, rfl, by simp [v_shows_apart2, e1], rfl⟩)
  have em : xs.map (fun x => PyData.int (gd a x)) = (xs.map (gd a)).map PyData.int := by simp
  have g2 := lcL_int (g := gSet 4) (elt := v_shows_apart1 c) (own := [4]) (ρ := [some (.p (.list (a.map .int))), some (.p (.int L)), some (.p (.list (xs.map .int))), some (.lst ((xs.map (gd a)).map PyData.int)), none]) (fun _ => .bool true) (rngI 1 (xs.length - 1)) (fun k hk => by
    have := mem_rngI.mp hk
    have e1 := atI_mapI (ns := xs.map (gd a)) (i := k) (by omega) (by simp; omega)
    have e2 := atI_mapI (ns := xs.map (gd a)) (i := k - 1) (by omega) (by simp; omega)
    rw [gd_map _ (by omega) (by omega)] at e1 e2
    have := hf k (by omega) (by omega)
    refine ⟨_, rfl, ?_, rfl⟩
    generalize (xs.map (gd a)).map PyData.int = zs at e1 e2 ⊢
    simp [v_shows_apart1, e1, e2, this])
  rw [em] at g1
  have s1 : sOk ((xs.map (gd a)).map PyData.int).length = true := sOk_of (by simpa using hxl)
  have s2 : ((xs.map (gd a)).map PyData.int).length = xs.length := by simp
  have s3 : sOk (xs.length - 1) = true := sOk_of (by omega)
  have s4 : sOk xs.length = true := sOk_of hxl
  have e3 : ((xs.length : Int) - 1).toNat = xs.length - 1 := by omega
  have r1 := rOk_nat hxl
  generalize (xs.map (gd a)).map PyData.int = zs at g1 g2 s1 s2
  exact ⟨_, by simp [b_shows_apart, hc, g1, s1, s2, s4, r1, rngD_ints, e3, g2, s3]; rfl⟩
theorem p_shows (a : List Int) (L : Int) (hl : a.length ≤ 100000) (hu : Up a) : F_shows_apart [.p (.list (a.map .int)), .p (.int L), .p (.list ((ap a L a.length).map .int))] = some (.p (.bool true), [none, none, none]) := by
  have hxl := Nat.le_trans (ap_len a L a.length) hl
  have hr : ∀ x ∈ ap a L a.length, 0 ≤ x ∧ x < a.length := fun x hx => (mem_ap.mp hx).1
  obtain ⟨ρ', h⟩ := q_shows F_is_index_list a L (ap a L a.length) hl hxl (by
    rw [p_is_index_list _ hxl]
    have e1 : ((ap a L a.length).all fun n => decide (0 ≤ n) && decide (n ≤ (a.length : Int) - 1)) = true := List.all_eq_true.mpr fun x hx => by
      have := hr x hx
      simp; omega
    have e2 : ((rngI 1 ((ap a L a.length).length - 1)).all fun k => decide (gd (ap a L a.length) (k - 1) < gd (ap a L a.length) k)) = true := List.all_eq_true.mpr fun k hk => by
      have := mem_rngI.mp hk
      exact decide_eq_true (pw_gd (ap_rise a L _) (by omega) (by omega))
    rw [e1, e2]; rfl) hr (fun k h0 h1 => ap_far a L hu (Nat.le_refl _) (gd_mem (by omega) (by omega)) (gd_mem (by omega) (by omega)) (pw_gd (ap_rise a L _) (by omega) (by omega)))
  exact fn1 (n := 3) rfl h
/-! ### serves, least -/
def srv (a : List Int) (L : Int) (xs : List Int) : Bool := a.all fun t => xs.any fun k => decide (gd a k ≤ t) && decide (t - gd a k < L)
theorem serves_loop (a : List Int) (L : Int) (xs : List Int) (hl : xs.length ≤ 100000) (hr : ∀ x ∈ xs, 0 ≤ x ∧ x < a.length) : ∀ (ts : List Int) (o : Option M),
    ∃ ρ', forL (gSet 3) l__law_serves2 (ts.map .int) [some (.p (.list (a.map .int))), some (.p (.int L)), some (.p (.list (xs.map .int))), o, none] =
      some (if (ts.all fun t => xs.any fun k => decide (gd a k ≤ t) && decide (t - gd a k < L)) = true then .nx else .rt (.p (.bool false)), ρ')
  | [], o => ⟨_, rfl⟩
  | t :: ts, o => by
    obtain ⟨ρ', ih⟩ := serves_loop a L xs hl hr ts (some (.p (.int t)))
    have g := lcL_intF (g := gSet 4) (c := dAndT (dT (dBin gLe (dIx (dVar 0) (dVar 4)) (dVar 3))) (dT (dBin gLt (dBin gSub (dVar 3) (dIx (dVar 0) (dVar 4))) (dVar 1)))) (elt := v__law_serves1) (own := [4]) (ρ := [some (.p (.list (a.map .int))), some (.p (.int L)), some (.p (.list (xs.map .int))), some (.p (.int t)), none])
      (fun k => decide (gd a k ≤ t) && decide (t - gd a k < L)) PyData.int xs (fun k hk => by
        have e1 := atI_mapI (ns := a) (i := k) (hr k hk).1 (hr k hk).2
        exact ⟨_, rfl, by by_cases h : gd a k ≤ t <;> simp [e1, h], fun _ => by simp [v__law_serves1], rfl⟩)
    have s1 : sOk (xs.filter fun k => decide (gd a k ≤ t) && decide (t - gd a k < L)).length = true := sOk_of (Nat.le_trans (List.length_filter_le _ _) hl)
    have e2 : decide ((xs.filter fun k => decide (gd a k ≤ t) && decide (t - gd a k < L)) = []) = !(xs.any fun k => decide (gd a k ≤ t) && decide (t - gd a k < L)) := by
      cases h : xs.any fun k => decide (gd a k ≤ t) && decide (t - gd a k < L) with
      | true =>
        obtain ⟨k, hk, h2⟩ := List.any_eq_true.mp h
        have : k ∈ (xs.filter fun k => decide (gd a k ≤ t) && decide (t - gd a k < L)) := by rw [List.mem_filter]; exact ⟨hk, h2⟩
        refine decide_eq_false fun z => ?_
        rw [z] at this
        cases this
      | false =>
        refine decide_eq_true (List.filter_eq_nil_iff.mpr fun k hk h2 => ?_)
        have := (List.any_eq_true (p := fun k => decide (gd a k ≤ t) && decide (t - gd a k < L))).mpr ⟨k, hk, h2⟩
        rw [h] at this
        cases this
    generalize (xs.filter fun k => decide (gd a k ≤ t) && decide (t - gd a k < L)) = fs at g s1 e2
    rw [List.all_cons]
    generalize (xs.any fun k => decide (gd a k ≤ t) && decide (t - gd a k < L)) = p at e2 ⊢
    cases p with
    | true =>
      refine ⟨ρ', ?_⟩
      rw [Bool.true_and, ← ih]
      have e3 : ¬ fs = [] := of_decide_eq_false e2
      exact forL_nx rfl (by simp [l__law_serves2, g, s1, e3])
    | false =>
      have e3 : fs = [] := of_decide_eq_true e2
      subst e3
      exact ⟨_, forL_rt rfl (by simp [l__law_serves2, g, s1]; rfl)⟩
theorem p_serves (a : List Int) (L : Int) (xs : List Int) (hl : xs.length ≤ 100000) (hr : ∀ x ∈ xs, 0 ≤ x ∧ x < a.length) : F__law_serves [.p (.list (a.map .int)), .p (.int L), .p (.list (xs.map .int))] = some (.p (.bool (srv a L xs)), [none, none, none]) := by
  obtain ⟨ρ', h⟩ := serves_loop a L xs hl hr a none
  have h2 : ∃ ρ2, b__law_serves [some (.p (.list (a.map .int))), some (.p (.int L)), some (.p (.list (xs.map .int))), none, none] = some (.rt (.p (.bool (srv a L xs))), ρ2) := by
    unfold srv
    generalize (a.all fun t => xs.any fun k => decide (gd a k ≤ t) && decide (t - gd a k < L)) = p at h
    cases p with
    | true => exact ⟨_, by simp [b__law_serves, h]; rfl⟩
    | false => exact ⟨_, by simp [b__law_serves, h]; rfl⟩
  obtain ⟨ρ2, h2⟩ := h2
  exact fn1 (n := 3) rfl h2
/-! ### least -/
/-- all rows of places below n -/
def rows : Nat → List (List Int)
  | 0 => [[]]
  | n + 1 => rows n ++ (rows n).map fun r => r ++ [(n : Int)]
theorem rows_len (n : Nat) : (rows n).length = 2 ^ n := by
  induction n with
  | zero => rfl
  | succ n ih => simp [rows, ih, Nat.pow_succ]; omega
theorem rows_ok : ∀ {n : Nat} {r : List Int}, r ∈ rows n → r.length ≤ n ∧ ∀ x ∈ r, 0 ≤ x ∧ x < n
  | 0, r, h => by
    have : r = [] := by simpa [rows] using h
    subst this
    simp
  | n + 1, r, h => by
    rcases List.mem_append.mp h with h | h
    · obtain ⟨h1, h2⟩ := rows_ok h
      exact ⟨by omega, fun x hx => by have := h2 x hx; omega⟩
    · obtain ⟨q, hq, rfl⟩ := List.mem_map.mp h
      obtain ⟨h1, h2⟩ := rows_ok hq
      refine ⟨by simp; omega, fun x hx => ?_⟩
      rcases List.mem_append.mp hx with hx | hx
      · have := h2 x hx; omega
      · have : x = n := by simpa using hx
        omega
theorem ap_rows (a : List Int) (L : Int) (n : Nat) : ap a L n ∈ rows n := by
  induction n with
  | zero => simp [ap, rngI, rows]
  | succ n ih =>
    rw [ap_succ]
    split
    · exact List.mem_append_right _ (List.mem_map.mpr ⟨_, ih, rfl⟩)
    · rw [List.append_nil]; exact List.mem_append_left _ ih
/-- as data -/
def rw_ (rs : List (List Int)) : List D := rs.map fun r => .list (r.map .int)
theorem lcL_rows {g : Gv} {c : Et} {elt : Fv} {own : List Nat} {ρ : En} (b : List Int → Bool) (f : List Int → D) (rs : List (List Int)) (h : ∀ r ∈ rs, ∃ ρ1, g (.p (.list (r.map .int))) ρ = some ρ1 ∧ c ρ1 = some (b r, ρ1) ∧ (b r = true → elt ρ1 = some (f r, ρ1)) ∧ wipeE own ρ1 = ρ) :
    lcL g c elt own (rw_ rs) ρ = some ((rs.filter b).map f, ρ) := by
  induction rs with
  | nil => rfl
  | cons n ns ih =>
    obtain ⟨ρ1, h1, h2, h3, h4⟩ := h n (by simp)
    have ih := ih fun x hx => h x (by simp [hx])
    show (g (.p (.list (n.map .int))) ρ).bind _ = _
    rw [h1]
    show (c ρ1).bind _ = _
    rw [h2]
    cases hb : b n with
    | true =>
      show (elt ρ1).bind _ = _
      rw [h3 hb]
      show (lcL g c elt own (rw_ ns) (wipeE own ρ1)).bind _ = _
      rw [h4, ih]
      simp [hb]
    | false =>
      show lcL g c elt own (rw_ ns) (wipeE own ρ1) = _
      rw [h4, ih]
      simp [hb]
/-- no row that serves is shorter than the greedy one -/
theorem inj_len : ∀ (xs ys : List Int) (f : Int → Int), xs.Nodup → (∀ x ∈ xs, f x ∈ ys) → (∀ x ∈ xs, ∀ y ∈ xs, f x = f y → x = y) → xs.length ≤ ys.length
  | [], ys, f, _, _, _ => by simp
  | x :: xs, ys, f, hn, hm, hi => by
    obtain ⟨n1, n2⟩ := List.nodup_cons.mp hn
    have := inj_len xs (ys.erase (f x)) f n2 (fun y hy => by
      have ne : f y ≠ f x := fun z => by
        have := hi y (by simp [hy]) x (by simp) z
        subst this
        exact n1 hy
      exact (List.mem_erase_of_ne ne).mpr (hm y (by simp [hy]))) fun y hy z hz => hi y (by simp [hy]) z (by simp [hz])
    have h2 := List.length_erase_of_mem (hm x (by simp))
    have h3 : 0 < ys.length := List.length_pos_of_mem (hm x (by simp))
    simp only [List.length_cons]
    omega
theorem greedy_low (a : List Int) (L : Int) (hu : Up a) (xs : List Int) (hs : srv a L xs = true) : (ap a L a.length).length ≤ xs.length := by
  have key : ∀ p : Int, ∃ k, p ∈ ap a L a.length → k ∈ xs ∧ gd a k ≤ gd a p ∧ gd a p - gd a k < L := fun p => by
    by_cases hp : p ∈ ap a L a.length
    · have hr := (mem_ap.mp hp).1
      have hm : gd a p ∈ a := gd_mem hr.1 hr.2
      obtain ⟨k, hk, h2⟩ := List.any_eq_true.mp (List.all_eq_true.mp hs _ hm)
      simp only [Bool.and_eq_true, decide_eq_true_eq] at h2
      exact ⟨k, fun _ => ⟨hk, h2⟩⟩
    · exact ⟨0, fun z => absurd z hp⟩
  obtain ⟨f, hf⟩ := Classical.axiomOfChoice key
  refine inj_len _ xs f ((ap_rise a L _).imp fun h => by omega) (fun x hx => (hf x hx).1) fun x hx y hy e => ?_
  rcases Int.lt_trichotomy x y with h | h | h
  · have := ap_far a L hu (Nat.le_refl _) hx hy h
    have h1 := hf x hx
    have h2 := hf y hy
    rw [← e] at h2
    omega
  · exact h
  · have := ap_far a L hu (Nat.le_refl _) hy hx h
    have h1 := hf x hx
    have h2 := hf y hy
    rw [← e] at h2
    omega
theorem sn_idem (a : List Int) (L : Int) : ∀ k : Nat, sn a L (sn a L (k + 1) + 1) = sn a L (k + 1)
  | 0 => by
    have : sn a L 1 = 0 := by simp [sn]
    rw [this, this]
  | k + 1 => by
    have e : sn a L (k + 1 + 1) = if L ≤ gd a ((k + 1 : Nat) : Int) - gd a (sn a L (k + 1)) then k + 1 else sn a L (k + 1) := rfl
    by_cases h : L ≤ gd a ((k + 1 : Nat) : Int) - gd a (sn a L (k + 1))
    · rw [if_pos h] at e; rw [e]; exact e
    · rw [if_neg h] at e; rw [e]; exact sn_idem a L k
theorem greedy_serves (a : List Int) (L : Int) (hL : 0 < L) (hu : Up a) : srv a L (ap a L a.length) = true := by
  refine List.all_eq_true.mpr fun t ht => ?_
  obtain ⟨k, hk, rfl⟩ := List.getElem_of_mem ht
  have hn := sn_near a L hL hu k hk
  refine List.any_eq_true.mpr ⟨(sn a L (k + 1) : Int), mem_ap.mpr ⟨⟨by omega, ?_⟩, ?_⟩, ?_⟩
  · have := sn_le a L k; omega
  · rw [show ((sn a L (k + 1) : Int)).toNat = sn a L (k + 1) by omega, sn_idem]
  · rw [← gd_at hk]
    simp only [Bool.and_eq_true, decide_eq_true_eq]
    omega
theorem minL_of {ns : List Int} {m : Int} (h : m ∈ ns) (h2 : ∀ y ∈ ns, m ≤ y) : minL ns = some m := by
  cases e : minL ns with
  | none =>
    cases ns with
    | nil => simp at h
    | cons n ns =>
      exfalso
      unfold minL at e
      revert e
      cases minL ns <;> simp
  | some k =>
    obtain ⟨h3, h4⟩ := minL_ok e
    have := h2 k h3
    have := h4 m h
    congr 1
    omega
theorem rw_len (rs : List (List Int)) : (rw_ rs).length = rs.length := by simp [rw_]
theorem pow7 {n : Nat} (h : n ≤ 7) : 2 ^ n ≤ 128 := by
  have := Nat.pow_le_pow_right (n := 2) (by decide) h
  omega
theorem least_loop (c : Sem1) (x y : M) : ∀ (m i : Nat) (o : Option M), i + m ≤ 7 → ∃ o', forL (gSet 3) (l__law_least3 c) ((rngI (i : Int) m).map .int) [some x, some y, some (.lst (rw_ (rows i))), o, none] = some (.nx, [some x, some y, some (.lst (rw_ (rows (i + m)))), o', none])
  | 0, i, o, h => ⟨o, by simp [rngI, forL]⟩
  | m + 1, i, o, h => by
    obtain ⟨o', ih⟩ := least_loop c x y m (i + 1) (some (.p (.int (i : Int)))) (by omega)
    refine ⟨o', ?_⟩
    rw [show i + (m + 1) = i + 1 + m by omega, ← ih, rngI_succ, show ((i + 1 : Nat) : Int) = (i : Int) + 1 by omega]
    have g := lcL_rows (g := gSet 4) (c := dYes) (elt := v__law_least2 c) (own := [4]) (ρ := [some x, some y, some (.p (.list (rw_ (rows i)))), some (.p (.int (i : Int))), none]) (fun _ => true) (fun r => .list ((r ++ [(i : Int)]).map .int)) (rows i) (fun r hr => by
      have hk := rows_ok hr
      have s1 : sOk (r.length + 1) = true := sOk_of (by omega)
      exact ⟨_, rfl, rfl, fun _ => by simp [v__law_least2, s1], rfl⟩)
    rw [List.filter_eq_self.mpr fun _ _ => rfl] at g
    have e1 : (rows i).map (fun r => PyData.list ((r ++ [(i : Int)]).map .int)) = rw_ ((rows i).map fun r => r ++ [(i : Int)]) := by simp [rw_]
    rw [e1] at g
    have e2 : rw_ (rows (i + 1)) = rw_ (rows i) ++ rw_ ((rows i).map fun r => r ++ [(i : Int)]) := by simp [rw_, rows]
    have p7 := pow7 (n := i) (by omega)
    have s2 : sOk (rw_ ((rows i).map fun r => r ++ [(i : Int)])).length = true := sOk_of (by rw [rw_len, List.length_map, rows_len]; omega)
    have s3 : sOk ((rw_ (rows i)).length + (rw_ ((rows i).map fun r => r ++ [(i : Int)])).length) = true := sOk_of (by rw [rw_len, rw_len, List.length_map, rows_len]; omega)
    rw [e2]
    generalize rw_ ((rows i).map fun r => r ++ [(i : Int)]) = zs at g s2 s3 ⊢
    generalize rw_ (rows i) = ws at g s3 ⊢
    exact forL_nx rfl (by simp [l__law_least3, g, s2, s3])
theorem p_least (a : List Int) (L : Int) (hn : a.length ≤ 7) (hL : 0 < L) (hu : Up a) : F__law_least [.p (.list (a.map .int)), .p (.int L)] = some (.p (.int ((ap a L a.length).length : Int)), [none, none]) := by
  have q : ∀ c : Sem1, (∀ r ∈ rows a.length, c [.p (.list (a.map .int)), .p (.int L), .p (.list (r.map .int))] = some (.p (.bool (srv a L r)), [none, none, none])) → ∃ ρ', b__law_least c [some (.p (.list (a.map .int))), some (.p (.int L)), none, none, none] = some (.rt (.p (.int ((ap a L a.length).length : Int))), ρ') := by
    intro c hc
    obtain ⟨o, h⟩ := least_loop c (.p (.list (a.map .int))) (.p (.int L)) a.length 0 none (by omega)
    rw [Nat.zero_add] at h
    have g := lcL_rows (g := gSet 4) (c := dT (dCall c [.ex (dF (dVar 0)), .ex (dF (dVar 1)), .ex (dF (dVar 4))])) (elt := v__law_least1 c) (own := [4]) (ρ := [some (.p (.list (a.map .int))), some (.p (.int L)), some (.p (.list (rw_ (rows a.length)))), o, none]) (srv a L) (fun r => .int (r.length : Int)) (rows a.length) (fun r hr =>
      ⟨_, rfl, by simp [hc r hr], fun _ => by simp [v__law_least1], rfl⟩)
    have s1 : sOk ((rows a.length).filter (srv a L)).length = true := sOk_of (by
      have := List.length_filter_le (srv a L) (rows a.length)
      rw [rows_len] at this
      have := pow7 hn
      omega)
    have mn : minL (((rows a.length).filter (srv a L)).map fun r => (r.length : Int)) = some ((ap a L a.length).length : Int) := minL_of (List.mem_map.mpr ⟨ap a L a.length, List.mem_filter.mpr ⟨ap_rows a L _, greedy_serves a L hL hu⟩, rfl⟩) fun y hy => by
      obtain ⟨r, hr, rfl⟩ := List.mem_map.mp hy
      have := greedy_low a L hu r (List.mem_filter.mp hr).2
      omega
    have e0 : rw_ (rows 0) = [.list []] := rfl
    rw [e0] at h
    have im : intsD (((rows a.length).filter (srv a L)).map fun r => PyData.int (r.length : Int)) = some (((rows a.length).filter (srv a L)).map fun r => (r.length : Int)) := ints_map _ _
    have s2 : (((rows a.length).filter (srv a L)).map fun r => PyData.int (r.length : Int)).length = ((rows a.length).filter (srv a L)).length := List.length_map ..
    have mm : gMinI (.lst (((rows a.length).filter (srv a L)).map fun r => PyData.int (r.length : Int))) = some (.p (.int ((ap a L a.length).length : Int))) := by
      show (intsD _).bind _ = _
      rw [im]
      show (minL _).map _ = _
      rw [mn]; rfl
    rw [← s2] at s1
    generalize (((rows a.length).filter (srv a L)).map fun r => PyData.int (r.length : Int)) = zs at g s1 mm
    generalize rw_ (rows a.length) = ws at h g
    have r1 := rOk_nat (n := a.length) (by omega)
    simp at h
    exact ⟨_, by simp [b__law_least, r1, rngD_ints, h, g, s1, mm]; rfl⟩
  obtain ⟨ρ', h⟩ := q F__law_serves fun r hr => p_serves a L r (by have := (rows_ok hr).1; omega) (rows_ok hr).2
  exact fn1 (n := 2) rfl h
end Lk

set_option Elab.async false
set_option linter.all false
set_option maxRecDepth 100000
namespace Lk
open PySem PySem.Spec L2 Iv
theorem shp (xs : List Int) : SeqAt.shaped (.list (xs.map PyData.int)) = true := by
  unfold SeqAt.shaped
  have h1 : (PyData.list (xs.map PyData.int)).canLay0 = true := by
    simp only [PyData.canLay0]
    induction xs with
    | nil => simp [PyData.canLayAll0]
    | cons x xs ih => simp [PyData.canLayAll0, PyData.canLay0, ih]
  have h2 : PyData.depthAll (xs.map PyData.int) ≤ 1 := by
    clear h1
    induction xs with
    | nil => simp [PyData.depthAll]
    | cons x xs ih => simp [PyData.depthAll, PyData.depth, ih]
  have h3 : (PyData.list (xs.map PyData.int)).depth ≤ 64 := by simp only [PyData.depth]; omega
  rw [h1, decide_eq_true h3]; rfl
theorem ixc0 {j : Nat} {d : D} {c : C} : ixX (.r j) (.tup [.p d, c]) 0 = some (.m (.p d)) := rfl
theorem ixc1 {j : Nat} {ds : List D} {c : C} : ixX (.r j) (.tup [c, .l ds]) 1 = some (.rc j 1) := rfl
theorem eqv_il (xs : List Int) : PyData.eqv (.list (xs.map PyData.int)) (.list (xs.map PyData.int)) = true := by
  rw [PyData.eqv]
  induction xs with
  | nil => simp [PyData.eqvAll]
  | cons x xs ih => simp [PyData.eqvAll, PyData.eqv, ih]
theorem ne_il (xs : List Int) : gNe (.p (.list (xs.map PyData.int))) (.p (.list (xs.map PyData.int))) = some (.p (.bool false)) := by
  show (eqD _ _).map _ = _
  have : eqD (.p (.list (xs.map PyData.int))) (.p (.list (xs.map PyData.int))) = some true := by
    show (if SeqAt.shaped (.list (xs.map PyData.int)) = true ∧ SeqAt.shaped (.list (xs.map PyData.int)) = true then some (PyData.eqv (.list (xs.map PyData.int)) (.list (xs.map PyData.int))) else none) = _
    rw [if_pos ⟨shp xs, shp xs⟩, eqv_il]
  rw [this]; rfl
/-! ### _law_fewest_holds -/
theorem q_fh (cl cf cs ci ch : Sem1) (a : List Int) (L : Int) (hl : a.length ≤ 100000) (n : Int) (xs : List Int) (hxl : xs.length ≤ 100000) (hn : n = xs.length) (hx : xs = ap a L a.length)
    (h1 : a.length < 8 → cl [.p (.list (a.map .int)), .p (.int L)] = some (.p (.int n), [none, none]))
    (h2 : cf [.p (.list (a.map .int)), .p (.int L)] = some (.tup [.p (.int n), .l (xs.map .int)], [none, none]))
    (h3 : ∀ x : Int, cs [.p (.int x), .p (.int x)] = some (.p (.bool true), [none, none]))
    (h4 : ci [.p (.list (a.map .int)), .p (.int L), .p (.list (xs.map .int)), .p (.int n)] = some (.p (.bool true), [none, none, none, none]))
    (h5 : ch [.p (.list (a.map .int)), .p (.int L), .p (.list (xs.map .int))] = some (.p (.bool true), [none, none, none])) :
    ∃ ρ', b__law_fewest_holds cl cf cs ci ch [some (.p (.list (a.map .int))), some (.p (.int L)), some (.p (.list ((tl a L a.length).map .int))), none, none, none, none, none] = some (.rt (.p (.bool true)), ρ') := by
  have g := lcL_intF (g := gSet 4) (c := dT (dBin gEq (dIx (dVar 2) (dVar 4)) (dVar 4))) (elt := v__law_fewest_holds1 cl cf cs ci ch) (own := [4]) (ρ := [some (.p (.list (a.map .int))), some (.p (.int L)), some (.p (.list ((tl a L a.length).map .int))), none, none, none, none, none])
      (fun k => decide ((sn a L (k.toNat + 1) : Int) = k)) PyData.int (rngI 0 a.length) (fun k hk => by
        have := mem_rngI.mp hk
        have e1 := atI_mapI (ns := tl a L a.length) (i := k) (by omega) (by rw [tl_len]; omega)
        rw [gd_tl a L (by omega) (by omega)] at e1
        exact ⟨_, rfl, by simp [e1], fun _ => by simp [v__law_fewest_holds1], rfl⟩)
  change lcL _ _ _ _ _ _ = some ((ap a L a.length).map PyData.int, _) at g
  rw [← hx] at g
  have s1 : sOk xs.length = true := sOk_of hxl
  have s2 : sOk (xs.length + 1) = true := (sOk_iff _).mpr (by unfold sizeLine; omega)
  have nn := ne_il a
  have r1 := rOk_nat hl
  have hp : pure_ (.int n) = true := rfl
  clear hx
  subst hn
  generalize (tl a L a.length).map PyData.int = due at g ⊢
  generalize hA : a.map PyData.int = A at *
  have hA2 : A.length = a.length := by rw [← hA, List.length_map]
  rw [← hA2] at r1 h1 g
  have pl : pureM (.p (.bool true)) = true := rfl
  by_cases h8 : A.length < 8
  · have h1 := h1 h8
    have h8' : (A.length : Int) < 8 := by omega
    exact ⟨_, by simp [b__law_fewest_holds, r1, rngD_ints, g, s1, s2, h8', h1, h2, h3, h4, h5, nn, ixc0, ixc1]; rfl⟩
  · have h8' : ¬ (A.length : Int) < 8 := by omega
    exact ⟨_, by simp [b__law_fewest_holds, r1, rngD_ints, g, s1, s2, h8', h2, h3, h4, h5, nn, ixc0, ixc1]; rfl⟩
end Lk

set_option Elab.async false
set_option linter.all false
set_option maxRecDepth 100000
namespace Lk
open PySem PySem.Spec L2 Iv
theorem p_fewest_holds (a : List Int) (L : Int) (hl : a.length ≤ 100000) (hL : 0 < L) (hu : Up a) : F__law_fewest_holds [.p (.list (a.map .int)), .p (.int L), .p (.list ((tl a L a.length).map .int))] = some (.p (.bool true), [none, none, none]) := by
  have hxl := Nat.le_trans (ap_len a L a.length) hl
  obtain ⟨ρ', h⟩ := q_fh F__law_least F_fewest_asks (F__law_same 8) F__law_is_apart F_shows_apart a L hl _ (ap a L a.length) hxl rfl rfl (fun h8 => p_least a L (by omega) hL hu) (p_fewest_asks a L hl) (fun x => by rw [p_same_int 7]; simp) (p_is_apart a L _ (ap_ch a L hu)) (p_shows a L hl hu)
  exact fn1 (n := 3) rfl h
theorem holds_loop (c1 c2 c3 c4 : Sem1) (a : List Int) (L : Int) (hL : 0 < L) (hu : Up a) (x y : M) : ∀ (m i : Nat) (o : Option M), i + m = a.length →
    ∃ o', forL (gSet 5) (l__law_holds1 c1 c2 c3 c4) ((rngI (i : Int) m).map .int) [some (.p (.list (a.map .int))), some (.p (.int L)), some x, some y, some (.lst ((tl a L a.length).map .int)), o] = some (.nx, [some (.p (.list (a.map .int))), some (.p (.int L)), some x, some y, some (.lst ((tl a L a.length).map .int)), o'])
  | 0, i, o, h => ⟨o, by simp [rngI, forL]⟩
  | m + 1, i, o, h => by
    obtain ⟨o', ih⟩ := holds_loop c1 c2 c3 c4 a L hL hu x y m (i + 1) (some (.p (.int (i : Int)))) (by omega)
    refine ⟨o', ?_⟩
    rw [← ih, rngI_succ, show ((i + 1 : Nat) : Int) = (i : Int) + 1 by omega]
    have hs := sn_lt a L (k := i + 1) (n := a.length) (by omega) (by omega)
    have e1 := atI_mapI (ns := a) (i := (i : Int)) (by omega) (by omega)
    have e2 := atI_mapI (ns := tl a L a.length) (i := (i : Int)) (by omega) (by rw [tl_len]; omega)
    rw [gd_tl a L (by omega) (by omega), show ((i : Int)).toNat + 1 = i + 1 by omega] at e2
    have e3 := atI_mapI (ns := a) (i := (sn a L (i + 1) : Int)) (by omega) (by omega)
    have n := sn_near a L hL hu i (by omega)
    have n1 : gd a (sn a L (i + 1)) ≤ gd a i := by omega
    exact forL_nx rfl (by simp [l__law_holds1, e1, e2, e3, n1, n.2])
theorem q_holds (c1 c2 c3 c4 : Sem1) (a : List Int) (L : Int) (hl : a.length ≤ 99999) (hL : 0 < L) (hu : Up a)
    (h1 : c1 [.p (.list (a.map .int)), .p (.int L)] = some (.lst ((tl a L a.length).map .int), [none, none])) (h2 : c2 [.p (.list (a.map .int)), .p (.int L)] = some (.lst ((tl a L a.length).map .int), [none, none]))
    (h3 : c3 [.p (.list ((tl a L a.length).map .int)), .p (.list ((tl a L a.length).map .int))] = some (.p (.bool true), [none, none]))
    (h4 : c4 [.p (.list (a.map .int)), .p (.int L), .p (.list ((tl a L a.length).map .int))] = some (.p (.bool true), [none, none, none])) :
    ∃ ρ', b__law_holds c1 c2 c3 c4 [some (.p (.list (a.map .int))), some (.p (.int L)), none, none, none, none] = some (.rt (.p (.bool true)), ρ') := by
  obtain ⟨o, g⟩ := holds_loop c1 c2 c3 c4 a L hL hu (.p (.list ((tl a L a.length).map .int))) (.p (.list (a.map .int))) a.length 0 none (by simp)
  have s1 : sOk ((tl a L a.length).length + 1) = true := sOk_of (by rw [tl_len]; omega)
  have nn := ne_il a
  have r1 := rOk_nat (n := a.length) (by omega)
  have e1 : (((tl a L a.length).map PyData.int).length) = (tl a L a.length).length := List.length_map ..
  rw [← e1] at s1
  have hA2 : (a.map PyData.int).length = a.length := List.length_map ..
  rw [← hA2] at r1
  have g' := g
  rw [← hA2] at g'
  simp only [hA2] at g' r1
  generalize (tl a L a.length).map PyData.int = T at *
  simp at g
  exact ⟨_, by simp [b__law_holds, h1, h2, h3, h4, r1, rngD_ints, g, s1, nn]; rfl⟩
theorem p_holds (a : List Int) (L : Int) (hl : a.length ≤ 99999) (hL : 0 < L) (hu : Up a) : F__law_holds [.p (.list (a.map .int)), .p (.int L)] = some (.p (.bool true), [none, none]) := by
  obtain ⟨ρ', h⟩ := q_holds F__law_run F_made_one (F__law_same 8) F__law_fewest_holds a L hl hL hu (p_law_run a L (by omega)) (p_made_one a L (by omega)) (p_same_list 6 _ (by rw [tl_len]; omega)) (p_fewest_holds a L (by omega) hL hu)
  exact fn1 (n := 2) rfl h
/-! ### the askings -/
theorem up_of {xs : List Int} (h : xs.Pairwise (· ≤ ·)) : Up xs := by
  intro i j h0 hij hj
  obtain ⟨i, rfl⟩ : ∃ k : Nat, i = k := ⟨i.toNat, by omega⟩
  obtain ⟨j, rfl⟩ : ∃ k : Nat, j = k := ⟨j.toNat, by omega⟩
  rw [gd_at (by omega), gd_at (by omega)]
  by_cases e : i = j
  · subst e; exact Int.le_refl _
  · exact List.pairwise_iff_getElem.mp h i j (by omega) (by omega) (by omega)
def Drw (c : Sem1) : Prop := ∀ (f : Fd) (many : Int), FdOk f → 0 < many → many < 18446744073709551616 → ∃ r f', 0 ≤ r ∧ r < many ∧ FdOk f' ∧ c [.fd f, .p (.int many)] = some (.p (.int r), [some (.fd f'), none])
theorem drw : Drw F__law_draw := fun f many h0 h1 h2 => draw_ok h0 h1 h2
theorem asks_step (c : Sem1) (hd : Drw c) (x1 : M) (L : Int) (h1 : 1 ≤ L) (h2 : L ≤ 1000) (f : Fd) (hf : FdOk f) (xs : List Int) (hxl : xs.length ≤ 1000) (t k : Int) (t0 : 0 ≤ t) (t1 : t ≤ 9999) (k0 : 0 ≤ k) (o6 : Option M) : ∃ f' t' o6', FdOk f' ∧ t ≤ t' ∧ t' ≤ 9999 ∧
    l__law_asks1 c [some (.fd f), some x1, some (.p (.int L)), some (.lst (xs.map .int)), some (.p (.int t)), some (.p (.int k)), o6] = some (.nx, [some (.fd f'), some x1, some (.p (.int L)), some (.lst ((xs ++ [t']).map .int)), some (.p (.int t')), some (.p (.int k)), o6']) := by
  obtain ⟨r1, f1, a0, a1, hf1, e1⟩ := hd f (2 * L) hf (by omega) (by omega)
  obtain ⟨r2, f2, b0, b1, hf2, e2⟩ := hd f1 5 hf1 (by omega) (by omega)
  have m1 : cMul 2 L = true := cMul_small (by omega)
  have s1 : sOk (xs.length + 1) = true := sOk_of (by omega)
  by_cases hk : 0 < k
  · obtain ⟨r3, f3, c0, c1, hf3, e3⟩ := hd f2 7 hf2 (by omega) (by omega)
    have at_ : L2.atI [PyData.int 0, .int (L - 1), .int L, .int (L + 1), .int 1, .int r1, .int r2] r3 = some (.int (gd [0, L - 1, L, L + 1, 1, r1, r2] r3)) := atI_mapI (ns := [0, L - 1, L, L + 1, 1, r1, r2]) c0 (by simpa using c1)
    have v0 : 0 ≤ gd [0, L - 1, L, L + 1, 1, r1, r2] r3 := by
      have := gd_mem (xs := [0, L - 1, L, L + 1, 1, r1, r2]) c0 (by simpa using c1)
      simp only [List.mem_cons, List.not_mem_nil, or_false] at this
      omega
    generalize gd [0, L - 1, L, L + 1, 1, r1, r2] r3 = v at at_ v0
    refine ⟨f3, if t + v < 9999 then t + v else 9999, _, hf3, by split <;> omega, by split <;> omega, by simp [l__law_asks1, e1, e2, e3, m1, hk, at_, s1]; rfl⟩
  · refine ⟨f2, t, _, hf2, Int.le_refl _, t1, by simp [l__law_asks1, e1, e2, m1, hk, s1]; rfl⟩
theorem asks_loop (c : Sem1) (hd : Drw c) (x1 : M) (L : Int) (h1 : 1 ≤ L) (h2 : L ≤ 1000) : ∀ (m : Nat) (k : Int) (f : Fd) (xs : List Int) (t : Int) (o5 o6 : Option M), FdOk f → xs.length + m ≤ 1000 → 0 ≤ t → t ≤ 9999 → 0 ≤ k → xs.Pairwise (· ≤ ·) → (∀ x ∈ xs, x ≤ t) →
    ∃ (f' : Fd) (xs' : List Int) (o4 o5' o6' : Option M), FdOk f' ∧ xs'.length ≤ 1000 ∧ xs'.Pairwise (· ≤ ·) ∧ forL (gSet 5) (l__law_asks1 c) ((rngI k m).map .int) [some (.fd f), some x1, some (.p (.int L)), some (.lst (xs.map .int)), some (.p (.int t)), o5, o6] = some (.nx, [some (.fd f'), some x1, some (.p (.int L)), some (.lst (xs'.map .int)), o4, o5', o6'])
  | 0, k, f, xs, t, o5, o6, hf, hl, _, _, _, hp, _ => ⟨f, xs, _, _, _, hf, by omega, hp, rfl⟩
  | m + 1, k, f, xs, t, o5, o6, hf, hl, t0, t1, k0, hp, hx => by
    obtain ⟨f', t', o6', hf', t2, t3, e⟩ := asks_step c hd x1 L h1 h2 f hf xs (by omega) t k t0 t1 k0 o6
    obtain ⟨f2, xs', o4, o5', o6', hf2, hl2, hp2, ih⟩ := asks_loop c hd x1 L h1 h2 m (k + 1) f' (xs ++ [t']) t' (some (.p (.int k))) o6' hf' (by simp; omega) (by omega) t3 (by omega) (by
      rw [List.pairwise_append]
      exact ⟨hp, by simp, fun x hx2 y hy => by have := hx x hx2; have : y = t' := (by simpa using hy); omega⟩) (fun x hx2 => by
      rcases List.mem_append.mp hx2 with z | z
      · have := hx x z; omega
      · have : x = t' := by simpa using z
        omega)
    exact ⟨f2, xs', o4, o5', o6', hf2, hl2, hp2, by rw [rngI_succ, ← ih]; exact forL_nx rfl e⟩
theorem p_asks (f : Fd) (hf : FdOk f) (m : Int) (m0 : 0 ≤ m) (m1 : m ≤ 100) (L : Int) (h1 : 1 ≤ L) (h2 : L ≤ 1000) : ∃ (f' : Fd) (xs : List Int), FdOk f' ∧ xs.length ≤ 1000 ∧ xs.Pairwise (· ≤ ·) ∧ F__law_asks [.fd f, .p (.int m), .p (.int L)] = some (.lst (xs.map .int), [some (.fd f'), none, none]) := by
  have q : ∀ c : Sem1, Drw c → ∃ (f' : Fd) (xs : List Int) (o4 o5 o6 : Option M), FdOk f' ∧ xs.length ≤ 1000 ∧ xs.Pairwise (· ≤ ·) ∧ b__law_asks c [some (.fd f), some (.p (.int m)), some (.p (.int L)), none, none, none, none] = some (.rt (.lst (xs.map .int)), [some (.fd f'), some (.p (.int m)), some (.p (.int L)), none, o4, o5, o6]) := by
    intro c hd
    obtain ⟨r1, f1, a0, a1, hf1, e1⟩ := hd f 30 hf (by omega) (by omega)
    obtain ⟨f', xs, o4, o5, o6, hf', hl, hp, e⟩ := asks_loop c hd (.p (.int m)) L h1 h2 m.toNat 0 f1 [] r1 none none hf1 (by simp; omega) a0 (by omega) (by omega) (by simp) (by simp)
    have r := rOk_int m0 (by omega)
    simp only [List.map_nil] at e
    exact ⟨f', xs, o4, o5, o6, hf', hl, hp, by simp [b__law_asks, e1, r, rngD_ints, e]⟩
  obtain ⟨f', xs, o4, o5, o6, hf', hl, hp, e⟩ := q F__law_draw drw
  exact ⟨f', xs, hf', hl, hp, fn1 (n := 3) (N := 7) (P := [0]) (b := b__law_asks F__law_draw) (ms := [.fd f, .p (.int m), .p (.int L)]) rfl e⟩
theorem cut_take (xs : List D) (k : Nat) (h : k ≤ 1000) : cut xs none (some (k : Int)) = xs.take k := by
  unfold cut
  rw [HT.sIx_none, HT.sIx_nat, List.drop_zero, Nat.sub_zero]
  by_cases h : k ≤ xs.length
  · rw [Nat.min_eq_left h]
  · rw [Nat.min_eq_right (by omega), List.take_length, List.take_of_length_le (by omega)]
theorem q_law (c1 c2 c3 c4 : Sem1) (ns : List Int) (hn : ns.length ≤ 63) (h1 : c1 [.scr ns] = some (.fd ⟨ns, 0, 0, 1⟩, [none])) (hd : Drw c2)
    (h3 : ∀ (f : Fd), FdOk f → ∀ m : Int, 0 ≤ m → m ≤ 100 → ∀ L : Int, 1 ≤ L → L ≤ 1000 → ∃ (f' : Fd) (xs : List Int), FdOk f' ∧ xs.length ≤ 1000 ∧ xs.Pairwise (· ≤ ·) ∧ c3 [.fd f, .p (.int m), .p (.int L)] = some (.lst (xs.map .int), [some (.fd f'), none, none]))
    (h4 : ∀ (a : List Int) (L : Int), a.length ≤ 99999 → 0 < L → a.Pairwise (· ≤ ·) → c4 [.p (.list (a.map .int)), .p (.int L)] = some (.p (.bool true), [none, none])) :
    ∃ ρ', b_law c1 c2 c3 c4 [some (.scr ns), none, none, none, none, none] = some (.rt (.p (.bool true)), ρ') := by
  have f0 : FdOk ⟨ns, 0, 0, 1⟩ := ⟨Int.le_refl _, by show (0 : Int) ≤ ns.length; omega, Int.le_refl _, by show (0 : Int) ≤ 1; omega, by show (1 : Int) < 2147483647; omega, by show ns.length ≤ 100000; omega⟩
  obtain ⟨r1, f1, a0, a1, hf1, e1⟩ := hd _ 9 f0 (by omega) (by omega)
  obtain ⟨r2, f2, b0, b1, hf2, e2⟩ := hd f1 3 hf1 (by omega) (by omega)
  have k1 : ∃ f3 L, FdOk f3 ∧ 1 ≤ L ∧ L ≤ 1000 ∧ sIf (dT (dBin gEq (dCall c2 [.io 1, .ex (dF (dC (.int 3)))]) (dC (.int 0)))) (sAsg (dBin gAdd (dC (.int 1)) (dCall c2 [.io 1, .ex (dF (dC (.int 999)))])) (gSet 2)) sNx [some (.scr ns), some (.fd f1), some (.p (.int (1 + r1))), none, none, none] = some (.nx, [some (.scr ns), some (.fd f3), some (.p (.int L)), none, none, none]) := by
    by_cases hz : r2 = 0
    · obtain ⟨r3, f3, c0, c1', hf3, e3⟩ := hd f2 999 hf2 (by omega) (by omega)
      exact ⟨f3, 1 + r3, hf3, by omega, by omega, by simp [e2, hz, e3]⟩
    · exact ⟨f2, 1 + r1, hf2, by omega, by omega, by simp [e2, hz]⟩
  obtain ⟨f3, L, hf3, L1, L2, k1⟩ := k1
  obtain ⟨r4, f4, d0, d1, hf4, e4⟩ := hd f3 8 hf3 (by omega) (by omega)
  obtain ⟨r5, f5, g0, g1, hf5, e5⟩ := hd f4 4 hf4 (by omega) (by omega)
  have k2 : ∃ f6 m, FdOk f6 ∧ 0 ≤ m ∧ m ≤ 100 ∧ sIf (dT (dBin gEq (dCall c2 [.io 1, .ex (dF (dC (.int 4)))]) (dC (.int 0)))) (sAsg (dCall c2 [.io 1, .ex (dF (dC (.int 41)))]) (gSet 3)) sNx [some (.scr ns), some (.fd f4), some (.p (.int L)), some (.p (.int r4)), none, none] = some (.nx, [some (.scr ns), some (.fd f6), some (.p (.int L)), some (.p (.int m)), none, none]) := by
    by_cases hz : r5 = 0
    · obtain ⟨r6, f6, c0, c1', hf6, e6⟩ := hd f5 41 hf5 (by omega) (by omega)
      exact ⟨f6, r6, hf6, by omega, by omega, by simp [e5, hz, e6]⟩
    · exact ⟨f5, r4, hf5, by omega, by omega, by simp [e5, hz]⟩
  obtain ⟨f6, m, hf6, m0, m1, k2⟩ := k2
  obtain ⟨f7, xs, hf7, hl, hp, e7⟩ := h3 f6 hf6 m m0 m1 L L1 L2
  have q1 := h4 xs L (by omega) (by omega) hp
  have q2 := h4 [] L (by simp) (by omega) (by simp)
  have q3 := h4 (xs.filter fun t => decide (t < 9999)) (if L + 1 < 999 then L + 1 else 999) (by have := List.length_filter_le (fun t : Int => decide (t < 9999)) xs; omega) (by split <;> omega) (hp.filter _)
  have q4 := h4 (xs.take 1) 999 (by have := List.length_take_le 1 xs; omega) (by omega) (hp.sublist (List.take_sublist _ _))
  have q5 := h4 (xs.take 7) 1 (by have := List.length_take_le 7 xs; omega) (by omega) (hp.sublist (List.take_sublist _ _))
  have w1 : cut (xs.map PyData.int) none (some 1) = (xs.take 1).map PyData.int := by rw [show (1 : Int) = ((1 : Nat) : Int) from rfl, cut_take _ 1 (by omega), List.map_take]
  have w7 : cut (xs.map PyData.int) none (some 7) = (xs.take 7).map PyData.int := by rw [show (7 : Int) = ((7 : Nat) : Int) from rfl, cut_take _ 7 (by omega), List.map_take]
  have g := lcL_intF (g := gSet 5) (c := dT (dBin gLt (dVar 5) (dC (.int 9999)))) (elt := v_law1 c1 c2 c3 c4) (own := [5]) (ρ := [some (.scr ns), some (.fd f7), some (.p (.int L)), some (.p (.int m)), some (.p (.list (xs.map .int))), none]) (fun t => decide (t < 9999)) PyData.int xs (fun k _ => ⟨_, rfl, by simp, fun _ => by simp [v_law1], rfl⟩)
  have s1 : sOk (xs.filter fun t => decide (t < 9999)).length = true := sOk_of (by have := List.length_filter_le (fun t : Int => decide (t < 9999)) xs; omega)
  generalize (xs.filter fun t => decide (t < 9999)) = ys at g s1 q3
  generalize xs.take 1 = z1 at w1 q4
  generalize xs.take 7 = z7 at w7 q5
  generalize xs.map PyData.int = X at *
  simp only [List.map_nil] at q2
  simp only [b_law, z_sSeq]
  rw [show sAsg (dCall c1 [.var 0]) (gSet 1) [some (.scr ns), none, none, none, none, none] = some (.nx, [some (.scr ns), some (.fd ⟨ns, 0, 0, 1⟩), none, none, none, none]) by simp [h1]]
  simp only [Option.bind_some]
  rw [show sAsg (dBin gAdd (dC (.int 1)) (dCall c2 [.io 1, .ex (dF (dC (.int 9)))])) (gSet 2) [some (.scr ns), some (.fd ⟨ns, 0, 0, 1⟩), none, none, none, none] = some (.nx, [some (.scr ns), some (.fd f1), some (.p (.int (1 + r1))), none, none, none]) by simp [e1]]
  simp only [Option.bind_some]
  rw [k1]
  simp only [Option.bind_some]
  rw [show sAsg (dCall c2 [.io 1, .ex (dF (dC (.int 8)))]) (gSet 3) [some (.scr ns), some (.fd f3), some (.p (.int L)), none, none, none] = some (.nx, [some (.scr ns), some (.fd f4), some (.p (.int L)), some (.p (.int r4)), none, none]) by simp [e4]]
  simp only [Option.bind_some]
  rw [k2]
  simp only [Option.bind_some]
  exact ⟨_, by simp [e7, q1, q2, g, s1, q3, q4, q5, w1, w7]; rfl⟩
theorem p_feed (ns : List Int) : F__law_feed [.scr ns] = some (.fd ⟨ns, 0, 0, 1⟩, [none]) := fn1 (n := 1) (ρ' := [some (.scr ns)]) rfl rfl
theorem plain (ns : List Int) (hn : ns.length ≤ 63) : ∃ o, F_law [.scr ns] = some (.p (.bool true), o) := by
  obtain ⟨ρ', h⟩ := q_law F__law_feed F__law_draw F__law_asks F__law_holds ns hn (p_feed ns) drw (fun f hf m m0 m1 L h1 h2 => p_asks f hf m m0 m1 L h1 h2) (fun a L h1 h2 h3 => p_holds a L h1 h2 (up_of h3))
  exact ⟨_, fn1 (n := 1) rfl h⟩
end Lk

open PySem PySem.W PySem.Calls
theorem PySem.Challenge.cw_storedfresh_k44_whole_askings_made_one_holds : PySem.Challenge.rw_storedfresh_k44_whole_askings_made_one.Holds := by
  w_on; o_law
  refine HandSHeadRun.head_any (r := OpenLaw.row PySem.Challenge.rw_storedfresh_k44_whole_askings_made_one) (q := view (OpenLaw.row PySem.Challenge.rw_storedfresh_k44_whole_askings_made_one).prog [21]) (H := Lk.hk) (ob := Lk.ob) (M := 4000) (loose := Lk.loose) (d := HandSHeadRun.topDef (OpenLaw.row PySem.Challenge.rw_storedfresh_k44_whole_askings_made_one).prog 21) (kwd := []) Lk.ob_eq
    (by kernel_rfl) (fun s => by kernel_rfl) Lk.run (by kernel_rfl) (by kernel_rfl) (by kernel_rfl) (by rfl) (by first | assumption | decide +kernel) (by decide +kernel) ⟨rfl, rfl, rfl, rfl, rfl, by decide +kernel⟩ ?hw ?hc
  case hw => w_witness2
  case hc =>
    refine L2.walk_ofE (l := PySem.Challenge.rw_storedfresh_k44_whole_askings_made_one) (n := 63) (k := 11) (x := "script") (CX := L2.CX0) rfl (by decide) (by kernel_rfl) ⟨rfl, by decide, by decide⟩ ?F (fun _ _ _ _ z => z)
    intro w mg fa h Y G hmg0
    obtain ⟨K, KX, c⟩ := Y
    have hmg : mg ("law" : PySem.Str) = some (.ref fa) := by
      have e : (HandSHeadRun.topDef (OpenLaw.row PySem.Challenge.rw_storedfresh_k44_whole_askings_made_one).prog 21).name = ("law" : PySem.Str) := by kernel_rfl
      rw [← e]
      exact hmg0
    obtain ⟨fd, hb, hF⟩ := Lk.facts (P := (PySem.Challenge.rw_storedfresh_k44_whole_askings_made_one).prog) (w := w) KX G hmg c
    exact ⟨K, fd, Iv.spF K 1 Lk.F_law, KX, hb, fun H a ns hl _ hS => Iv.spF_law hS (Lk.plain ns hl), hF⟩


